import PyProof.Rows.All
import Wide.All
import OpenK.AllK
import Wide.FinOn
import HandS.ForMost
import HandS.Defaults
import HandS.Zip
import HandS.Walk
import HandS.Set
import HandS.SetFor
import HandS.Strs
import HandS.DictComp
import HandS.Wide
import HandS.HeadHook1
import HandS.HeadHook2
import HandS.Head0
import HandS.Head1
import HandS.Head2
import HandS.HeadEnd
import PySem.Challenge.RW_stonestairs_k51_disks_torn_in_any_order
set_option Elab.async false
set_option linter.all false
set_option maxRecDepth 100000
set_option maxHeartbeats 0
/-! SbSet: set(l) of a list of ints, sorted. -/
namespace Sb
open PySem PySem.Spec PyProof.Rows L2
/-- an empty set as it is made -/
abbrev sOb (w : World) : Obj := { cls := .type "set", dict := none, data := .set #[] 0 (.fresh 0 0 (!w.params.followText "set-order")) }
section
variable {P : Program} {w : World} {A : Around} {E : Value → Shared → Prop} {s : Shared}
theorem set_of_list {a : Addr} {its : Array Value} (js : List Int) {R : Value → Shared → Prop} (calm : A.handled = none) (isl : s.heap.IsList a its) (iare : IntsAre its.toList js) (few : js.length + 1 < scanBound)
    (fin : ∀ (g : Heap) (t c : Nat), SetR w g s.heap.objs.size (fun i => decide (i ∈ js)) c → (∀ b o, s.heap.get? b = some o → g.get? b = some o) → R (.ref s.heap.objs.size) { s with heap := g, toks := t }) :
    wpAny (model P w) A (call (.type "set") [.ref a]) R E s := by
  have many : its.size = js.length := (Array.length_toList (xs := its)).symm.trans (IntsAre.length iare)
  obtain ⟨cm, tm, mro⟩ := F.called_set.mro
  have mk1 := F.called_set.made
  have mk2 := F.called_set.sub
  have mk3 := F.called_set.notType
  have mk4 := F.called_set.canCreate
  have mk5 := F.typeCall_set_1 (.ref a)
  refine wpAny_call (codeAny_of_tree (?_ : wpAny _ _ (callAny (.type "set") _) _ _ _))
  refine wpAny_pure ⟨Code.quiet_builtin _ (by decide +kernel), codeAny_builtin F.entry_type_call ?_⟩
  rw [Around.under_plain (weight_type_call_type "set" [.ref a] []) rfl]
  repeat (any_goals (first | assumption | wp_step))
  refine codeAny_mono (code_set_led1 (.ref a) (E := E) (Q₁ := fun v s1 => v = .ref s.heap.objs.size ∧ s1 = { s with heap := s.heap.push (sOb w) }) ⟨rfl, rfl⟩) fun res s1 got => ?_
  cases res with
  | error e => exact got
  | ok flow =>
    cases flow with
    | next => exact got.elim
    | brk => exact got.elim
    | cont => exact got.elim
    | ret v =>
      obtain ⟨rfl, rfl⟩ := got
      have at1 : (s.heap.push (sOb w)).get? s.heap.objs.size = some (sOb w) := Heap.get?_push_size _ rfl
      have ty1 : Shared.TypeIs { s with heap := s.heap.push (sOb w) } (.ref s.heap.objs.size) "set" := ⟨_, at1, rfl⟩
      have in1 := F.called_set.init.lookup
      have in2 := F.called_set.init.bind (.ref s.heap.objs.size)
      repeat (any_goals (first | assumption | wp_step))
      let Post : Value → Shared → Prop := fun r s2 => r = .none ∧ ∃ g t c, s2 = { s with heap := g, toks := t } ∧ SetR w g s.heap.objs.size (fun i => decide (i ∈ js)) c ∧ ∀ b o, s.heap.get? b = some o → g.get? b = some o
      refine codeAny_mono (codeAny_call_builtin (R := wants Post E) F.called_set.init.plain F.entry_set_init (check_set_init_1 ty1 ?_)) fun res2 s2 got2 => ?_
      · obtain ⟨⟨oc, od, odat, osl⟩, atl, hc, nn, hd⟩ := isl
        simp only at hc hd
        subst hc
        subst hd
        have atl2 := Heap.get?_push_of_some (sOb w) atl
        have isl2 : (s.heap.push (sOb w)).IsList a its := ⟨_, atl2, rfl, nn, rfl⟩
        have n1 := F.sub_list_set
        have n2 := F.sub_list_frozenset
        have n3 : (Value.type "list" == Value.type "dict") = false := by decide
        unfold Builtin.«set.__init__» noKeywords Builtin.Frozenset.updateFrom
        generalize gen : pyIter = it
        wp_walk
        subst gen
        refine wpAny_pyIter_list isl2 (wpAny_bind (wpAny_runValue ?_))
        have lt1 : a < s.heap.objs.size := Heap.lt_size atl
        have sz1 : (s.heap.push (sOb w)).objs.size = s.heap.objs.size + 1 := Heap.size_push ..
        have calm3 : A.in1.in1.in1.handled = none := by simp [calm]
        have apart : a ≠ (s.heap.push (sOb w)).objs.size := by rw [sz1]; exact Nat.ne_of_lt (Nat.lt_succ_of_lt lt1)
        have out1 : s.heap.objs.size ∉ [(s.heap.push (sOb w)).objs.size, a] := by
          rw [sz1]
          intro q
          rcases List.mem_cons.mp q with z | z
          · exact Nat.ne_of_lt (Nat.lt_succ_self _) z
          · exact Nat.ne_of_lt lt1 (List.mem_singleton.mp z).symm
        have val : ∀ (i : Nat) (v : Value), its[i]? = some v → ∃ k t, js[i]? = some k ∧ v = .int k t := fun i v hv => by
          have lt2 : i < js.length := by rw [← many]; exact (Array.getElem?_eq_some_iff.mp hv).1
          obtain ⟨t, e⟩ := PyProof.Rows.IntsAre.int_at iare i v (by rw [Array.getElem?_toList]; exact hv)
          refine ⟨js[i], t, List.getElem?_eq_getElem lt2, ?_⟩
          rw [e, List.getD_eq_getElem?_getD, List.getElem?_eq_getElem lt2]
          rfl
        refine set_update_ints ((Walks.list calm3 _ a apart its).toS) s.heap.objs.size out1 js many few val (its.size - 0) 0 _ (by omega) (Nat.zero_le _) ⟨⟨_, Heap.get?_push_size _ rfl, rfl, rfl⟩, (isl2.push _)⟩
          ⟨0, Nat.le_refl 0, setR_new_at (Heap.get?_push_of_some _ at1)⟩ fun s3 c moved cle set3 => ?_
        obtain ⟨g, gs, dr, tk, os⟩ := s3
        obtain rfl : gs = s.gens := moved.gens
        obtain rfl : dr = s.drawn := moved.drawn
        obtain rfl : os = s.os := moved.os
        refine (wpAny_pure ?_ : wpAny _ _ _ _ _ _)
        refine (wpAny_pure ?_ : wpAny _ _ (ret Value.none) _ _ _)
        refine ⟨rfl, g, tk, c, rfl, set3, fun b o e => ?_⟩
        have lt3 : b < s.heap.objs.size := Heap.lt_size e
        refine moved.heap b o (fun q => ?_) (Heap.get?_push_of_some _ (Heap.get?_push_of_some _ e))
        rw [sz1] at q
        rcases List.mem_cons.mp q with z | z
        · exact Nat.ne_of_lt lt3 z
        · exact Nat.ne_of_lt (Nat.lt_succ_of_lt lt3) (List.mem_singleton.mp z)
      · cases res2 with
        | error e => exact got2
        | ok flow2 =>
          cases flow2 with
          | next => exact got2.elim
          | brk => exact got2.elim
          | cont => exact got2.elim
          | ret r =>
            obtain ⟨rfl, g, t, c, rfl, set3, kp⟩ := got2
            repeat (any_goals (first | assumption | wp_step))
            exact fin _ _ _ set3 kp
end
/-- set(l): a new set of l's ints; it has as many as a list of them without doubles -/
def rSetI (K : PySem.W.Frag) (w : World) : List V → Hp → VK → Prop := fun xs H Q => ∃ (a : Addr) (js : List Int), xs = [V.ref a] ∧ SqL K H a (js.map V.int) ∧ js.length ≤ 4000 ∧
  ∀ p n, H p = none → (∀ L : List Int, L.Nodup → (∀ k, k ∈ L ↔ k ∈ js) → L.length = n) → Q (.ref p) (upd H p (SetO w p (fun k => decide (k ∈ js)) n))
theorem setR_count {w : World} {h : Heap} {a : Addr} {S : Int → Bool} {n : Nat} (R : SetR w h a S n) (L : List Int) (nd : L.Nodup) (hm : ∀ k, k ∈ L ↔ S k = true) : L.length = n := by
  obtain ⟨o, es, ep, t, _, _, _, _, nd2, hm2, _, _, hn, _⟩ := R
  have p : L.Perm (es.toList.map keyOf) := (List.perm_ext_iff_of_nodup nd nd2).mpr fun k => (hm k).trans (hm2 k)
  rw [p.length_eq, List.length_map, ← hn]
  exact Array.length_toList
theorem cr_setI {X : Cx} (hc : X.calm = true) : CallR X (.type "set") (rSetI X.K X.w) := by
  intro pins s σ H xs us Q I r h
  obtain ⟨a, js, rfl, hl, hlen, q⟩ := h
  rw [Vals.ref1 r]
  obtain ⟨its, rv, pl, hz⟩ := I.list hl
  have ii : IntsAre its js := ints_of_vals rv
  refine set_of_list (P := X.prog) (w := X.w) js (I.ok.hd hc) pl.isList (by simpa using ii) (by unfold scanBound; omega) fun g t c R k => ?_
  exact ⟨.ref s.heap.objs.size, _, I.laid (t' := t) k (Nat.le_refl _) (setO_new R), rfl, q _ c (I.hok.fresh (Nat.le_refl _)) fun L nd hm => setR_count R L nd fun k => (hm k).trans (by simp)⟩
end Sb
/-! SbBase: own lemmas over the hand layer. -/
namespace Sb
open PySem PySem.Spec PyProof.Rows L2
/-! ### what the top has left -/
structure Wd0 (fa : List He.Fa) (fn : List He.DefD) (K : PySem.W.Frag) (mg : Str → Option Value) : Prop where
  says : He.SaysD fa fn K
  at_ : ∃ h : Heap, K.In h ∧ h.Ns mainGlobals mg
section
variable {fa : List He.Fa} {fn : List He.DefD} {K : PySem.W.Frag} {mg : Str → Option Value}
theorem Wd0.glo (W : Wd0 fa fn K mg) {x : Str} (c : (He.Fa.glo x).ok K = true) : mg x = some (.ref (He.ga K x)) := by
  obtain ⟨h, X, G⟩ := W.at_
  exact He.glo_ok X G c
theorem Wd0.free (W : Wd0 fa fn K mg) {x : Str} (c : (He.Fa.free x).ok K = true) : mg x = none := by
  obtain ⟨h, X, G⟩ := W.at_
  exact He.free_ok X G c
theorem Wd0.int (W : Wd0 fa fn K mg) {x : Str} {i : Int} (c : (He.Fa.int x i).ok K = true) : ∃ t, mg x = some (.int i t) := by
  obtain ⟨h, X, G⟩ := W.at_
  exact He.int_ok X G c
theorem Wd0.str (W : Wd0 fa fn K mg) {x z : Str} (c : (He.Fa.str x z).ok K = true) : ∃ t, mg x = some (.str z t) := by
  obtain ⟨h, X, G⟩ := W.at_
  exact He.str_ok X G c
end
/-- a def at f keeps its promise, and binds all its parameters -/
structure Ok (P : Program) (w : World) (K : PySem.W.Frag) (mg : Str → Option Value) (base : Heap) (k : Nat) (f : Addr) (ps : List Str) (sp : Sp) : Prop where
  ex : ∃ fd, FnOk P w K mg base CX0 k f fd ps sp ∧ Binds K fd ps []
  kp : PySem.W.keepIn K (.ref f) = true
  fo : ∀ fd, (∃ oc od osl, K.lookup f = some ⟨oc, od, .func fd, osl⟩) → FnOk P w K mg base CX0 k f fd ps sp
section
variable {P : Program} {w : World} {K : PySem.W.Frag} {mg : Str → Option Value} {base : Heap} {fa : List He.Fa} {fn : List He.DefD}
/-- how a def of the text is shown to keep its promise -/
theorem Wd0.ok (W : Wd0 fa fn K mg) (i : Nat) {d : He.DefD} {N ps : List Str} {k : Nat} {sp : Sp} (hd : fn[i]? = some d) (h1 : d.dfl = []) (h2 : d.kwd = []) (S : FnScope N ps d.scope) (len : ∀ vs H Q E, sp vs H Q E → vs.length = ps.length)
    (hb : ∀ (kV doc pm : Value) (an : Option Addr) (cdv ct : Value) (us : List Value), us.length = ps.length → bindArgs (PySem.W.fnOf d.name d.qual d.params d.body d.scope .none kV doc pm an cdv ct) ⟨us, []⟩ = pure (ps.zip us))
    (body : ∀ (cdv : Value) (A : Around) (outer : List Env) (s : Shared) (H : Hp) (vs : List V) (Q : VK) (E : XK), Room k (A.deeper (envOfC d.qual d.scope s.heap.objs.size (He.fAd K d.at_) cdv)) → sp vs H Q E →
      ∃ t, PSs (cxOf CX0 P w K mg base N d.qual d.scope (He.fAd K d.at_) cdv A outer s H E).nox d.body t ∧ t { nx := fun _ H' => Q .non H', rt := Q } (start N vs) H) : Ok P w K mg base (k + 1) (He.fAd K d.at_) ps sp := by
  obtain ⟨fd, F⟩ := W.says.def_ i hd
  have e1 : d.dvs K = [] := by unfold He.DefD.dvs; rw [h1]; rfl
  have e2 : d.kws K = [] := by unfold He.DefD.kws; rw [h2]; rfl
  rw [e1, e2] at F
  have F2 : FnOk P w K mg base CX0 (k + 1) (He.fAd K d.at_) fd ps sp := F.ok S len (fun cdv A outer s H vs Q E hr h => by
    obtain ⟨t, h3, h4⟩ := body cdv A outer s H vs Q E hr h
    exact ⟨t, h3.nox, h4⟩)
  refine ⟨⟨fd, F2, F.bindsN hb⟩, F.kp, fun g z => ?_⟩
  obtain ⟨oc, od, dV, kV, doc, pm, an, cdv, ct, osl, _, lk, _⟩ := F.ex
  obtain ⟨oc2, od2, osl2, lk2⟩ := z
  have e := Option.some.inj (lk.symm.trans lk2)
  cases e
  exact F2
theorem Ok.mono {j k : Nat} {f : Addr} {ps : List Str} {sp : Sp} (G : Ok P w K mg base j f ps sp) (h : j ≤ k) : Ok P w K mg base k f ps sp := by
  obtain ⟨⟨fd, F, b⟩, kp, fo⟩ := G
  exact ⟨⟨fd, F.mono h, b⟩, kp, fun g z => (fo g z).mono h⟩
theorem Ok.imp {k : Nat} {f : Addr} {ps : List Str} {sp sp' : Sp} (G : Ok P w K mg base k f ps sp) (h : ∀ vs H Q E, sp' vs H Q E → sp vs H Q E) : Ok P w K mg base k f ps sp' := by
  obtain ⟨⟨fd, F, b⟩, kp, fo⟩ := G
  exact ⟨⟨fd, F.imp h, b⟩, kp, fun g z => (fo g z).imp h⟩
end
section
variable {X : Cx} {j k : Nat} {f C : Addr} {ps : List Str} {sp : Sp} {x m : Str} {p pos apos : Pos} {e o : Expr} {es : List Expr} {ta : TE} {t : TA}
def tCallG (sp : Sp) (t : TA) : TE := fun σ H Q => t σ H fun vs H1 => sp vs H1 Q E0
theorem pe_callG (G : Ok X.prog X.w X.K X.mg X.base j f ps sp) (hr : Room k X.A) (hg : Gl X x) (hm : X.mg x = some (.ref f)) (ha : PA X (e :: es) t) (hjk : j ≤ k := by decide) (hdb : (x == ("__debug__" : Str)) = false := by decide)
    (he : starEach (e :: es) X.env = (false, eval e X.env) :: starEach es X.env := by rfl) (hpl : (backTo pos (starEach es X.env)).any (·.1) = false := by rfl) : PE X (.Call (.Name x p) (e :: es) [] pos) (tCallG sp t) := by
  obtain ⟨⟨fd, F, b⟩, kp, fo⟩ := G
  have h := pe_call (p := p) (pos := pos) F (hr.mono hjk) hg hm kp b .nil pass0 ha hdb he hpl
  refine ⟨fun pins s σ H Q I q => h.run pins s σ H Q I ?_⟩
  have q2 : t σ H fun vs H1 => sp vs H1 Q E0 := q
  show t σ H fun vs H1 => sp (vs ++ []) H1 Q E0
  simpa only [List.append_nil] using q2
theorem pe_callG0 (G : Ok X.prog X.w X.K X.mg X.base j f ps sp) (hr : Room k X.A) (hg : Gl X x) (hm : X.mg x = some (.ref f)) (hjk : j ≤ k := by decide) (hdb : (x == ("__debug__" : Str)) = false := by decide) : PE X (.Call (.Name x p) [] [] pos) (tCallG sp tNil) := by
  obtain ⟨⟨fd, F, b⟩, kp, fo⟩ := G
  exact pe_call0 F (hr.mono hjk) hg hm kp b .nil pass0 hdb
def tMakeG (C : Addr) (sp : Sp) (t : TA) : TE := fun σ H Q => t σ H fun vs H1 => ∀ x dx, H1 x = none → H1 dx = none → dx ≠ x → sp (.ref x :: vs) (upd (upd H1 dx (.own x)) x (.ins C dx [])) (fun v H2 => v = .non ∧ Q (.ref x) H2) E0
theorem pe_makeG (M : Mk X.K C f) (G : Ok X.prog X.w X.K X.mg X.base j f ps sp) (hr : Room k X.A) (hg : Gl X x) (hm : X.mg x = some (.ref C)) (ha : PA X (e :: es) t) (hjk : j + 1 ≤ k := by decide) (hdb : (x == ("__debug__" : Str)) = false := by decide)
    (he : starEach (e :: es) X.env = (false, eval e X.env) :: starEach es X.env := by rfl) (hpl : (backTo pos (starEach es X.env)).any (·.1) = false := by rfl) : PE X (.Call (.Name x p) (e :: es) [] pos) (tMakeG C sp t) := by
  obtain ⟨⟨fd, F, b⟩, kp, fo⟩ := G
  have h := pe_make (p := p) (pos := pos) M F (hr.mono hjk) hg hm b .nil pass0 ha hdb he hpl
  refine ⟨fun pins s σ H Q I q => h.run pins s σ H Q I ?_⟩
  have q2 : t σ H fun vs H1 => ∀ x dx, H1 x = none → H1 dx = none → dx ≠ x → sp (.ref x :: vs) (upd (upd H1 dx (.own x)) x (.ins C dx [])) (fun v H2 => v = .non ∧ Q (.ref x) H2) E0 := q
  show t σ H fun vs H1 => ∀ x dx, H1 x = none → H1 dx = none → dx ≠ x → sp (.ref x :: (vs ++ [])) _ _ E0
  simpa only [List.append_nil] using q2
theorem pe_makeG0 (M : Mk X.K C f) (G : Ok X.prog X.w X.K X.mg X.base j f ps sp) (hr : Room k X.A) (hg : Gl X x) (hm : X.mg x = some (.ref C)) (hjk : j + 1 ≤ k := by decide) (hdb : (x == ("__debug__" : Str)) = false := by decide) : PE X (.Call (.Name x p) [] [] pos) (tMakeG C sp tNil) := by
  obtain ⟨⟨fd, F, b⟩, kp, fo⟩ := G
  exact pe_make0 M F (hr.mono hjk) hg hm b .nil pass0 hdb
/-! fields of an instance: a structure α of values, laid by mk -/
def tGet {α : Type} (C : Addr) (mk : α → List (Str × V)) (sel : α → V) (ta : TE) : TE := fun σ H Q => ta σ H fun x H1 => ∃ a dx s, x = .ref a ∧ H1 a = some (.ins C dx (mk s)) ∧ Q (sel s) H1
theorem pe_get {α : Type} {mk : α → List (Str × V)} {sel : α → V} {fl : Str} (c : Cls X.K C) (n : NoAttr X.K C fl) (l : ∀ s, (mk s).lookup fl = some (sel s)) (he : PE X e ta) (hb : attributeBase e fl X.env (eval e X.env) = eval e X.env := by rfl) :
    PE X (.Attribute e fl pos) (tGet C mk sel ta) := by
  refine ⟨fun pins s σ H Q I h => attr_of hb (thn (he.run pins s σ H _ I h) fun u s1 hq => ?_)⟩
  obtain ⟨x, H1, I1, rx, a, dx, st, ex, ea, q⟩ := hq
  subst ex
  cases rx
  exact getattr_ok I1 ea c n (l st) fun u' s2 I2 ru => ⟨_, H1, I2, ru, q⟩
/-- the heap behind a store at p -/
structure Wr (H H' : Hp) (p : Addr) (o : HO) : Prop where
  at_ : H' p = some o
  ne : ∀ b, b ≠ p → H' b = H b
/-- the heap behind a new object at p -/
structure New (H H' : Hp) (p : Addr) (o : HO) : Prop where
  nw : H p = none
  at_ : H' p = some o
  ne : ∀ b, b ≠ p → H' b = H b
theorem New.same {H H' : Hp} {p : Addr} {o : HO} (n : New H H' p o) : Same H H' := fun b u e => by
  rw [n.ne b (ne_of_none e n.nw)]
  exact e
theorem wr_upd {H : Hp} {p : Addr} {o : HO} : Wr H (upd H p o) p o := ⟨upd_same, fun _ h => upd_ne h⟩
theorem new_upd {H : Hp} {p : Addr} {o : HO} (h : H p = none) : New H (upd H p o) p o := ⟨h, upd_same, fun _ h => upd_ne h⟩
theorem Wr.eq {H H' : Hp} {p : Addr} {o : HO} (n : Wr H H' p o) : H' = upd H p o := by
  funext b
  by_cases h : b = p
  · rw [h, n.at_, upd_same]
  · rw [n.ne b h, upd_ne h]
theorem New.eq {H H' : Hp} {p : Addr} {o : HO} (n : New H H' p o) : H' = upd H p o := Wr.eq ⟨n.at_, n.ne⟩
theorem new_all {H : Hp} {o : Addr → HO} {R : Addr → Hp → Prop} (h : ∀ p H', New H H' p (o p) → R p H') : ∀ p, H p = none → R p (upd H p (o p)) := fun p hp => h p _ (new_upd hp)
theorem wr_one {H : Hp} {p : Addr} {o : HO} {R : Hp → Prop} (h : ∀ H', Wr H H' p o → R H') : R (upd H p o) := h _ wr_upd
def tSetF {α : Type} (C : Addr) (mk : α → List (Str × V)) (st : α → V → α) (ta tv : TE) : TS := fun D σ H => tv σ H fun y H1 => ta σ H1 fun x H2 => ∃ a dx s, x = .ref a ∧ H2 a = some (.ins C dx (mk s)) ∧ D.nx σ (upd H2 a (.ins C dx (mk (st s y))))
theorem ps_setF {α : Type} {mk : α → List (Str × V)} {st : α → V → α} {fl : Str} {value : Expr} {pos' : Pos} {tv : TE} (c : Cls X.K C) (n : NoAttr X.K C fl) (l : ∀ s y, putF fl y (mk s) = mk (st s y)) (hl : ∀ s, (mk s).length < 1000) (ha : PE X o ta) (hv : PE X value tv)
    (hs : swapsWith value (some (.Attribute o fl pos')) pos.line X.env = pure false := by rfl) : PS X (.Assign [.Attribute o fl pos'] value pos) (tSetF C mk st ta tv) := by
  refine ⟨fun pins s σ H D I h => plainObj_wpAny_Assign_Attribute (thn (hv.run pins s σ H _ I h) fun u s1 h1 => ?_) hs⟩
  obtain ⟨y, H1, I1, ry, q⟩ := h1
  refine thn (ha.run pins s1 σ H1 _ I1 q) fun ov s2 h2 => ?_
  obtain ⟨x, H2, I2, rx, a, dx, sv, ex, ea, q2⟩ := h2
  subst ex
  cases rx
  refine setattr_ok I2 ea c n (hl sv) ry fun s3 I3 => ⟨σ, _, I3, ?_⟩
  rw [l]
  exact q2
def tMethG {α : Type} (C : Addr) (mk : α → List (Str × V)) (sp : Sp) (ta : TE) (t : TA) : TE := fun σ H Q => ta σ H fun x H1 => ∃ a dx s, x = .ref a ∧ H1 a = some (.ins C dx (mk s)) ∧ t σ H1 fun vs H2 => sp (x :: vs) H2 Q E0
theorem pe_methG {α : Type} {mk : α → List (Str × V)} {pl : Sem Bool} (c : Cls X.K C) (hm : Meth X.K C m f) (l : ∀ s, (mk s).lookup m = none) (G : Ok X.prog X.w X.K X.mg X.base j f ps sp) (hr : Room k X.A) (he : PE X o ta) (ha : PA X (e :: es) t) (hjk : j ≤ k := by decide)
    (hst : starEach (e :: es) X.env = (false, eval e X.env) :: starEach es X.env := by rfl) (hpl : (backTo pos (starEach es X.env)).any (·.1) = false := by rfl)
    (ht : eval (.Call (.Attribute o m apos) (e :: es) [] pos) X.env = (do
      let base1 ← eval o X.env
      standAt apos.atName
      let (called, frst) ← holding [base1] (getMethod base1 m pl)
      callWith pos called frst (backTo pos (starEach (e :: es) X.env)) (backToKw pos (keywordEach [] X.env))) := by rfl) :
    PE X (.Call (.Attribute o m apos) (e :: es) [] pos) (tMethG C mk sp ta t) := by
  obtain ⟨⟨fd, F, b⟩, kp, fo⟩ := G
  refine ⟨fun pins s σ H Q I h => PySem.W.methodCall_KW (pl := pl) (thn (he.run pins s σ H _ I h) fun u s1 h1 => ?_) ht⟩
  obtain ⟨x, H1, I1, rx, a, dx, sv, ex, ea, q⟩ := h1
  subst ex
  cases rx
  refine getmeth_ok I1 ea c hm (l sv) ?_
  refine PySem.W.callWith_K (first := [.ref a]) (h₀ := X.base) I.ok.mod.kin hm.kp (thn (ha.run pos pins s1 σ H1 _ I1 q) fun us s2 h2 => ?_) hst hpl
  obtain ⟨vs, H2, I2, r, q2⟩ := h2
  exact ⟨I2.kIn, run_fn (us := .ref a :: us) (vs := .ref a :: vs) F (hr.mono hjk) b .nil pass0 I2 (.cons rfl r) (by rw [List.append_nil]; exact q2)⟩
theorem pe_methG0 {α : Type} {mk : α → List (Str × V)} {pl : Sem Bool} (c : Cls X.K C) (hm : Meth X.K C m f) (l : ∀ s, (mk s).lookup m = none) (G : Ok X.prog X.w X.K X.mg X.base j f ps sp) (hr : Room k X.A) (he : PE X o ta) (hjk : j ≤ k := by decide)
    (ht : eval (.Call (.Attribute o m apos) [] [] pos) X.env = (do
      let base1 ← eval o X.env
      standAt apos.atName
      let (called, frst) ← holding [base1] (getMethod base1 m pl)
      callWith pos called frst (backTo pos (starEach [] X.env)) (backToKw pos (keywordEach [] X.env))) := by rfl) :
    PE X (.Call (.Attribute o m apos) [] [] pos) (tMethG C mk sp ta tNil) := by
  obtain ⟨⟨fd, F, b⟩, kp, fo⟩ := G
  refine ⟨fun pins s σ H Q I h => PySem.W.methodCall_KW (pl := pl) (thn (he.run pins s σ H _ I h) fun u s1 h1 => ?_) ht⟩
  obtain ⟨x, H1, I1, rx, a, dx, sv, ex, ea, q⟩ := h1
  subst ex
  cases rx
  refine getmeth_ok I1 ea c hm (l sv) ?_
  exact PySem.W.callWith_K0 (first := [.ref a]) I1.kIn hm.kp (run_fn (us := [.ref a]) (vs := [.ref a]) F (hr.mono hjk) b .nil pass0 I1 (.cons rfl .nil) q)
/-! operators that tell by their values which one they are -/
def rAddA (K : PySem.W.Frag) : R2 := fun x y H Q => rI0 (fun i j => .int (i + j)) x y H Q ∨ rCat x y H Q ∨ rCatT K x y H Q ∨ ∃ i j, x = .str i ∧ y = .str j ∧ i.length + j.length ≤ sizeLine ∧ Q (.str (i ++ j)) H
theorem op_addA : OpR X (binaryOp .Add) (rAddA X.K) := op_add.or (op_cat.or (op_catT.or op_add_str))
def rMulA : R2 := fun x y H Q => rI CMul (fun i j => .int (i * j)) x y H Q ∨ rRep x y H Q
theorem op_mulA : OpR X (binaryOp .Mult) rMulA := op_mul.or op_rep
def rEqA (K : PySem.W.Frag) : R2 := fun x y H Q => rEq x y H Q ∨ rEqD K x y H Q
theorem op_eqA (hu : X.A.units + 64 < cLine) : OpR X (compareOp .Eq) (rEqA X.K) := op_eq.or (op_eqD hu)
def rNeA (K : PySem.W.Frag) : R2 := fun x y H Q => rNe x y H Q ∨ rNeD K x y H Q
theorem op_neA (hu : X.A.units + 64 < cLine) : OpR X (compareOp .NotEq) (rNeA X.K) := op_ne.or (op_neD hu)
/-! readings, one step each -/
section
variable {D : Ends} {σ : L2.St} {H : Hp} {Q : VK} {K : PySem.W.Frag} {te tb : TE} {u v w : TS} {g : TG} {tt tu : TT} {ta : TA} {Qt : Bool → Hp → Prop} {Qa : List V → Hp → Prop} {Qg : L2.St → Hp → Prop}
theorem rd_nx {f : L2.St → Hp → Prop} {r : VK} {b c : L2.St → Hp → Prop} (h : f σ H) : Ends.nx ⟨f, r, b, c⟩ σ H := h
theorem rd_rt {x : V} {f : L2.St → Hp → Prop} {r : VK} {b c : L2.St → Hp → Prop} (h : r x H) : Ends.rt ⟨f, r, b, c⟩ x H := h
theorem rd_bk {f : L2.St → Hp → Prop} {r : VK} {b c : L2.St → Hp → Prop} (h : b σ H) : Ends.bk ⟨f, r, b, c⟩ σ H := h
theorem rd_ct {f : L2.St → Hp → Prop} {r : VK} {b c : L2.St → Hp → Prop} (h : c σ H) : Ends.ct ⟨f, r, b, c⟩ σ H := h
theorem rd_seq {f : L2.St → Hp → Prop} {r : VK} {b c : L2.St → Hp → Prop} (h : u ⟨w ⟨f, r, b, c⟩, r, b, c⟩ σ H) : tSeq u w ⟨f, r, b, c⟩ σ H := h
theorem rd_next {f : L2.St → Hp → Prop} {r : VK} {b c : L2.St → Hp → Prop} (h : f σ H) : tNext ⟨f, r, b, c⟩ σ H := h
theorem rd_asg {f : L2.St → Hp → Prop} {r : VK} {b c : L2.St → Hp → Prop} (h : te σ H fun x H1 => g x σ H1 f) : tAsg te g ⟨f, r, b, c⟩ σ H := h
theorem rd_name {i : Nat} {x : V} {σ' : L2.St} (e : σ.set i (some x) = σ') (h : Qg σ' H) : gName i x σ H Qg := by rw [← e] at h; exact h
theorem rd_var {i : Nat} {x : V} (e : σ[i]? = some (some x)) (h : Q x H) : tVar i σ H Q := ⟨x, e, h⟩
theorem rd_c {x : V} (h : Q x H) : tC x σ H Q := h
theorem rd_op {r : R2} (h : te σ H fun x H1 => tb σ H1 fun y H2 => r x y H2 Q) : tOp r te tb σ H Q := h
theorem rd_un {r : V → Hp → VK → Prop} (h : te σ H fun x H1 => r x H1 Q) : tUn r te σ H Q := h
theorem rd_i0 {f : Int → Int → V} {i j : Int} (h : Q (f i j) H) : rI0 f (.int i) (.int j) H Q := ⟨i, j, rfl, rfl, h⟩
theorem rd_i {C : Int → Int → Prop} {f : Int → Int → V} {i j : Int} (c : C i j) (h : Q (f i j) H) : rI C f (.int i) (.int j) H Q := ⟨i, j, rfl, rfl, c, h⟩
theorem rd_u {f : Int → V} {i : Int} (h : Q (f i) H) : rU f (.int i) H Q := ⟨i, rfl, h⟩
theorem rd_addI {i j : Int} (h : Q (.int (i + j)) H) : rAddA K (.int i) (.int j) H Q := .inl ⟨i, j, rfl, rfl, h⟩
theorem rd_addL {a b : Addr} {xs ys : List V} (h1 : H a = some (.lst xs)) (h2 : H b = some (.lst ys)) (hl : xs.length + ys.length ≤ sizeLine) (h : ∀ p H', New H H' p (.lst (xs ++ ys)) → Q (.ref p) H') : rAddA K (.ref a) (.ref b) H Q :=
  .inr (.inl ⟨a, b, xs, ys, rfl, rfl, h1, h2, hl, new_all h⟩)
theorem rd_mulI {i j : Int} (c : CMul i j) (h : Q (.int (i * j)) H) : rMulA (.int i) (.int j) H Q := .inl ⟨i, j, rfl, rfl, c, h⟩
theorem rd_rep {a : Addr} {k : Int} {xs : List V} (h1 : H a = some (.lst xs)) (c1 : -(2 ^ 63) ≤ k) (c2 : k < 2 ^ 63) (hl : xs.length * k.toNat ≤ sizeLine) (h : ∀ p H', New H H' p (.lst (List.replicate k.toNat xs).flatten) → Q (.ref p) H') : rMulA (.ref a) (.int k) H Q := by
  refine .inr ⟨a, k, xs, rfl, rfl, h1, c1, c2, hl, new_all ?_⟩
  exact h
theorem rd_eqI {i j : Int} (h : Q (.bl (decide (i = j))) H) : rEqA K (.int i) (.int j) H Q := by
  refine .inl ⟨rfl, ?_⟩
  have e : decide (V.int i = V.int j) = decide (i = j) := by simp
  rw [e]
  exact h
theorem rd_neI {i j : Int} (h : Q (.bl (!decide (i = j))) H) : rNeA K (.int i) (.int j) H Q := by
  refine .inl ⟨rfl, ?_⟩
  have e : decide (V.int i = V.int j) = decide (i = j) := by simp
  rw [e]
  exact h
theorem rd_eqB {i j : Bool} (h : Q (.bl (decide (i = j))) H) : rEqA K (.bl i) (.bl j) H Q := by
  refine .inl ⟨rfl, ?_⟩
  have e : decide (V.bl i = V.bl j) = decide (i = j) := by simp
  rw [e]
  exact h
theorem rd_neB {i j : Bool} (h : Q (.bl (!decide (i = j))) H) : rNeA K (.bl i) (.bl j) H Q := by
  refine .inl ⟨rfl, ?_⟩
  have e : decide (V.bl i = V.bl j) = decide (i = j) := by simp
  rw [e]
  exact h
theorem rd_eqD {x y : V} {d e : PyData} (h1 : Dp K H x d) (h2 : Dp K H y e) (s1 : SeqAt.shaped d = true) (s2 : SeqAt.shaped e = true) (h : Q (.bl (PyData.eqv d e)) H) : rEqA K x y H Q := .inr ⟨d, e, h1, h2, s1, s2, h⟩
theorem rd_neD {x y : V} {d e : PyData} (h1 : Dp K H x d) (h2 : Dp K H y e) (s1 : SeqAt.shaped d = true) (s2 : SeqAt.shaped e = true) (h : Q (.bl (!PyData.eqv d e)) H) : rNeA K x y H Q := .inr ⟨d, e, h1, h2, s1, s2, h⟩
theorem rd_test (h : te σ H fun x H1 => ∃ k, x = .bl k ∧ Qt k H1) : tTest te σ H Qt := h
theorem rd_tb (h : te σ H fun x H1 => ∃ k, x = .bl k ∧ Qt k H1) : tB te σ H Qt := h
theorem rd_bl {b : Bool} {R : Bool → Prop} (h : R b) : ∃ k, V.bl b = .bl k ∧ R k := ⟨b, rfl, h⟩
theorem rd_ifS (h : tt σ H fun b H1 => if b = true then u D σ H1 else w D σ H1) : tIfS tt u w D σ H := h
theorem rd_if (h : tt σ H fun b H1 => if b = true then te σ H1 Q else tb σ H1 Q) : tIf tt te tb σ H Q := h
theorem rd_and (h : tt σ H fun c H1 => if c = true then tu σ H1 Qt else Qt false H1) : tAnd tt tu σ H Qt := h
theorem rd_or (h : tt σ H fun c H1 => if c = true then Qt true H1 else tu σ H1 Qt) : tOr tt tu σ H Qt := h
theorem rd_not (h : tt σ H fun c H1 => Qt (!c) H1) : tNot tt σ H Qt := h
theorem rd_notV {b : Bool} (h : Q (.bl (!b)) H) : ∃ c, V.bl b = .bl c ∧ Q (.bl (!c)) H := ⟨b, rfl, h⟩
theorem rd_notv (h : te σ H fun x H1 => ∃ c, x = .bl c ∧ Q (.bl (!c)) H1) : tNotV te σ H Q := h
theorem rd_get {α : Type} {C : Addr} {mk : α → List (Str × V)} {sel : α → V} (h : te σ H fun x H1 => ∃ a dx s, x = .ref a ∧ H1 a = some (.ins C dx (mk s)) ∧ Q (sel s) H1) : tGet C mk sel te σ H Q := h
def kSetF {α : Type} (C : Addr) (mk : α → List (Str × V)) (st : α → V → α) (y : V) (f : L2.St → Hp → Prop) (σ : L2.St) : VK := fun x H2 => ∃ a dx s, x = .ref a ∧ H2 a = some (.ins C dx (mk s)) ∧ f σ (upd H2 a (.ins C dx (mk (st s y))))
theorem rd_setF {α : Type} {C : Addr} {mk : α → List (Str × V)} {st : α → V → α} {f : L2.St → Hp → Prop} {r : VK} {b c : L2.St → Hp → Prop} (h : tb σ H fun y H1 => te σ H1 (kSetF C mk st y f σ)) : tSetF C mk st te tb ⟨f, r, b, c⟩ σ H := h
theorem rd_ksetF {α : Type} {C : Addr} {mk : α → List (Str × V)} {st : α → V → α} {y : V} {f : L2.St → Hp → Prop} {a dx : Addr} {s : α} (h : H a = some (.ins C dx (mk s))) (q : ∀ H', Wr H H' a (.ins C dx (mk (st s y))) → f σ H') : kSetF C mk st y f σ (.ref a) H := ⟨a, dx, s, rfl, h, q _ wr_upd⟩
theorem rd_meth {α : Type} {C : Addr} {mk : α → List (Str × V)} {sp : Sp} (h : te σ H fun x H1 => ∃ a dx s, x = .ref a ∧ H1 a = some (.ins C dx (mk s)) ∧ ta σ H1 fun vs H2 => sp (x :: vs) H2 Q E0) : tMethG C mk sp te ta σ H Q := h
theorem rd_call {sp : Sp} (h : ta σ H fun vs H1 => sp vs H1 Q E0) : tCallG sp ta σ H Q := h
/-- a new instance at x, its dict at dx, nothing else new -/
structure Made (H H' : Hp) (C x dx : Addr) : Prop where
  nx : H x = none
  nd : H dx = none
  ne : dx ≠ x
  at_ : H' x = some (.ins C dx [])
  same : Same H H'
  out : ∀ b, b ≠ x → b ≠ dx → H' b = H b
def kMake (C : Addr) (sp : Sp) (Q : VK) : List V → Hp → Prop := fun vs H1 => ∀ x dx, H1 x = none → H1 dx = none → dx ≠ x → sp (.ref x :: vs) (upd (upd H1 dx (.own x)) x (.ins C dx [])) (fun v H2 => v = .non ∧ Q (.ref x) H2) E0
theorem rd_make {C : Addr} {sp : Sp} (h : ta σ H (kMake C sp Q)) : tMakeG C sp ta σ H Q := h
theorem rd_kmake {C : Addr} {sp : Sp} {vs : List V} (h : ∀ x dx H', Made H H' C x dx → sp (.ref x :: vs) H' (fun v H2 => v = .non ∧ Q (.ref x) H2) E0) : kMake C sp Q vs H := fun x dx h1 h2 h3 =>
  h x dx _ ⟨h1, h2, h3, upd_same, fun b o e => by rw [upd_ne (ne_of_none e h1), upd_ne (ne_of_none e h2)]; exact e, fun b hb hd => by rw [upd_ne hb, upd_ne hd]⟩
theorem rd_nil (h : Qa [] H) : tNil σ H Qa := h
theorem rd_cons (h : te σ H fun x H1 => ta σ H1 fun xs H2 => Qa (x :: xs) H2) : tCons te ta σ H Qa := h
def kLst (Q : VK) : List V → Hp → Prop := fun xs H1 => xs.length ≤ sizeLine ∧ ∀ p, H1 p = none → Q (.ref p) (upd H1 p (.lst xs))
def kTup (Q : VK) : List V → Hp → Prop := fun xs H1 => xs.length ≤ sizeLine ∧ ∀ p, H1 p = none → Q (.ref p) (upd H1 p (.tup xs))
theorem rd_lst (h : ta σ H (kLst Q)) : tLst ta σ H Q := h
theorem rd_tup (h : ta σ H (kTup Q)) : tTup ta σ H Q := h
theorem rd_klst {xs : List V} (hl : xs.length ≤ 1000) (h : ∀ p H', New H H' p (.lst xs) → Q (.ref p) H') : kLst Q xs H := ⟨Nat.le_trans hl (by decide), new_all (o := fun _ => HO.lst xs) h⟩
theorem rd_ktup {xs : List V} (hl : xs.length ≤ 1000) (h : ∀ p H', New H H' p (.tup xs) → Q (.ref p) H') : kTup Q xs H := ⟨Nat.le_trans hl (by decide), new_all (o := fun _ => HO.tup xs) h⟩
theorem rd_ret {f : L2.St → Hp → Prop} {r : VK} {b c : L2.St → Hp → Prop} (h : te σ H r) : tRet te ⟨f, r, b, c⟩ σ H := h
theorem rd_retN {f : L2.St → Hp → Prop} {r : VK} {b c : L2.St → Hp → Prop} (h : r .non H) : tRetN ⟨f, r, b, c⟩ σ H := h
theorem rd_drop {f : L2.St → Hp → Prop} {r : VK} {b c : L2.St → Hp → Prop} (h : te σ H fun _ H1 => f σ H1) : tDrop te ⟨f, r, b, c⟩ σ H := h
theorem rd_cb {r : List V → Hp → VK → Prop} (h : ta σ H fun vs H1 => r vs H1 Q) : tCB r ta σ H Q := h
theorem rd_brk {f : L2.St → Hp → Prop} {r : VK} {b c : L2.St → Hp → Prop} (h : b σ H) : tBreak ⟨f, r, b, c⟩ σ H := h
theorem rd_cont {f : L2.St → Hp → Prop} {r : VK} {b c : L2.St → Hp → Prop} (h : c σ H) : tCont ⟨f, r, b, c⟩ σ H := h
theorem rd_gnil (h : Qg σ H) : gNil [] σ H Qg := ⟨rfl, h⟩
theorem rd_gcons {t : TG} {r : TGs} {x : V} {xs : List V} (h : t x σ H fun σ' H' => r xs σ' H' Qg) : gCons t r (x :: xs) σ H Qg := ⟨x, xs, rfl, h⟩
theorem rd_gtup {n : Nat} {t : TGs} {a : Addr} {xs : List V} (h1 : H a = some (.tup xs)) (h2 : xs.length = n) (h : t xs σ H Qg) : gTup K n t (.ref a) σ H Qg := ⟨a, xs, rfl, SqT.of h1, h2, h⟩
theorem rd_sl {r : V → Option Int → Option Int → Hp → VK → Prop} {tl th : TO} (h : te σ H fun x H1 => tl σ H1 fun l H2 => th σ H2 fun u H3 => r x l u H3 Q) : tSl r te tl th σ H Q := h
theorem rd_nopart {Qo : Option Int → Hp → Prop} (h : Qo none H) : tNoPart σ H Qo := h
theorem rd_part {Qo : Option Int → Hp → Prop} (h : te σ H fun x H1 => ∃ i, x = .int i ∧ Qo (some i) H1) : tPart te σ H Qo := h
theorem rd_int1 {i : Int} {R : Int → Prop} (h : R i) : ∃ j, V.int i = .int j ∧ R j := ⟨i, rfl, h⟩
theorem rd_slL {a : Addr} {xs : List V} {lo hi : Option Int} (h1 : SqL K H a xs) (h : ∀ p H', New H H' p (.lst (cutV xs lo hi)) → Q (.ref p) H') : rSlL K (.ref a) lo hi H Q := ⟨a, xs, rfl, h1, new_all (o := fun _ => HO.lst (cutV xs lo hi)) h⟩
theorem rd_ixL {a : Addr} {xs : List V} {i : Int} {x : V} (h1 : SqL K H a xs) (h2 : atI xs i = some x) (h : Q x H) : rIx K (.ref a) (.int i) H Q := .inl ⟨a, xs, i, x, rfl, rfl, h1, h2, h⟩
theorem rd_ixT {a : Addr} {xs : List V} {i : Int} {x : V} (h1 : SqT K H a xs) (h2 : atI xs i = some x) (h : Q x H) : rIx K (.ref a) (.int i) H Q := .inr (.inl ⟨a, xs, i, x, rfl, rfl, h1, h2, h⟩)
theorem rd_gsub {ts : TSet} {x : V} (h : te σ H fun o H1 => tb σ H1 fun i H2 => ts o i x H2 fun H3 => Qg σ H3) : gSub te tb ts x σ H Qg := h
theorem rd_setL {a : Addr} {xs : List V} {k : Int} {j : Nat} {x : V} {R : Hp → Prop} (h1 : H a = some (.lst xs)) (h2 : ixN xs.length k = some j) (h : ∀ H', Wr H H' a (.lst (xs.set j x)) → R H') : rSetL (.ref a) (.int k) x H R := ⟨a, xs, k, j, rfl, rfl, h1, h2, wr_one h⟩
theorem rd_chain {r r' : R2} {tc : TE} (h : te σ H fun x H1 => tb σ H1 fun y H2 => r x y H2 fun z H3 => ∃ k, z = .bl k ∧ (if k = true then tc σ H3 fun w' H4 => r' y w' H4 Q else Q (.bl false) H3)) : tChain r r' te tb tc σ H Q := h
theorem rd_dec {p : Prop} [Decidable p] {A B : Prop} (h1 : p → A) (h2 : ¬ p → B) : if decide p = true then A else B := by
  by_cases h : p
  · rw [if_pos (decide_eq_true h)]; exact h1 h
  · rw [if_neg (by simp [h])]; exact h2 h
theorem rd_decT {p : Prop} [Decidable p] {A B : Prop} (h : p) (h1 : A) : if decide p = true then A else B := rd_dec (fun _ => h1) fun n => absurd h n
theorem rd_decF {p : Prop} [Decidable p] {A B : Prop} (h : ¬ p) (h1 : B) : if decide p = true then A else B := rd_dec (fun n => absurd n h) fun _ => h1
theorem rd_ndec {p : Prop} [Decidable p] {A B : Prop} (h1 : ¬ p → A) (h2 : p → B) : if (!decide p) = true then A else B := by
  by_cases h : p
  · rw [if_neg (by simp [h])]; exact h2 h
  · rw [if_pos (by simp [h])]; exact h1 h
end
end
end Sb
namespace Sb
open PySem PySem.Spec PyProof.Rows L2
theorem lkH {k : Str} {v : V} {r : List (Str × V)} : List.lookup k ((k, v) :: r) = some v := by simp [List.lookup]
theorem lkS {k k' : Str} {v : V} {r : List (Str × V)} (h : ¬ k = k') : List.lookup k ((k', v) :: r) = List.lookup k r := by
  have e : (k == k') = false := by simpa using h
  simp [List.lookup, e]
theorem ptH {k : Str} {v y : V} {r : List (Str × V)} : putF k y ((k, v) :: r) = (k, y) :: r := by
  show (if k = k then (k, y) :: r else _) = _
  rw [if_pos rfl]
theorem ptS {k k' : Str} {v y : V} {r : List (Str × V)} (h : ¬ k' = k) : putF k y ((k', v) :: r) = (k', v) :: putF k y r := by
  show (if k' = k then _ else (k', v) :: putF k y r) = _
  rw [if_neg h]
theorem ptN {k : Str} {y : V} : putF k y [] = [(k, y)] := rfl
end Sb
namespace Sb
open PySem PySem.Spec PyProof.Rows L2
section
variable {D : Ends} {σ : L2.St} {H : Hp} {Q : VK} {K : PySem.W.Frag} {te tb tc : TE} {ta : TA}
theorem rd_ob {α : Type} {C a dx : Addr} {mk : α → List (Str × V)} {s : α} {R : Addr → Addr → α → Prop} (h : H a = some (.ins C dx (mk s))) (q : R a dx s) : ∃ a' dx' s', V.ref a = .ref a' ∧ H a' = some (.ins C dx' (mk s')) ∧ R a' dx' s' := ⟨a, dx, s, rfl, h, q⟩
theorem rd_dget2 (h : te σ H fun x H1 => ∃ a, x = .ref a ∧ IsD H1 a ∧ tb σ H1 fun y H2 => tc σ H2 fun z H3 => ∃ o, DGet H3 a y o ∧ Q (o.getD z) H3) : tDGet2 te tb tc σ H Q := h
theorem rd_dget (h : te σ H fun x H1 => tb σ H1 fun y H2 => ∃ a v, x = .ref a ∧ DGet H2 a y (some v) ∧ Q v H2) : tDGet te tb σ H Q := h
theorem rd_dput {f : L2.St → Hp → Prop} {r : VK} {b c : L2.St → Hp → Prop} (h : tc σ H fun v H1 => te σ H1 fun x H2 => tb σ H2 fun y H3 => ∃ a H4, x = .ref a ∧ DPut H3 a y v H4 ∧ f σ H4) : sDPut te tb tc ⟨f, r, b, c⟩ σ H := h
def kPar (i j : Nat) (σ : L2.St) (f : L2.St → Hp → Prop) : List V → Hp → Prop := fun vs H1 => ∃ v w, vs = [v, w] ∧ f ((σ.set i (some v)).set j (some w)) H1
theorem rd_par {i j : Nat} {f : L2.St → Hp → Prop} {r : VK} {b c : L2.St → Hp → Prop} (h : ta σ H (kPar i j σ f)) : tPar i j ta ⟨f, r, b, c⟩ σ H := h
theorem rd_par2 {i j : Nat} {v w : V} {σ' : L2.St} {f : L2.St → Hp → Prop} (e : (σ.set i (some v)).set j (some w) = σ') (h : f σ' H) : kPar i j σ f [v, w] H := ⟨v, w, rfl, by rw [e]; exact h⟩
end
end Sb
namespace Sb
open PySem PySem.Spec PyProof.Rows L2
section
variable {CX : CXT} {P : Program} {w : World} {K : PySem.W.Frag} {mg : Str → Option Value} {base : Heap} {N : List Str} {q : Str} {sc : Scope} {f : Addr} {cd : Value} {A : Around} {o : List Env} {s : Shared} {H : Hp} {E : XK}
theorem cxK : (cxOf CX P w K mg base N q sc f cd A o s H E).nox.K = K := rfl
theorem cxW : (cxOf CX P w K mg base N q sc f cd A o s H E).nox.w = w := rfl
theorem cxP : (cxOf CX P w K mg base N q sc f cd A o s H E).nox.prog = P := rfl
end
end Sb
namespace Sb
open PySem PySem.Spec PyProof.Rows L2
section
variable {D : Ends} {σ : L2.St} {H H' : Hp} {Q : VK} {K : PySem.W.Frag} {te tb tc : TE} {ta : TA} {a b p d : Addr} {o u : HO}
theorem New.keep (n : New H H' p o) (h : H b = some u) : H' b = some u := n.same b u h
theorem Wr.keep (n : Wr H H' p o) (h : H b = some u) (hb : b ≠ p) : H' b = some u := by rw [n.ne b hb]; exact h
theorem New.free (n : New H H' p o) (h : H' b = none) : H b = none := n.same.free h
theorem Wr.free (n : Wr H H' p o) (h : H' b = none) : H b = none := by
  by_cases q : b = p
  · rw [q, n.at_] at h; cases h
  · rw [← n.ne b q]; exact h
theorem New.apart (n : New H H' p o) (h : H b = some u) : b ≠ p := ne_of_none h n.nw
theorem rd_isD {kvs : List (Key × V)} {R : Addr → Prop} (h : H d = some (.dK kvs)) (q : R d) : ∃ a, V.ref d = .ref a ∧ IsD H a ∧ R a := ⟨d, rfl, .inl ⟨kvs, .inl h⟩, q⟩
theorem rd_dgo {kvs : List (Key × V)} {n : Int} {R : Option V → Prop} (h : H d = some (.dK kvs)) (q : R (valV kvs (Sum.inl n))) : ∃ o, DGet H d (.int n) o ∧ R o := ⟨_, DGet.k (k := Sum.inl n) h, q⟩
theorem rd_dgv {kvs : List (Key × V)} {n : Int} {x : V} {R : Addr → V → Prop} (h : H d = some (.dK kvs)) (hv : valV kvs (Sum.inl n) = some x) (q : R d x) : ∃ a v, V.ref d = .ref a ∧ DGet H a (.int n) (some v) ∧ R a v := by
  refine ⟨d, x, rfl, ?_, q⟩
  rw [← hv]
  exact DGet.k (k := Sum.inl n) h
theorem rd_dpo {kvs : List (Key × V)} {n : Int} {v : V} {R : Hp → Prop} (h : H d = some (.dK kvs)) (hl : kvs.length < sizeLine) (q : ∀ H', Wr H H' d (.dK (putK kvs (Sum.inl n) v)) → R H') : ∃ a H4, V.ref d = .ref a ∧ DPut H a (.int n) v H4 ∧ R H4 :=
  ⟨d, _, rfl, DPut.k (k := Sum.inl n) h hl, wr_one q⟩
def rListOf (K : PySem.W.Frag) : List V → Hp → VK → Prop := fun xs H Q => ∃ p ys, xs = [.ref p] ∧ (SqL K H p ys ∨ SqT K H p ys) ∧ ∀ l, H l = none → Q (.ref l) (upd H l (.lst ys))
theorem cr_list {X : Cx} : CallR X (.type "list") (rListOf X.K) := call_list_of
theorem rd_listof {xs : List V} (h : SqL K H a xs) (q : ∀ p H', New H H' p (.lst xs) → Q (.ref p) H') : rListOf K [V.ref a] H Q := ⟨a, xs, rfl, .inl h, new_all (o := fun _ => HO.lst xs) q⟩
def rLenOf (K : PySem.W.Frag) : List V → Hp → VK → Prop := fun xs H Q => ∃ x n, xs = [x] ∧ LenV K x H n ∧ Q (.int n) H
theorem cr_len {X : Cx} : CallR X (.builtin "len") (rLenOf X.K) := call_len
theorem rd_len {xs : List V} (h : SqL K H a xs) (q : Q (.int xs.length) H) : rLenOf K [V.ref a] H Q := ⟨_, xs.length, rfl, .inl ⟨xs, h, rfl⟩, q⟩
def rAbs : List V → Hp → VK → Prop := fun xs H Q => ∃ i, xs = [.int i] ∧ Q (.int (if i < 0 then -i else i)) H
theorem cr_abs {X : Cx} : CallR X (.builtin "abs") rAbs := call_abs
theorem rd_abs {i : Int} (q : Q (.int (if i < 0 then -i else i)) H) : rAbs [.int i] H Q := ⟨i, rfl, q⟩
def rMax2 : List V → Hp → VK → Prop := fun xs H Q => ∃ i j, xs = [.int i, .int j] ∧ Q (.int (if j > i then j else i)) H
theorem cr_max2 {X : Cx} (hc : X.calm = true) : CallR X (.builtin "max") rMax2 := call_max2 hc
theorem rd_max2 {i j : Int} (q : Q (.int (max i j)) H) : rMax2 [.int i, .int j] H Q := by
  refine ⟨i, j, rfl, ?_⟩
  have e : (if j > i then j else i) = max i j := by split <;> omega
  rw [e]; exact q
def rMin2 : List V → Hp → VK → Prop := fun xs H Q => ∃ i j, xs = [.int i, .int j] ∧ Q (.int (if j < i then j else i)) H
theorem cr_min2 {X : Cx} (hc : X.calm = true) : CallR X (.builtin "min") rMin2 := call_min2 hc
theorem rd_min2 {i j : Int} (q : Q (.int (min i j)) H) : rMin2 [.int i, .int j] H Q := by
  refine ⟨i, j, rfl, ?_⟩
  have e : (if j < i then j else i) = min i j := by split <;> omega
  rw [e]; exact q
def rInt1 : List V → Hp → VK → Prop := fun xs H Q => (∃ i, xs = [.int i] ∧ Q (.int i) H) ∨ ∃ k, xs = [.bl k] ∧ Q (.int (if k then 1 else 0)) H
theorem cr_int1 {X : Cx} : CallR X (.type "int") rInt1 := call_int1
theorem rd_int1c {i : Int} (q : Q (.int i) H) : rInt1 [.int i] H Q := .inl ⟨i, rfl, q⟩
end
end Sb
namespace Sb
open PySem PySem.Spec PyProof.Rows L2
theorem pget {α β : Type} {R : α → β → Prop} : ∀ {xs : List α} {ys : List β}, Paired R xs ys → ∀ {i : Nat} {x : α}, xs[i]? = some x → ∃ y, ys[i]? = some y ∧ R x y
  | _, _, .nil, i, x, e => by simp at e
  | _, _, .cons h t, 0, x, e => by simp at e; subst e; exact ⟨_, rfl, h⟩
  | _, _, .cons h t, i + 1, x, e => by
    obtain ⟨y, h1, h2⟩ := pget t (i := i) (x := x) (by simpa using e)
    exact ⟨y, by simpa using h1, h2⟩
theorem pgetR {α β : Type} {R : α → β → Prop} : ∀ {xs : List α} {ys : List β}, Paired R xs ys → ∀ {i : Nat} {y : β}, ys[i]? = some y → ∃ x, xs[i]? = some x ∧ R x y
  | _, _, .nil, i, x, e => by simp at e
  | _, _, .cons h t, 0, x, e => by simp at e; subst e; exact ⟨_, rfl, h⟩
  | _, _, .cons h t, i + 1, x, e => by
    obtain ⟨y, h1, h2⟩ := pgetR t (i := i) (y := x) (by simpa using e)
    exact ⟨y, by simpa using h1, h2⟩
theorem papp {α β : Type} {R : α → β → Prop} : ∀ {xs xs' : List α} {ys ys' : List β}, Paired R xs ys → Paired R xs' ys' → Paired R (xs ++ xs') (ys ++ ys')
  | _, _, _, _, .nil, q => q
  | _, _, _, _, .cons h t, q => .cons h (papp t q)
theorem pmono {α β : Type} {R R' : α → β → Prop} {xs : List α} {ys : List β} (h : Paired R xs ys) (f : ∀ a b, R a b → R' a b) : Paired R' xs ys := L2.Paired.mapP h f
theorem take_snoc {α : Type} {l : List α} {i : Nat} {x : α} (h : l[i]? = some x) : l.take (i + 1) = l.take i ++ [x] := by rw [List.take_add_one, h]; rfl
section
variable {D : Ends} {σ : L2.St} {H H' : Hp} {Q : VK} {K : PySem.W.Frag} {te tb tc : TE} {ta : TA} {tt : TT} {a b p d : Addr} {o u : HO} {g : TG} {ts : TS}
/-- the walk of a for over J -/
def kWalk (J : It) (g : TG) (ts : TS) (D : Ends) : L2.St → Hp → Prop := fun σ H1 => ∃ W : Nat → Nat → L2.St → Hp → Prop, (∃ m, W 0 m σ H1) ∧ ∀ i m σ H, W i m σ H →
  (J.stop i H ∧ D.nx σ H) ∨ (J.go i H ∧ ∃ N : L2.St → Hp → Prop, (∀ σ' H', N σ' H' → ∃ m', m' < m ∧ W (i + 1) m' σ' H') ∧ ∀ x H', J.yld i H x H' → g x σ H' fun σ2 H2 => ts { D with nx := N, ct := N, bk := D.nx } σ2 H2)
def kForL (K : PySem.W.Frag) (g : TG) (ts : TS) (D : Ends) (σ : L2.St) : VK := fun x H1 => ∃ a, x = .ref a ∧ (∃ xs, SqL K H1 a xs) ∧ kWalk (Itl K a) g ts D σ H1
theorem rd_forL (h : te σ H (kForL K g ts D σ)) : tFor (iList K te) g ts D σ H := h
theorem rd_kforL {nf : L2.St → Hp → Prop} {rf : VK} {bf cf : L2.St → Hp → Prop} {xs : List V} (h : SqL K H a xs) (Pv : Nat → L2.St → Hp → Prop) (h0 : Pv 0 σ H) (hl : ∀ i σ H, i ≤ xs.length → Pv i σ H → SqL K H a xs)
    (hs : ∀ i x σ H, xs[i]? = some x → Pv i σ H → g x σ H fun σ2 H2 => ts ⟨Pv (i + 1), rf, nf, Pv (i + 1)⟩ σ2 H2) (hd : ∀ σ H, Pv xs.length σ H → nf σ H) : kForL K g ts ⟨nf, rf, bf, cf⟩ σ (.ref a) H :=
  ⟨a, rfl, ⟨xs, h⟩, for_it walk_list Pv h0 hl (fun i x σ H H' hi p y => by
    obtain ⟨rfl, e⟩ := y
    exact hs i x σ _ e p) hd⟩
def kForZ (K : PySem.W.Frag) (g : TG) (ts : TS) (D : Ends) (σ : L2.St) : List V → Hp → Prop := fun vs H1 => ∃ a b xs ys, vs = [.ref a, .ref b] ∧ SqL K H1 a xs ∧ SqL K H1 b ys ∧ kWalk (Itz K a b) g ts D σ H1
theorem rd_forZ (h : ta σ H (kForZ K g ts D σ)) : tFor (iZip K ta) g ts D σ H := h
theorem rd_kforZ {nf : L2.St → Hp → Prop} {rf : VK} {bf cf : L2.St → Hp → Prop} {xs ys : List V} (h1 : SqL K H a xs) (h2 : SqL K H b ys) (Pv : Nat → L2.St → Hp → Prop) (h0 : Pv 0 σ H) (hl : ∀ i σ H, i ≤ min xs.length ys.length → Pv i σ H → SqL K H a xs ∧ SqL K H b ys)
    (hs : ∀ i x y t σ H H', xs[i]? = some x → ys[i]? = some y → Pv i σ H → New H H' t (.tup [x, y]) → g (.ref t) σ H' fun σ2 H2 => ts ⟨Pv (i + 1), rf, nf, Pv (i + 1)⟩ σ2 H2) (hd : ∀ σ H, Pv (min xs.length ys.length) σ H → nf σ H) : kForZ K g ts ⟨nf, rf, bf, cf⟩ σ [.ref a, .ref b] H :=
  ⟨a, b, xs, ys, rfl, h1, h2, for_it (walk_zip rfl) Pv h0 hl (fun i x σ H H' hi p y => by
    obtain ⟨T, z, z', rfl, e1, rfl, e2, e3⟩ := y
    exact hs i z z' T σ H _ e2 e3 p (new_upd e1)) hd⟩
def kForR (g : TG) (ts : TS) (D : Ends) (σ : L2.St) : List V → Hp → Prop := fun vs H1 => ∃ j : Int, vs = [.int j] ∧ -(2 ^ 62) ≤ j ∧ j < 2 ^ 62 ∧ kWalk (Itr 0 j.toNat) g ts D σ H1
theorem rd_forR (h : ta σ H (kForR g ts D σ)) : tFor (iRng1 ta) g ts D σ H := h
theorem rd_kforR {nf : L2.St → Hp → Prop} {rf : VK} {bf cf : L2.St → Hp → Prop} {n : Nat} {j : Int} (hj : j = (n : Int)) (hn : n < 2 ^ 62) (Pv : Nat → L2.St → Hp → Prop) (h0 : Pv 0 σ H)
    (hs : ∀ i σ H, i < n → Pv i σ H → g (.int (i : Int)) σ H fun σ2 H2 => ts ⟨Pv (i + 1), rf, nf, Pv (i + 1)⟩ σ2 H2) (hd : ∀ σ H, Pv n σ H → nf σ H) : kForR g ts ⟨nf, rf, bf, cf⟩ σ [.int j] H := by
  have e : j.toNat = n := by omega
  refine ⟨j, rfl, by omega, by omega, ?_⟩
  rw [e]
  refine for_it walk_range Pv h0 (fun _ _ _ _ _ => trivial) (fun i x σ H H' hi p y => ?_) hd
  obtain ⟨rfl, rfl⟩ := y
  have e2 : (0 : Int) + (i : Int) = (i : Int) := by omega
  show g (.int (0 + (i : Int))) σ _ _
  rw [e2]
  exact hs i σ _ hi p
/-! comprehensions: the list so far at the new place -/
def kAcc (d : Addr) (R : Hp → Prop) : VK := fun y H4 => ∃ acc, H4 d = some (.lst acc) ∧ acc.length < sizeLine ∧ R (upd H4 d (.lst (acc ++ [y])))
theorem rd_kacc {acc : List V} {R : Hp → Prop} {y : V} (h : H d = some (.lst acc)) (hl : acc.length ≤ 1000000) (q : ∀ H5, Wr H H5 d (.lst (acc ++ [y])) → R H5) : kAcc d R y H := ⟨acc, h, Nat.lt_of_le_of_lt hl (by decide), wr_one q⟩
def kTurn (vs : List Nat) (σ0 : L2.St) (tt : TT) (te : TE) (d : Addr) (R : Hp → Prop) : L2.St → Hp → Prop := fun σ2 H2 => wipe σ2 vs = wipe σ0 vs ∧ tt σ2 H2 fun b H3 => if b = true then te σ2 H3 (kAcc d R) else R H3
theorem rd_kturnY {vs : List Nat} {σ0 σ2 : L2.St} {R : Hp → Prop} (e : wipe σ2 vs = wipe σ0 vs) (h : te σ2 H (kAcc d R)) : kTurn vs σ0 tYes te d R σ2 H := ⟨e, by
  show if true = true then te σ2 H (kAcc d R) else R H
  rw [if_pos rfl]
  exact h⟩
theorem rd_kturn {vs : List Nat} {σ0 σ2 : L2.St} {R : Hp → Prop} (e : wipe σ2 vs = wipe σ0 vs) (h : tt σ2 H fun b H3 => if b = true then te σ2 H3 (kAcc d R) else R H3) : kTurn vs σ0 tt te d R σ2 H := ⟨e, h⟩
def kLc (J : It) (g : TG) (tt : TT) (te : TE) (vs : List Nat) (σ : L2.St) (Q : VK) : Hp → Prop := fun H1 => ∀ D, H1 D = none → ∃ W : Nat → Nat → Hp → Prop, (∃ m, W 0 m (upd H1 D (.lst []))) ∧ ∀ i m H, W i m H →
  (J.stop i H ∧ Q (.ref D) H) ∨ (J.go i H ∧ ∃ Nx : Hp → Prop, (∀ H', Nx H' → ∃ m', m' < m ∧ W (i + 1) m' H') ∧ ∀ x H', J.yld i H x H' → g x (wipe σ vs) H' fun σ2 H2 => wipe σ2 vs = wipe σ vs ∧ tt σ2 H2 fun b H3 =>
    if b = true then te σ2 H3 fun y H4 => ∃ acc, H4 D = some (.lst acc) ∧ acc.length < sizeLine ∧ Nx (upd H4 D (.lst (acc ++ [y]))) else Nx H3)
/-- one lemma for all: for the new list's place d the invariant Pv -/
theorem rd_klc {J : It} {n : Nat} {G : Hp → Prop} {Y : Nat → Hp → V → Hp → Prop} (w : Walk J n G Y) {vs : List Nat} (h : ∀ d H1, New H H1 d (.lst []) → ∃ Pv : Nat → Hp → Prop, Pv 0 H1 ∧ (∀ i H, i ≤ n → Pv i H → G H) ∧
    (∀ i x H H', i < n → Pv i H → Y i H x H' → g x (wipe σ vs) H' (kTurn vs σ tt te d (Pv (i + 1)))) ∧ (∀ H, Pv n H → Q (.ref d) H)) : kLc J g tt te vs σ Q H := by
  intro d hd
  obtain ⟨Pv, h0, hG, hs, hq⟩ := h d _ (new_upd hd)
  exact lc_it w Pv h0 hG hs hq
def kLcL (K : PySem.W.Frag) (g : TG) (tt : TT) (te : TE) (vs : List Nat) (σ : L2.St) (Q : VK) : VK := fun x H1 => ∃ a, x = .ref a ∧ (∃ xs, SqL K H1 a xs) ∧ kLc (Itl K a) g tt te vs σ Q H1
theorem rd_lcL {vs : List Nat} (h : tb σ H (kLcL K g tt te vs σ Q)) : tLc (iList K tb) g tt te vs σ H Q := h
/-- over a list -/
theorem rd_klcL {xs : List V} {vs : List Nat} {σw : L2.St} (ew : wipe σ vs = σw) (hx : SqL K H a xs) (h : ∀ d H1, New H H1 d (.lst []) → ∃ Pv : Nat → Hp → Prop, Pv 0 H1 ∧ (∀ i H, i ≤ xs.length → Pv i H → SqL K H a xs) ∧
    (∀ i x H, xs[i]? = some x → Pv i H → g x σw H (kTurn vs σ tt te d (Pv (i + 1)))) ∧ (∀ H, Pv xs.length H → Q (.ref d) H)) : kLcL K g tt te vs σ Q (.ref a) H := by
  subst ew
  refine ⟨a, rfl, ⟨xs, hx⟩, rd_klc (walk_list (xs := xs)) fun d H1 n1 => ?_⟩
  obtain ⟨Pv, h0, hG, hs, hq⟩ := h d H1 n1
  refine ⟨Pv, h0, hG, fun i x H H' hi p y => ?_, hq⟩
  obtain ⟨rfl, e⟩ := y
  exact hs i x _ e p
def kLcR (g : TG) (tt : TT) (te : TE) (vs : List Nat) (σ : L2.St) (Q : VK) : List V → Hp → Prop := fun us H1 => ∃ j : Int, us = [.int j] ∧ -(2 ^ 62) ≤ j ∧ j < 2 ^ 62 ∧ kLc (Itr 0 j.toNat) g tt te vs σ Q H1
theorem rd_lcR {vs : List Nat} (h : ta σ H (kLcR g tt te vs σ Q)) : tLc (iRng1 ta) g tt te vs σ H Q := h
/-- over range(n) -/
theorem rd_klcR {n : Nat} {j : Int} {vs : List Nat} {σw : L2.St} (ew : wipe σ vs = σw) (hj : j = (n : Int)) (hn : n < 2 ^ 62) (h : ∀ d H1, New H H1 d (.lst []) → ∃ Pv : Nat → Hp → Prop, Pv 0 H1 ∧
    (∀ i H, i < n → Pv i H → g (.int (i : Int)) σw H (kTurn vs σ tt te d (Pv (i + 1)))) ∧ (∀ H, Pv n H → Q (.ref d) H)) : kLcR g tt te vs σ Q [.int j] H := by
  subst ew
  have e : j.toNat = n := by omega
  refine ⟨j, rfl, by omega, by omega, ?_⟩
  rw [e]
  refine rd_klc (walk_range (n := n)) fun d H1 n1 => ?_
  obtain ⟨Pv, h0, hs, hq⟩ := h d H1 n1
  refine ⟨Pv, h0, fun _ _ _ _ => trivial, fun i x H H' hi p y => ?_, hq⟩
  obtain ⟨rfl, rfl⟩ := y
  have e2 : (0 : Int) + (i : Int) = (i : Int) := by omega
  show g (.int (0 + (i : Int))) _ _ _
  rw [e2]
  exact hs i _ hi p
/-! dict comprehensions -/
def kDAcc (d : Addr) (R : Hp → Prop) (y : V) : VK := fun z H5 => ∃ kvs k, y = kV k ∧ H5 d = some (.dK kvs) ∧ kvs.length < sizeLine ∧ R (upd H5 d (.dK (putK kvs k z)))
theorem rd_kdacc {kvs : List (Key × V)} {n : Int} {R : Hp → Prop} {z : V} (h : H d = some (.dK kvs)) (hl : kvs.length ≤ 1000000) (q : ∀ H5, Wr H H5 d (.dK (putK kvs (Sum.inl n) z)) → R H5) : kDAcc d R (.int n) z H := ⟨kvs, Sum.inl n, rfl, h, Nat.lt_of_le_of_lt hl (by decide), wr_one q⟩
def kDTurn (vs : List Nat) (σ0 : L2.St) (tk tv : TE) (d : Addr) (R : Hp → Prop) : L2.St → Hp → Prop := fun σ2 H2 => wipe σ2 vs = wipe σ0 vs ∧ tk σ2 H2 fun y H4 => tv σ2 H4 (kDAcc d R y)
def kDc (J : It) (g : TG) (tt : TT) (tk tv : TE) (vs : List Nat) (σ : L2.St) (Q : VK) : Hp → Prop := fun H1 => ∀ D, H1 D = none → ∃ W : Nat → Nat → Hp → Prop, (∃ m, W 0 m (upd H1 D (.dK []))) ∧ ∀ i m H, W i m H →
  (J.stop i H ∧ Q (.ref D) H) ∨ (J.go i H ∧ ∃ Nx : Hp → Prop, (∀ H', Nx H' → ∃ m', m' < m ∧ W (i + 1) m' H') ∧ ∀ x H', J.yld i H x H' → g x (wipe σ vs) H' fun σ2 H2 => wipe σ2 vs = wipe σ vs ∧ tt σ2 H2 fun b H3 =>
    if b = true then tk σ2 H3 fun y H4 => tv σ2 H4 fun z H5 => ∃ kvs k, y = kV k ∧ H5 D = some (.dK kvs) ∧ kvs.length < sizeLine ∧ Nx (upd H5 D (.dK (putK kvs k z))) else Nx H3)
theorem rd_kdc {J : It} {n : Nat} {G : Hp → Prop} {Y : Nat → Hp → V → Hp → Prop} {tk tv : TE} (w : Walk J n G Y) {vs : List Nat} (h : ∀ d H1, New H H1 d (.dK []) → ∃ Pv : Nat → Hp → Prop, Pv 0 H1 ∧ (∀ i H, i ≤ n → Pv i H → G H) ∧
    (∀ i x H H', i < n → Pv i H → Y i H x H' → g x (wipe σ vs) H' (kDTurn vs σ tk tv d (Pv (i + 1)))) ∧ (∀ H, Pv n H → Q (.ref d) H)) : kDc J g tYes tk tv vs σ Q H := by
  intro d hd
  obtain ⟨Pv, h0, hG, hs, hq⟩ := h d _ (new_upd hd)
  refine ⟨fun i m H => m = n - i ∧ i ≤ n ∧ Pv i H, ⟨n, by simp, Nat.zero_le _, h0⟩, ?_⟩
  rintro i m H ⟨rfl, hi, p⟩
  have q := hG i H hi p
  by_cases hlt : i < n
  · refine .inr ⟨w.goes i H hlt q, Pv (i + 1), fun H' p' => ⟨n - (i + 1), by omega, rfl, hlt, p'⟩, fun x H' y => ?_⟩
    have z := hs i x H H' hlt p (w.yields i H x H' hlt q y)
    have e : kDTurn vs σ tk tv d (Pv (i + 1)) = fun σ2 H2 => wipe σ2 vs = wipe σ vs ∧ tYes σ2 H2 fun b H3 => if b = true then tk σ2 H3 fun y H4 => tv σ2 H4 fun z H5 => ∃ kvs k, y = kV k ∧ H5 d = some (.dK kvs) ∧ kvs.length < sizeLine ∧ Pv (i + 1) (upd H5 d (.dK (putK kvs k z))) else Pv (i + 1) H3 := by
      funext σ2 H2
      show kDTurn vs σ tk tv d (Pv (i + 1)) σ2 H2 = (wipe σ2 vs = wipe σ vs ∧ if true = true then (tk σ2 H2 fun y H4 => tv σ2 H4 fun z H5 => ∃ kvs k, y = kV k ∧ H5 d = some (.dK kvs) ∧ kvs.length < sizeLine ∧ Pv (i + 1) (upd H5 d (.dK (putK kvs k z)))) else Pv (i + 1) H2)
      rw [if_pos rfl]
      rfl
    rw [e] at z
    exact z
  · have e : i = n := by omega
    subst e
    exact .inl ⟨w.stops H q, hq H p⟩
def kDcL (K : PySem.W.Frag) (g : TG) (tt : TT) (tk tv : TE) (vs : List Nat) (σ : L2.St) (Q : VK) : VK := fun x H1 => ∃ a, x = .ref a ∧ (∃ xs, SqL K H1 a xs) ∧ kDc (Itl K a) g tt tk tv vs σ Q H1
theorem rd_dcL {tk tv : TE} {vs : List Nat} (h : tb σ H (kDcL K g tt tk tv vs σ Q)) : tDc (iList K tb) g tt tk tv vs σ H Q := h
theorem rd_kdcL {xs : List V} {tk tv : TE} {vs : List Nat} {σw : L2.St} (ew : wipe σ vs = σw) (hx : SqL K H a xs) (h : ∀ d H1, New H H1 d (.dK []) → ∃ Pv : Nat → Hp → Prop, Pv 0 H1 ∧ (∀ i H, i ≤ xs.length → Pv i H → SqL K H a xs) ∧
    (∀ i x H, xs[i]? = some x → Pv i H → g x σw H (kDTurn vs σ tk tv d (Pv (i + 1)))) ∧ (∀ H, Pv xs.length H → Q (.ref d) H)) : kDcL K g tYes tk tv vs σ Q (.ref a) H := by
  subst ew
  refine ⟨a, rfl, ⟨xs, hx⟩, rd_kdc (walk_list (xs := xs)) fun d H1 n1 => ?_⟩
  obtain ⟨Pv, h0, hG, hs, hq⟩ := h d H1 n1
  refine ⟨Pv, h0, hG, fun i x H H' hi p y => ?_, hq⟩
  obtain ⟨rfl, e⟩ := y
  exact hs i x _ e p
end
end Sb
namespace Sb
open PySem PySem.Spec PyProof.Rows L2
theorem rd_nxW {D : Ends} {σ : L2.St} {H : Hp} {p : Addr} {o : HO} (h : ∀ H', Wr H H' p o → D.nx σ H') : D.nx σ (upd H p o) := h _ wr_upd
/-- from what is owned (G of H) to what is owned behind (G' of H'): all else stands, tuples too -/
structure Step (G H G' H' : Hp) : Prop where
  own : Same G' H'
  keep : ∀ b o, H b = some o → G b = none → H' b = some o
  tups : ∀ b xs, H b = some (.tup xs) → H' b = some (.tup xs)
  new : ∀ b, G' b ≠ none → G b ≠ none ∨ H b = none ∨ ∃ xs, H b = some (.tup xs)
/-- behind a change of the addresses M of G alone (M' are those behind): what is owned, and its frozen part -/
structure Chg (G H F : Hp) (M' : Addr → Prop) (G' H' F' : Hp) : Prop where
  step : Step G H G' H'
  old : Same F F'
  new : ∀ b o, H b = none → ¬ M' b → H' b = some o → F' b = some o
  tup : ∀ b xs, H b = some (.tup xs) → F' b = some (.tup xs)
  fg : Same F' G'
  no : ∀ b, M' b → F' b = none
  at_ : ∀ b o, M' b → H' b = some o → G' b = some o
open Classical in
theorem chg_mk {G H F H' : Hp} {M M' : Addr → Prop} (sG : Same G H) (sF : Same F G) (hM : ∀ b, M b → F b = none) (hG : ∀ b, M b → G b ≠ none) (hT : ∀ b, M b → ∀ xs, H b ≠ some (.tup xs)) (k : ∀ b o, H b = some o → ¬ M b → H' b = some o) (h' : ∀ b, M' b → M b ∨ H b = none) :
    ∃ G' F', Chg G H F M' G' H' F' := by
  let ok : Addr → Prop := fun b => G b ≠ none ∨ H b = none ∨ ∃ xs, H b = some (.tup xs)
  let G' : Hp := fun b => if ok b then H' b else none
  let F' : Hp := fun b => if M b ∨ M' b then none else G' b
  have g1 : ∀ b o, ok b → H' b = some o → G' b = some o := fun b o h1 h2 => by
    show (if ok b then H' b else none) = some o
    rw [if_pos h1]
    exact h2
  have g2 : ∀ b o, G' b = some o → ok b ∧ H' b = some o := fun b o h1 => by
    by_cases q : ok b
    · have z : (if ok b then H' b else none) = some o := h1
      rw [if_pos q] at z
      exact ⟨q, z⟩
    · have z : (if ok b then H' b else none) = some o := h1
      rw [if_neg q] at z
      cases z
  have f1 : ∀ b o, ¬ M b → ¬ M' b → G' b = some o → F' b = some o := fun b o h1 h2 h3 => by
    show (if M b ∨ M' b then none else G' b) = some o
    rw [if_neg (by intro z; rcases z with z | z; exact h1 z; exact h2 z)]
    exact h3
  have nM' : ∀ b o, H b = some o → ¬ M b → ¬ M' b := fun b o e n m => by
    rcases h' b m with z | z
    · exact n z
    · rw [z] at e; cases e
  refine ⟨G', F', ⟨fun b o e => (g2 b o e).2, fun b o e n => k b o e fun m => hG b m n, fun b xs e => k b _ e fun m => hT b m xs e, fun b n => ?_⟩, fun b o e => ?_, fun b o e n e2 => ?_, fun b xs e => ?_, fun b o e => ?_, fun b m => ?_, fun b o m e => ?_⟩
  · cases q : G' b with
    | none => exact absurd q n
    | some o => exact (g2 b o q).1
  · have n : ¬ M b := fun m => by rw [hM b m] at e; cases e
    have e2 := sG b o (sF b o e)
    exact f1 b o n (nM' b o e2 n) (g1 b o (.inl (by rw [sF b o e]; exact fun z => by cases z)) (k b o e2 n))
  · refine f1 b o (fun m => ?_) n (g1 b o (.inr (.inl e)) e2)
    have z := hG b m
    cases q : G b with
    | none => exact z q
    | some u => rw [sG b u q] at e; cases e
  · have n : ¬ M b := fun m => hT b m xs e
    exact f1 b _ n (nM' b _ e n) (g1 b _ (.inr (.inr ⟨xs, e⟩)) (k b _ e n))
  · have z : (if M b ∨ M' b then none else G' b) = some o := e
    split at z
    · cases z
    · exact z
  · show (if M b ∨ M' b then none else G' b) = none
    rw [if_pos (.inr m)]
  · refine g1 b o ?_ e
    rcases h' b m with z | z
    · exact .inl (hG b z)
    · exact .inr (.inl z)
end Sb
namespace Sb
open PySem PySem.Spec PyProof.Rows L2
/-- the frozen part with all that is new since H -/
def Fn (H F Hc : Hp) : Hp := fun b => match H b with
  | none => Hc b
  | some _ => F b
section
variable {H F Hc Hc' G G' H' F' : Hp} {b : Addr} {o : HO} {M' : Addr → Prop}
theorem fn_old (s : Same F H) : Same F (Fn H F Hc) := fun b o e => by
  unfold Fn
  rw [s b o e]
  exact e
theorem fn_new (n : H b = none) (e : Hc b = some o) : Fn H F Hc b = some o := by
  unfold Fn
  rw [n]
  exact e
theorem fn_get (e : Fn H F Hc b = some o) : (H b = none ∧ Hc b = some o) ∨ F b = some o := by
  unfold Fn at e
  cases q : H b with
  | none => rw [q] at e; exact .inl ⟨rfl, e⟩
  | some u => rw [q] at e; exact .inr e
theorem fn_same (h : ∀ b o, F b = some o → Hc b = some o) : Same (Fn H F Hc) Hc := fun b o e => by
  rcases fn_get e with ⟨_, q⟩ | q
  · exact q
  · exact h b o q
theorem fn_step (s : Same F H) (h : ∀ b o, H b = none → Hc b = some o → Hc' b = some o) : Same (Fn H F Hc) (Fn H F Hc') := fun b o e => by
  rcases fn_get e with ⟨n, q⟩ | q
  · exact fn_new n (h b o n q)
  · exact fn_old s b o q
theorem fn_chg (c : Chg G H F M' G' H' F') (h : ∀ b o, H b = none → Hc b = some o → ¬ M' b ∧ H' b = some o) : Same (Fn H F Hc) F' := fun b o e => by
  rcases fn_get e with ⟨n, q⟩ | q
  · obtain ⟨h1, h2⟩ := h b o n q
    exact c.new b o n h1 h2
  · exact c.old b o q
end
section
variable {K : PySem.W.Frag} {w : World} {H : Hp} {Q : VK} {a : Addr} {S : Int → Bool} {n : Nat} {js : List Int}
theorem rd_sortSet (h : H a = some (SetO w a S n)) (hn : n < 64) (q : ∀ (ns : List Int) (p : Addr) (H' : Hp), ns.Pairwise (· < ·) → (∀ k : Int, k ∈ ns ↔ S k = true) → New H H' p (.lst (ns.map V.int)) → Q (.ref p) H') : rSortedSet w [.ref a] H Q :=
  ⟨a, S, n, rfl, h, hn, fun ns p h1 h2 _ h4 => q ns p _ h1 h2 (new_upd h4)⟩
theorem rd_setI (h : SqL K H a (js.map V.int)) (hn : js.length ≤ 4000) (q : ∀ p n H', (∀ L : List Int, L.Nodup → (∀ k, k ∈ L ↔ k ∈ js) → L.length = n) → New H H' p (SetO w p (fun k => decide (k ∈ js)) n) → Q (.ref p) H') : rSetI K w [.ref a] H Q :=
  ⟨a, js, rfl, h, hn, fun p n h1 h2 => q p n _ h2 (new_upd h1)⟩
end
end Sb
namespace Sb
open PySem PySem.Spec PyProof.Rows L2
theorem hv_of {A : Around} {k : Nat} (hr : Room k A) : A.units + 64 < cLine := by have := hr.un; omega
end Sb
namespace Sb
open PySem PySem.Spec PyProof.Rows L2
/-! the rules with the written part named (within a comprehension's block) -/
section
variable {X : Cx} {K : PySem.W.Frag} {w : World}
theorem pg_tupK {es : List Expr} {k : Nat} {t : TGs} {pos : Pos} (n : Nat) (e : X.K = K) (hc : X.calm = true) (h : PGs X es t) (hn : (assignEach es X.env).length = n := by rfl) (hst : (assignEach es X.env).findIdx? (·.1) = none := by rfl) : PG X (.Tuple es k pos) (gTup K n t) := by subst e; exact pg_tup hc h hn hst
theorem op_addK (e : X.K = K) : OpR X (binaryOp .Add) (rAddA K) := by subst e; exact op_addA
theorem op_eqK (e : X.K = K) (hu : X.A.units + 64 < cLine) : OpR X (compareOp .Eq) (rEqA K) := by subst e; exact op_eqA hu
theorem op_neK (e : X.K = K) (hu : X.A.units + 64 < cLine) : OpR X (compareOp .NotEq) (rNeA K) := by subst e; exact op_neA hu
theorem ix_seqK (e : X.K = K) : IxR X (rIx K) := by subst e; exact ix_seq
theorem cr_listK (e : X.K = K) : CallR X (.type "list") (rListOf K) := by subst e; exact cr_list
theorem cr_lenK (e : X.K = K) : CallR X (.builtin "len") (rLenOf K) := by subst e; exact cr_len
theorem sl_listK (e : X.K = K) : SlR X (rSlL K) := by subst e; exact sl_list
theorem op_inK (e : X.K = K) : OpR X (compareOp .In) (rIn K false) := by subst e; exact op_in_seq
theorem op_ninK (e : X.K = K) : OpR X (compareOp .NotIn) (rIn K true) := by subst e; exact op_notIn_seq
end
end Sb
namespace Sb
open PySem PySem.Spec PyProof.Rows L2
theorem Step.trans {G H G1 H1 G2 H2 : Hp} (a : Step G H G1 H1) (b : Step G1 H1 G2 H2) : Step G H G2 H2 where
  own := b.own
  keep := fun c o h g => by
    by_cases q : G1 c = none
    · exact b.keep c o (a.keep c o h g) q
    · rcases a.new c q with z | z | ⟨xs, z⟩
      · exact absurd g z
      · rw [z] at h; cases h
      · rw [z] at h
        cases h
        exact b.tups c xs (a.tups c xs z)
  tups := fun c xs h => b.tups c xs (a.tups c xs h)
  new := fun c h => by
    have up : ∀ o, H c = some o → G c = none → H1 c = some o := fun o h1 h2 => a.keep c o h1 h2
    rcases b.new c h with z | z | ⟨xs, z⟩
    · exact a.new c z
    · cases q : H c with
      | none => exact .inr (.inl rfl)
      | some o =>
        by_cases g : G c = none
        · rw [up o q g] at z; cases z
        · exact .inl g
    · cases q : H c with
      | none => exact .inr (.inl rfl)
      | some o =>
        by_cases g : G c = none
        · rw [up o q g] at z
          cases z
          exact .inr (.inr ⟨xs, rfl⟩)
        · exact .inl g
theorem Step.refl {G H : Hp} (s : Same G H) : Step G H G H := ⟨s, fun _ _ e _ => e, fun _ _ e => e, fun _ h => .inl h⟩
/-- new objects alone -/
theorem Step.same {G H G1 H1 H2 : Hp} (a : Step G H G1 H1) (s : Same H1 H2) : Step G H G1 H2 := ⟨fun b o e => s b o (a.own b o e), fun b o e g => s b o (a.keep b o e g), fun b xs e => s b _ (a.tups b xs e), a.new⟩
section
variable {D : Ends} {σ : L2.St} {H : Hp} {Q : VK} {K : PySem.W.Frag} {te tb : TE} {ta : TA} {a : Addr} {r : V → List V → Hp → VK → Prop}
theorem rd_rfl {x : V} {R : Prop} (h : R) : x = x ∧ R := ⟨rfl, h⟩
def kBM (K : PySem.W.Frag) (T : String) (r : V → List V → Hp → VK → Prop) (t : TA) (σ : L2.St) (Q : VK) : VK := fun x H1 => tyV K T x H1 ∧ t σ H1 fun xs H2 => r x xs H2 Q
theorem rd_bm {T : String} (h : te σ H (kBM K T r ta σ Q)) : tBM K T r te ta σ H Q := h
theorem rd_kbmL {xs : List V} (h : H a = some (.lst xs)) (q : ta σ H fun ys H2 => r (.ref a) ys H2 Q) : kBM K "list" r ta σ Q (.ref a) H := ⟨.inl ⟨rfl, xs, SqL.of h⟩, q⟩
theorem rd_append {xs : List V} {y : V} (h : H a = some (.lst xs)) (hl : xs.length ≤ 1000000) (q : ∀ H', Wr H H' a (.lst (xs ++ [y])) → Q .non H') : rAppend (.ref a) [y] H Q := ⟨a, xs, y, rfl, rfl, h, Nat.lt_of_le_of_lt hl (by decide), wr_one q⟩
def rSortDI : List V → Hp → VK → Prop := fun xs H Q => ∃ (a : Addr) (kvs : List (Key × V)) (ks : List Int), xs = [.ref a] ∧ Rd H a (.dK kvs) ∧ kvs.map (·.1) = ks.map Sum.inl ∧ ks.length < 64 ∧ ∀ (ys : List Int) (p : Addr), ys.Perm ks → ys.Pairwise (· ≤ ·) → H p = none → Q (.ref p) (upd H p (.lst (ys.map V.int)))
theorem cr_sortDI {X : Cx} (hc : X.calm = true) : CallR X (.builtin "sorted") rSortDI := call_sortedDI hc
theorem rd_sortDI {kvs : List (Key × V)} {ks : List Int} (h : H a = some (.dK kvs)) (e : kvs.map (·.1) = ks.map Sum.inl) (hl : ks.length < 64) (q : ∀ (ys : List Int) (p : Addr) (H' : Hp), ys.Perm ks → ys.Pairwise (· ≤ ·) → New H H' p (.lst (ys.map V.int)) → Q (.ref p) H') : rSortDI [.ref a] H Q :=
  ⟨a, kvs, ks, rfl, .inl h, e, hl, fun ys p h1 h2 h3 => q ys p _ h1 h2 (new_upd h3)⟩
/-! int lists compared -/
theorem dpAll_ints {K : PySem.W.Frag} {H : Hp} : ∀ ns : List Int, DpAll K H (ns.map V.int) (ns.map PyData.int)
  | [] => .nil
  | n :: ns => .cons (.int n) (dpAll_ints ns)
theorem can_ints : ∀ ns : List Int, PyData.canLayAll0 (ns.map PyData.int) = true
  | [] => rfl
  | n :: ns => by
    show (PyData.canLay0 (.int n) && PyData.canLayAll0 (ns.map PyData.int)) = true
    rw [can_ints ns]
    rfl
theorem depth_ints : ∀ ns : List Int, PyData.depthAll (ns.map PyData.int) = 0
  | [] => rfl
  | n :: ns => by
    show max (PyData.depth (.int n)) (PyData.depthAll (ns.map PyData.int)) = 0
    rw [depth_ints ns]
    rfl
theorem shaped_ints (ns : List Int) : SeqAt.shaped (.list (ns.map PyData.int)) = true := by
  have h1 : PyData.canLay0 (.list (ns.map PyData.int)) = true := can_ints ns
  have h2 : PyData.depth (.list (ns.map PyData.int)) = 1 := by
    show PyData.depthAll (ns.map PyData.int) + 1 = 1
    rw [depth_ints ns]
  unfold SeqAt.shaped
  rw [h1, h2]
  rfl
theorem eqv_ints : ∀ xs ys : List Int, PyData.eqvAll (xs.map PyData.int) (ys.map PyData.int) = decide (xs = ys)
  | [], [] => rfl
  | [], y :: ys => by simp [PyData.eqvAll]
  | x :: xs, [] => by simp [PyData.eqvAll]
  | x :: xs, y :: ys => by
    show (PyData.eqv (.int x) (.int y) && PyData.eqvAll (xs.map PyData.int) (ys.map PyData.int)) = _
    rw [eqv_ints xs ys]
    show ((x == y) && decide (xs = ys)) = _
    by_cases h : x = y <;> by_cases h2 : xs = ys <;> simp [h, h2]
theorem eqv_list (xs ys : List Int) : PyData.eqv (.list (xs.map PyData.int)) (.list (ys.map PyData.int)) = decide (xs = ys) := eqv_ints xs ys
theorem rd_neL {b : Addr} {xs ys : List Int} (h1 : H a = some (.lst (xs.map V.int))) (h2 : H b = some (.lst (ys.map V.int))) (q : Q (.bl (!decide (xs = ys))) H) : rNeA K (.ref a) (.ref b) H Q :=
  rd_neD (.lst (SqL.of h1) (dpAll_ints xs)) (.lst (SqL.of h2) (dpAll_ints ys)) (shaped_ints xs) (shaped_ints ys) (by rw [eqv_list]; exact q)
theorem rd_eqL {b : Addr} {xs ys : List Int} (h1 : H a = some (.lst (xs.map V.int))) (h2 : H b = some (.lst (ys.map V.int))) (q : Q (.bl (decide (xs = ys))) H) : rEqA K (.ref a) (.ref b) H Q :=
  rd_eqD (.lst (SqL.of h1) (dpAll_ints xs)) (.lst (SqL.of h2) (dpAll_ints ys)) (shaped_ints xs) (shaped_ints ys) (by rw [eqv_list]; exact q)
end
end Sb
namespace Sb
open PySem PySem.Spec PyProof.Rows L2
theorem putF_zip {f : Str} {y : V} : ∀ {names : List Str} {vals : List V}, f ∉ names → vals.length = names.length → putF f y (names.zip vals) = (names ++ [f]).zip (vals ++ [y])
  | [], [], _, _ => rfl
  | [], _ :: _, _, e => by cases e
  | _ :: _, [], _, e => by cases e
  | n :: ns, v :: vs, h, e => by
    have h1 : ¬ n = f := fun z => h (by rw [z]; exact List.mem_cons_self)
    have h2 : f ∉ ns := fun z => h (List.mem_cons_of_mem _ z)
    show putF f y ((n, v) :: ns.zip vs) = (n, v) :: (ns ++ [f]).zip (vs ++ [y])
    rw [ptS h1, putF_zip h2 (by simpa using e)]
section
variable {X : Cx} {C : Addr} {o value : Expr} {fl : Str} {pos pos' : Pos} {ta tv : TE} {D : Ends} {σ : L2.St} {H : Hp}
/-- in an __init__: the fields names stand already -/
def kSetI (C : Addr) (names : List Str) (f : Str) (y : V) (nf : L2.St → Hp → Prop) (σ : L2.St) : VK := fun x H2 => ∃ a dx vals, x = .ref a ∧ H2 a = some (.ins C dx (names.zip vals)) ∧ vals.length = names.length ∧ nf σ (upd H2 a (.ins C dx ((names ++ [f]).zip (vals ++ [y]))))
def tSetI (C : Addr) (names : List Str) (f : Str) (ta tv : TE) : TS := fun D σ H => tv σ H fun y H1 => ta σ H1 (kSetI C names f y D.nx σ)
theorem ps_setI {names : List Str} (c : Cls X.K C) (n : NoAttr X.K C fl) (hf : fl ∉ names) (hl : names.length < 900) (ha : PE X o ta) (hv : PE X value tv) (hs : swapsWith value (some (.Attribute o fl pos')) pos.line X.env = pure false := by rfl) :
    PS X (.Assign [.Attribute o fl pos'] value pos) (tSetI C names fl ta tv) := by
  refine ⟨fun pins s σ H D I h => plainObj_wpAny_Assign_Attribute (thn (hv.run pins s σ H _ I h) fun u s1 h1 => ?_) hs⟩
  obtain ⟨y, H1, I1, ry, q⟩ := h1
  refine thn (ha.run pins s1 σ H1 _ I1 q) fun ov s2 h2 => ?_
  obtain ⟨x, H2, I2, rx, a, dx, vals, ex, ea, el, q2⟩ := h2
  subst ex
  cases rx
  refine setattr_ok I2 ea c n (by rw [List.length_zip, el]; omega) ry fun s3 I3 => ⟨σ, _, I3, ?_⟩
  rw [putF_zip hf el]
  exact q2
theorem rd_setI' {names : List Str} {f : L2.St → Hp → Prop} {r : VK} {b c : L2.St → Hp → Prop} (h : tv σ H fun y H1 => ta σ H1 (kSetI C names fl y f σ)) : tSetI C names fl ta tv ⟨f, r, b, c⟩ σ H := h
theorem rd_ksetI {nf : L2.St → Hp → Prop} {names : List Str} {vals : List V} {a dx : Addr} {y : V} (h : H a = some (.ins C dx (names.zip vals))) (e : vals.length = names.length) (q : ∀ H', Wr H H' a (.ins C dx ((names ++ [fl]).zip (vals ++ [y]))) → nf σ H') : kSetI C names fl y nf σ (.ref a) H := ⟨a, dx, vals, rfl, h, e, q _ wr_upd⟩
end
end Sb
namespace Sb
open PySem PySem.Spec PyProof.Rows L2
open Classical in
/-- what is new since H, without M -/
noncomputable def Nw (H : Hp) (M : Addr → Prop) (Hc : Hp) : Hp := fun b => if H b = none ∧ ¬ M b then Hc b else none
section
variable {H Hc Hc' : Hp} {M M' : Addr → Prop} {b : Addr} {o : HO}
theorem nw_mk (h1 : H b = none) (h2 : ¬ M b) (h3 : Hc b = some o) : Nw H M Hc b = some o := by
  unfold Nw
  rw [if_pos ⟨h1, h2⟩]
  exact h3
theorem nw_get (h : Nw H M Hc b = some o) : H b = none ∧ ¬ M b ∧ Hc b = some o := by
  unfold Nw at h
  split at h
  · rename_i q
    exact ⟨q.1, q.2, h⟩
  · cases h
theorem nw_no (h : M b) : Nw H M Hc b = none := by
  unfold Nw
  rw [if_neg fun z => z.2 h]
theorem nw_step (h : ∀ b o, H b = none → ¬ M b → Hc b = some o → ¬ M' b ∧ Hc' b = some o) : Same (Nw H M Hc) (Nw H M' Hc') := fun b o e => by
  obtain ⟨h1, h2, h3⟩ := nw_get e
  obtain ⟨h4, h5⟩ := h b o h1 h2 h3
  exact nw_mk h1 h4 h5
theorem nw_same : Same (Nw H M Hc) Hc := fun b o e => (nw_get e).2.2
end
open Classical in
/-- p and what is new since H -/
noncomputable def Nwp (H : Hp) (p : Addr) (Hc : Hp) : Hp := fun b => if b = p ∨ H b = none then Hc b else none
theorem nwp_mk {H Hc : Hp} {p b : Addr} {o : HO} (h : b = p ∨ H b = none) (h3 : Hc b = some o) : Nwp H p Hc b = some o := by
  unfold Nwp
  rw [if_pos h]
  exact h3
theorem nwp_get {H Hc : Hp} {p b : Addr} {o : HO} (h : Nwp H p Hc b = some o) : (b = p ∨ H b = none) ∧ Hc b = some o := by
  unfold Nwp at h
  split at h
  · rename_i q
    exact ⟨q, h⟩
  · cases h
end Sb
namespace Sb
open PySem PySem.Spec PyProof.Rows L2
section
variable {D : Ends} {σ : L2.St} {H : Hp} {Q : VK} {K : PySem.W.Frag} {te : TE} {ts : TS}
/-- ways joined behind an expression, a statement -/
theorem rd_join {Φ : VK} (h1 : ∀ Q' : VK, (∀ v H', Φ v H' → Q' v H') → te σ H Q') (h2 : ∀ v H', Φ v H' → Q v H') : te σ H Q := h1 Q h2
theorem rd_joinS {nf : L2.St → Hp → Prop} {rf : VK} {bf cf : L2.St → Hp → Prop} {Φ : L2.St → Hp → Prop} (h1 : ∀ nx' : L2.St → Hp → Prop, (∀ σ' H', Φ σ' H' → nx' σ' H') → ts ⟨nx', rf, bf, cf⟩ σ H) (h2 : ∀ σ' H', Φ σ' H' → nf σ' H') : ts ⟨nf, rf, bf, cf⟩ σ H := h1 nf h2
theorem rep_int (n : Nat) (x : Int) : (List.replicate n [V.int x]).flatten = (List.replicate n x).map V.int := by
  induction n with
  | zero => rfl
  | succ n ih => rw [List.replicate_succ, List.flatten_cons, ih, List.replicate_succ]; rfl
def rDictP (K : PySem.W.Frag) : List V → Hp → VK → Prop := fun xs H Q => ∃ (a : Addr) (ps : List Addr) (kvs : List (Key × V)), xs = [.ref a] ∧ SqL K H a (ps.map V.ref) ∧ Paired (fun p kv => SqT K H p [kV kv.1, kv.2]) ps kvs ∧ ∀ p, H p = none → Q (.ref p) (upd H p (.dK (mergeK [] kvs)))
theorem cr_dictPK {X : Cx} (e : X.K = K) (hc : X.calm = true) : CallR X (.type "dict") (rDictP K) := by subst e; exact call_dictP hc
theorem rd_dictP {a : Addr} {ps : List Addr} {kvs : List (Key × V)} (h : H a = some (.lst (ps.map V.ref))) (hp : Paired (fun p (kv : Key × V) => H p = some (.tup [kV kv.1, kv.2])) ps kvs) (q : ∀ p H', New H H' p (.dK (mergeK [] kvs)) → Q (.ref p) H') : rDictP K [.ref a] H Q :=
  ⟨a, ps, kvs, rfl, SqL.of h, pmono hp fun _ _ z => SqT.of z, new_all (o := fun _ => HO.dK (mergeK [] kvs)) q⟩
end
/-- d with H's objects at S besides -/
noncomputable def Fx (F H : Hp) (S : Addr → Prop) : Hp := by
  classical
  exact fun b => if F b ≠ none ∨ S b then H b else none
section
variable {F H : Hp} {S : Addr → Prop} {b : Addr} {o : HO}
theorem fx_old (s : Same F H) : Same F (Fx F H S) := fun b o e => by
  unfold Fx
  rw [if_pos (.inl (by rw [e]; exact fun z => by cases z))]
  exact s b o e
theorem fx_new (h : S b) (e : H b = some o) : Fx F H S b = some o := by
  unfold Fx
  rw [if_pos (.inr h)]
  exact e
theorem fx_same : Same (Fx F H S) H := fun b o e => by
  unfold Fx at e
  split at e
  · exact e
  · cases e
theorem fx_get (h : Fx F H S b ≠ none) : F b ≠ none ∨ S b := by
  unfold Fx at h
  split at h
  · rename_i q; exact q
  · exact absurd rfl h
theorem fx_no (h : F b = none) (h2 : ¬ S b) : Fx F H S b = none := by
  unfold Fx
  rw [if_neg]
  rintro (z | z)
  · exact z h
  · exact h2 z
end
end Sb
namespace Sb
open PySem PySem.Spec PyProof.Rows L2
theorem rd_seqG {u w : TS} {f : L2.St → Hp → Prop} {r : VK} {b c : L2.St → Hp → Prop} {σ : L2.St} {H : Hp} (h : ∀ nx' : L2.St → Hp → Prop, (∀ σ' H', w ⟨f, r, b, c⟩ σ' H' → nx' σ' H') → u ⟨nx', r, b, c⟩ σ H) : tSeq u w ⟨f, r, b, c⟩ σ H := h (fun σ' H' => w ⟨f, r, b, c⟩ σ' H') fun _ _ q => q
end Sb
namespace Sb
open PySem PySem.Spec PyProof.Rows L2
theorem rd_go {nx w : L2.St → Hp → Prop} {σ : L2.St} {H : Hp} (h : ∀ σ' H', w σ' H' → nx σ' H') (q : w σ H) : nx σ H := h _ _ q
end Sb
namespace K51
open PySem PySem.Spec PyProof.Rows L2 He Sb
def top (i : Nat) : Stmt := PySem.Challenge.pw_stonestairs_k51_disks_torn_in_any_order.main.body.getD i (.Pass ⟨0, 0, 0, 0⟩)
abbrev s__law_state : Stmt := top 4
def d__law_state : DefD := ⟨("_law_state", none), "_law_state", "_law_state", defArgs s__law_state, defBody s__law_state, defScope s__law_state, [], []⟩
abbrev s__law_take : Stmt := top 5
def d__law_take : DefD := ⟨("_law_take", none), "_law_take", "_law_take", defArgs s__law_take, defBody s__law_take, defScope s__law_take, [], []⟩
abbrev s__law_crashed : Stmt := top 6
def d__law_crashed : DefD := ⟨("_law_crashed", none), "_law_crashed", "_law_crashed", defArgs s__law_crashed, defBody s__law_crashed, defScope s__law_crashed, [], []⟩
abbrev s_law : Stmt := top 7
def d_law : DefD := ⟨("law", none), "law", "law", defArgs s_law, defBody s_law, defScope s_law, [], []⟩
abbrev s_Disk___init__ : Stmt := inClass (top 2) 0
def d_Disk___init__ : DefD := ⟨("Disk", some "__init__"), "__init__", "Disk.__init__", defArgs s_Disk___init__, defBody s_Disk___init__, defScope s_Disk___init__, [], []⟩
abbrev s_Disk_whole : Stmt := inClass (top 2) 1
def d_Disk_whole : DefD := ⟨("Disk", some "whole"), "whole", "Disk.whole", defArgs s_Disk_whole, defBody s_Disk_whole, defScope s_Disk_whole, [], []⟩
abbrev s_Disk_read : Stmt := inClass (top 2) 2
def d_Disk_read : DefD := ⟨("Disk", some "read"), "read", "Disk.read", defArgs s_Disk_read, defBody s_Disk_read, defScope s_Disk_read, [], []⟩
abbrev s_Disk_cut_in : Stmt := inClass (top 2) 3
def d_Disk_cut_in : DefD := ⟨("Disk", some "cut_in"), "cut_in", "Disk.cut_in", defArgs s_Disk_cut_in, defBody s_Disk_cut_in, defScope s_Disk_cut_in, [], []⟩
abbrev s_Disk_counts : Stmt := inClass (top 2) 4
def d_Disk_counts : DefD := ⟨("Disk", some "counts"), "counts", "Disk.counts", defArgs s_Disk_counts, defBody s_Disk_counts, defScope s_Disk_counts, [], []⟩
abbrev s_Disk_write : Stmt := inClass (top 2) 5
def d_Disk_write : DefD := ⟨("Disk", some "write"), "write", "Disk.write", defArgs s_Disk_write, defBody s_Disk_write, defScope s_Disk_write, [], []⟩
abbrev s_Disk_sync : Stmt := inClass (top 2) 6
def d_Disk_sync : DefD := ⟨("Disk", some "sync"), "sync", "Disk.sync", defArgs s_Disk_sync, defBody s_Disk_sync, defScope s_Disk_sync, [], []⟩
abbrev s_Disk_crash : Stmt := inClass (top 2) 7
def d_Disk_crash : DefD := ⟨("Disk", some "crash"), "crash", "Disk.crash", defArgs s_Disk_crash, defBody s_Disk_crash, defScope s_Disk_crash, [], []⟩
abbrev s_Disk_synced : Stmt := inClass (top 2) 8
def d_Disk_synced : DefD := ⟨("Disk", some "synced"), "synced", "Disk.synced", defArgs s_Disk_synced, defBody s_Disk_synced, defScope s_Disk_synced, [], []⟩
structure FDisk where
  (sectors waiting left rows is_cut : V)
def mkDisk (s : FDisk) : List (Str × V) := [("sectors", s.sectors), ("waiting", s.waiting), ("left", s.left), ("rows", s.rows), ("is_cut", s.is_cut)]
theorem len_Disk (s : FDisk) : (mkDisk s).length < 1000 := (by decide : 5 < 1000)
theorem lk_Disk_sectors (s : FDisk) : List.lookup ("sectors" : Str) (mkDisk s) = some s.sectors := lkH
theorem pt_Disk_sectors (s : FDisk) (y : V) : putF "sectors" y (mkDisk s) = mkDisk { s with sectors := y } := ptH
theorem pi_Disk_0 { y : V} : putF "sectors" y ([] : List (Str × V)) = ([("sectors", y)] : List (Str × V)) := ptN
theorem lk_Disk_waiting (s : FDisk) : List.lookup ("waiting" : Str) (mkDisk s) = some s.waiting := (lkS (by decide +kernel)).trans <| lkH
theorem pt_Disk_waiting (s : FDisk) (y : V) : putF "waiting" y (mkDisk s) = mkDisk { s with waiting := y } := (ptS (by decide +kernel)).trans <| congrArg _ <| ptH
theorem pi_Disk_1 {a0 y : V} : putF "waiting" y ([("sectors", a0)] : List (Str × V)) = ([("sectors", a0), ("waiting", y)] : List (Str × V)) := (ptS (by decide +kernel)).trans <| congrArg _ <| ptN
theorem lk_Disk_left (s : FDisk) : List.lookup ("left" : Str) (mkDisk s) = some s.left := (lkS (by decide +kernel)).trans <| (lkS (by decide +kernel)).trans <| lkH
theorem pt_Disk_left (s : FDisk) (y : V) : putF "left" y (mkDisk s) = mkDisk { s with left := y } := (ptS (by decide +kernel)).trans <| congrArg _ <| (ptS (by decide +kernel)).trans <| congrArg _ <| ptH
theorem pi_Disk_2 {a0 a1 y : V} : putF "left" y ([("sectors", a0), ("waiting", a1)] : List (Str × V)) = ([("sectors", a0), ("waiting", a1), ("left", y)] : List (Str × V)) := (ptS (by decide +kernel)).trans <| congrArg _ <| (ptS (by decide +kernel)).trans <| congrArg _ <| ptN
theorem lk_Disk_rows (s : FDisk) : List.lookup ("rows" : Str) (mkDisk s) = some s.rows := (lkS (by decide +kernel)).trans <| (lkS (by decide +kernel)).trans <| (lkS (by decide +kernel)).trans <| lkH
theorem pt_Disk_rows (s : FDisk) (y : V) : putF "rows" y (mkDisk s) = mkDisk { s with rows := y } := (ptS (by decide +kernel)).trans <| congrArg _ <| (ptS (by decide +kernel)).trans <| congrArg _ <| (ptS (by decide +kernel)).trans <| congrArg _ <| ptH
theorem pi_Disk_3 {a0 a1 a2 y : V} : putF "rows" y ([("sectors", a0), ("waiting", a1), ("left", a2)] : List (Str × V)) = ([("sectors", a0), ("waiting", a1), ("left", a2), ("rows", y)] : List (Str × V)) := (ptS (by decide +kernel)).trans <| congrArg _ <| (ptS (by decide +kernel)).trans <| congrArg _ <| (ptS (by decide +kernel)).trans <| congrArg _ <| ptN
theorem lk_Disk_is_cut (s : FDisk) : List.lookup ("is_cut" : Str) (mkDisk s) = some s.is_cut := (lkS (by decide +kernel)).trans <| (lkS (by decide +kernel)).trans <| (lkS (by decide +kernel)).trans <| (lkS (by decide +kernel)).trans <| lkH
theorem pt_Disk_is_cut (s : FDisk) (y : V) : putF "is_cut" y (mkDisk s) = mkDisk { s with is_cut := y } := (ptS (by decide +kernel)).trans <| congrArg _ <| (ptS (by decide +kernel)).trans <| congrArg _ <| (ptS (by decide +kernel)).trans <| congrArg _ <| (ptS (by decide +kernel)).trans <| congrArg _ <| ptH
theorem pi_Disk_4 {a0 a1 a2 a3 y : V} : putF "is_cut" y ([("sectors", a0), ("waiting", a1), ("left", a2), ("rows", a3)] : List (Str × V)) = ([("sectors", a0), ("waiting", a1), ("left", a2), ("rows", a3), ("is_cut", y)] : List (Str × V)) := (ptS (by decide +kernel)).trans <| congrArg _ <| (ptS (by decide +kernel)).trans <| congrArg _ <| (ptS (by decide +kernel)).trans <| congrArg _ <| (ptS (by decide +kernel)).trans <| congrArg _ <| ptN
theorem nm_Disk___init__ (s : FDisk) : List.lookup ("__init__" : Str) (mkDisk s) = none := (lkS (by decide +kernel)).trans <| (lkS (by decide +kernel)).trans <| (lkS (by decide +kernel)).trans <| (lkS (by decide +kernel)).trans <| (lkS (by decide +kernel)).trans <| rfl
theorem nm_Disk_whole (s : FDisk) : List.lookup ("whole" : Str) (mkDisk s) = none := (lkS (by decide +kernel)).trans <| (lkS (by decide +kernel)).trans <| (lkS (by decide +kernel)).trans <| (lkS (by decide +kernel)).trans <| (lkS (by decide +kernel)).trans <| rfl
theorem nm_Disk_read (s : FDisk) : List.lookup ("read" : Str) (mkDisk s) = none := (lkS (by decide +kernel)).trans <| (lkS (by decide +kernel)).trans <| (lkS (by decide +kernel)).trans <| (lkS (by decide +kernel)).trans <| (lkS (by decide +kernel)).trans <| rfl
theorem nm_Disk_cut_in (s : FDisk) : List.lookup ("cut_in" : Str) (mkDisk s) = none := (lkS (by decide +kernel)).trans <| (lkS (by decide +kernel)).trans <| (lkS (by decide +kernel)).trans <| (lkS (by decide +kernel)).trans <| (lkS (by decide +kernel)).trans <| rfl
theorem nm_Disk_counts (s : FDisk) : List.lookup ("counts" : Str) (mkDisk s) = none := (lkS (by decide +kernel)).trans <| (lkS (by decide +kernel)).trans <| (lkS (by decide +kernel)).trans <| (lkS (by decide +kernel)).trans <| (lkS (by decide +kernel)).trans <| rfl
theorem nm_Disk_write (s : FDisk) : List.lookup ("write" : Str) (mkDisk s) = none := (lkS (by decide +kernel)).trans <| (lkS (by decide +kernel)).trans <| (lkS (by decide +kernel)).trans <| (lkS (by decide +kernel)).trans <| (lkS (by decide +kernel)).trans <| rfl
theorem nm_Disk_sync (s : FDisk) : List.lookup ("sync" : Str) (mkDisk s) = none := (lkS (by decide +kernel)).trans <| (lkS (by decide +kernel)).trans <| (lkS (by decide +kernel)).trans <| (lkS (by decide +kernel)).trans <| (lkS (by decide +kernel)).trans <| rfl
theorem nm_Disk_crash (s : FDisk) : List.lookup ("crash" : Str) (mkDisk s) = none := (lkS (by decide +kernel)).trans <| (lkS (by decide +kernel)).trans <| (lkS (by decide +kernel)).trans <| (lkS (by decide +kernel)).trans <| (lkS (by decide +kernel)).trans <| rfl
theorem nm_Disk_synced (s : FDisk) : List.lookup ("synced" : Str) (mkDisk s) = none := (lkS (by decide +kernel)).trans <| (lkS (by decide +kernel)).trans <| (lkS (by decide +kernel)).trans <| (lkS (by decide +kernel)).trans <| (lkS (by decide +kernel)).trans <| rfl
def fn : List DefD := [d__law_state, d__law_take, d__law_crashed, d_law, d_Disk___init__, d_Disk_whole, d_Disk_read, d_Disk_cut_in, d_Disk_counts, d_Disk_write, d_Disk_sync, d_Disk_crash, d_Disk_synced]
def fa : List Fa := [.glo "_law_state", .glo "_law_take", .glo "_law_crashed", .glo "law", .glo "Disk", .free "list", .free "sorted", .free "zip", .free "set", .free "len", .free "min", .free "max", .free "abs", .free "int", .free "range", .free "dict", .int "SECTOR" 16, .cls "Disk", .mkr "Disk", .noat "Disk" "sectors", .noat "Disk" "waiting", .noat "Disk" "left", .noat "Disk" "rows", .noat "Disk" "is_cut", .meth "Disk" "whole", .meth "Disk" "read", .meth "Disk" "cut_in", .meth "Disk" "counts", .meth "Disk" "write", .meth "Disk" "sync", .meth "Disk" "crash", .meth "Disk" "synced"]
abbrev Wd (K : PySem.W.Frag) (mg : Str → Option Value) : Prop := Sb.Wd0 fa fn K mg
section
variable {K : PySem.W.Frag} {mg : Str → Option Value}
theorem f_glo__law_state (W : Wd K mg) : mg "_law_state" = some (.ref (ga K "_law_state")) := W.glo (W.says.fact 0)
theorem f_glo__law_take (W : Wd K mg) : mg "_law_take" = some (.ref (ga K "_law_take")) := W.glo (W.says.fact 1)
theorem f_glo__law_crashed (W : Wd K mg) : mg "_law_crashed" = some (.ref (ga K "_law_crashed")) := W.glo (W.says.fact 2)
theorem f_glo_law (W : Wd K mg) : mg "law" = some (.ref (ga K "law")) := W.glo (W.says.fact 3)
theorem f_glo_Disk (W : Wd K mg) : mg "Disk" = some (.ref (ga K "Disk")) := W.glo (W.says.fact 4)
theorem f_free_list (W : Wd K mg) : mg "list" = none := W.free (W.says.fact 5)
theorem f_free_sorted (W : Wd K mg) : mg "sorted" = none := W.free (W.says.fact 6)
theorem f_free_zip (W : Wd K mg) : mg "zip" = none := W.free (W.says.fact 7)
theorem f_free_set (W : Wd K mg) : mg "set" = none := W.free (W.says.fact 8)
theorem f_free_len (W : Wd K mg) : mg "len" = none := W.free (W.says.fact 9)
theorem f_free_min (W : Wd K mg) : mg "min" = none := W.free (W.says.fact 10)
theorem f_free_max (W : Wd K mg) : mg "max" = none := W.free (W.says.fact 11)
theorem f_free_abs (W : Wd K mg) : mg "abs" = none := W.free (W.says.fact 12)
theorem f_free_int (W : Wd K mg) : mg "int" = none := W.free (W.says.fact 13)
theorem f_free_range (W : Wd K mg) : mg "range" = none := W.free (W.says.fact 14)
theorem f_free_dict (W : Wd K mg) : mg "dict" = none := W.free (W.says.fact 15)
theorem f_int_SECTOR (W : Wd K mg) : ∃ t, mg "SECTOR" = some (.int 16 t) := W.int (W.says.fact 16)
theorem f_cls_Disk (W : Wd K mg) : Cls K (ga K "Disk") := cls_ok (W.says.fact 17)
theorem f_mk_Disk (W : Wd K mg) : Mk K (ga K "Disk") (ma K (ga K "Disk") "__init__") := mkr_ok (W.says.fact 18)
theorem f_no_Disk_sectors (W : Wd K mg) : NoAttr K (ga K "Disk") "sectors" := noat_ok (W.says.fact 19)
theorem f_no_Disk_waiting (W : Wd K mg) : NoAttr K (ga K "Disk") "waiting" := noat_ok (W.says.fact 20)
theorem f_no_Disk_left (W : Wd K mg) : NoAttr K (ga K "Disk") "left" := noat_ok (W.says.fact 21)
theorem f_no_Disk_rows (W : Wd K mg) : NoAttr K (ga K "Disk") "rows" := noat_ok (W.says.fact 22)
theorem f_no_Disk_is_cut (W : Wd K mg) : NoAttr K (ga K "Disk") "is_cut" := noat_ok (W.says.fact 23)
theorem f_meth_Disk_whole (W : Wd K mg) : Meth K (ga K "Disk") "whole" (ma K (ga K "Disk") "whole") := meth_ok (W.says.fact 24)
theorem f_meth_Disk_read (W : Wd K mg) : Meth K (ga K "Disk") "read" (ma K (ga K "Disk") "read") := meth_ok (W.says.fact 25)
theorem f_meth_Disk_cut_in (W : Wd K mg) : Meth K (ga K "Disk") "cut_in" (ma K (ga K "Disk") "cut_in") := meth_ok (W.says.fact 26)
theorem f_meth_Disk_counts (W : Wd K mg) : Meth K (ga K "Disk") "counts" (ma K (ga K "Disk") "counts") := meth_ok (W.says.fact 27)
theorem f_meth_Disk_write (W : Wd K mg) : Meth K (ga K "Disk") "write" (ma K (ga K "Disk") "write") := meth_ok (W.says.fact 28)
theorem f_meth_Disk_sync (W : Wd K mg) : Meth K (ga K "Disk") "sync" (ma K (ga K "Disk") "sync") := meth_ok (W.says.fact 29)
theorem f_meth_Disk_crash (W : Wd K mg) : Meth K (ga K "Disk") "crash" (ma K (ga K "Disk") "crash") := meth_ok (W.says.fact 30)
theorem f_meth_Disk_synced (W : Wd K mg) : Meth K (ga K "Disk") "synced" (ma K (ga K "Disk") "synced") := meth_ok (W.says.fact 31)
end
end K51
/-! the disk as plain data -/
namespace Dsk
structure Dk where
  sec : List (Int × List Int)
  wait : List (Int × List Int)
  left : Option Int
  rows : List (Int × Int)
  cut : Bool
def blank : List Int := List.replicate 16 0
def look (sec : List (Int × List Int)) (n : Int) : Option (List Int) := (sec.find? fun r => decide (r.1 = n)).map (·.2)
def getS (sec : List (Int × List Int)) (n : Int) : List Int := (look sec n).getD blank
def putS (sec : List (Int × List Int)) (n : Int) (c : List Int) : List (Int × List Int) :=
  if (sec.any fun r => decide (r.1 = n)) = true then sec.map (fun r => if r.1 = n then (r.1, c) else r) else sec ++ [(n, c)]
def insU (k : Int) : List Int → List Int
  | [] => [k]
  | x :: r => if k < x then k :: x :: r else if k = x then x :: r else x :: insU k r
def nums (wait : List (Int × List Int)) : List Int := wait.foldr (fun r acc => insU r.1 acc) []
def ofNum (wait : List (Int × List Int)) (n : Int) : List (List Int) := (wait.filter fun r => decide (r.1 = n)).map (·.2)
def cap (s : Int) : Nat := (min 16 (max 0 s)).toNat
def crash1 (wait : List (Int × List Int)) (sec : List (Int × List Int)) (q : (Int × Int) × Int) : List (Int × List Int) :=
  if 0 ≤ q.1.1 ∧ q.1.1 < ((ofNum wait q.2).length : Int) then putS sec q.2 (((ofNum wait q.2).getD q.1.1.toNat []).take (cap q.1.2) ++ (getS sec q.2).drop (cap q.1.2)) else sec
def crashS (sec wait : List (Int × List Int)) (rows : List (Int × Int)) : List (Int × List Int) := (rows.zip (nums wait)).foldl (crash1 wait) sec
def Dk.crash (D : Dk) (rows : List (Int × Int)) : Dk := { D with sec := crashS D.sec D.wait rows, wait := [] }
/-- behind counting: the disk, whether the write or sync is done -/
def Dk.counts (D : Dk) : Dk :=
  match D.left with
  | none => D
  | some l => if D.cut then D else if l - 1 ≤ 0 then { ({ D with left := some (l - 1) } : Dk).crash D.rows with cut := true } else { D with left := some (l - 1) }
def Dk.write (D : Dk) (n : Int) (c : List Int) : Dk := if D.counts.cut then D.counts else { D.counts with wait := D.counts.wait ++ [(n, c)] }
def syncS (sec wait : List (Int × List Int)) : List (Int × List Int) := wait.foldl (fun s r => putS s r.1 r.2) sec
def Dk.sync (D : Dk) : Dk := if D.counts.cut then D.counts else { D.counts with sec := syncS D.counts.sec D.counts.wait, wait := [] }
def Dk.cutIn (D : Dk) (m : Int) (rows : List (Int × Int)) : Dk := if D.cut then D else { D with left := some m, rows := rows }
def readW (wait : List (Int × List Int)) (n : Int) (d : List Int) : List Int := wait.foldl (fun acc r => if r.1 = n then r.2 else acc) d
def Dk.read (D : Dk) (n : Int) : List Int := readW D.wait n (getS D.sec n)
def synced (sec : List (Int × List Int)) : List (Int × List Int) := ((nums sec).map fun n => (n, getS sec n)).filter fun r => decide (r.2 ≠ blank)
/-! facts -/
theorem insU_mem (k : Int) : ∀ (l : List Int) (x : Int), x ∈ insU k l ↔ x = k ∨ x ∈ l
  | [], x => by simp [insU]
  | y :: r, x => by
    unfold insU
    split
    · simp
    · split
      · rename_i h; subst h; simp
      · simp only [List.mem_cons, insU_mem k r x]
        constructor
        · rintro (h | h | h) <;> simp [h]
        · rintro (h | h | h) <;> simp [h]
theorem insU_sorted (k : Int) : ∀ (l : List Int), l.Pairwise (· < ·) → (insU k l).Pairwise (· < ·)
  | [], _ => by simp [insU]
  | y :: r, h => by
    have h' := List.pairwise_cons.mp h
    unfold insU
    split
    · rename_i hk
      refine List.pairwise_cons.mpr ⟨fun z hz => ?_, h⟩
      rcases List.mem_cons.mp hz with e | e
      · omega
      · have := h'.1 z e; omega
    · split
      · exact h
      · rename_i h1 h2
        refine List.pairwise_cons.mpr ⟨fun z hz => ?_, insU_sorted k r h'.2⟩
        rcases (insU_mem k r z).mp hz with e | e
        · omega
        · exact h'.1 z e
theorem nums_mem : ∀ (w : List (Int × List Int)) (x : Int), x ∈ nums w ↔ x ∈ w.map (·.1)
  | [], x => by simp [nums]
  | r :: w, x => by
    show x ∈ insU r.1 (nums w) ↔ _
    rw [insU_mem, nums_mem w x]; simp
theorem nums_sorted : ∀ (w : List (Int × List Int)), (nums w).Pairwise (· < ·)
  | [] => by simp [nums]
  | r :: w => insU_sorted r.1 _ (nums_sorted w)
theorem sorted_nodup {l : List Int} (h : l.Pairwise (· < ·)) : l.Nodup := h.imp fun h => by omega
theorem sorted_unique : ∀ {a b : List Int}, a.Pairwise (· < ·) → b.Pairwise (· < ·) → (∀ k, k ∈ a ↔ k ∈ b) → a = b
  | [], [], _, _, _ => rfl
  | [], y :: b, _, _, h => by have := (h y).mpr (by simp); simp at this
  | x :: a, [], _, _, h => by have := (h x).mp (by simp); simp at this
  | x :: a, y :: b, ha, hb, h => by
    have ha' := List.pairwise_cons.mp ha
    have hb' := List.pairwise_cons.mp hb
    have e : x = y := by
      rcases List.mem_cons.mp ((h x).mp (by simp)) with q | q
      · exact q
      · rcases List.mem_cons.mp ((h y).mpr (by simp)) with z | z
        · exact z.symm
        · have := ha'.1 y z; have := hb'.1 x q; omega
    subst e
    refine congrArg _ (sorted_unique ha'.2 hb'.2 fun k => ⟨fun hk => ?_, fun hk => ?_⟩)
    · rcases List.mem_cons.mp ((h k).mp (by simp [hk])) with q | q
      · have := ha'.1 k hk; omega
      · exact q
    · rcases List.mem_cons.mp ((h k).mpr (by simp [hk])) with q | q
      · have := hb'.1 k hk; omega
      · exact q
theorem nums_len (w : List (Int × List Int)) : (nums w).length ≤ w.length := by
  have h : ∀ (k : Int) (l : List Int), (insU k l).length ≤ l.length + 1 := by
    intro k l
    induction l with
    | nil => simp [insU]
    | cons y r ih =>
      unfold insU
      split
      · simp
      · split
        · simp
        · simp only [List.length_cons]; omega
  induction w with
  | nil => simp [nums]
  | cons r w ih =>
    have := h r.1 (nums w)
    show (insU r.1 (nums w)).length ≤ _
    simp only [List.length_cons]; omega
theorem look_some {sec : List (Int × List Int)} {n : Int} {c : List Int} (h : look sec n = some c) : (n, c) ∈ sec := by
  unfold look at h
  cases e : sec.find? fun r => decide (r.1 = n) with
  | none => rw [e] at h; cases h
  | some r =>
    rw [e] at h
    have h1 := List.mem_of_find?_eq_some e
    have h2 := List.find?_some e
    have h3 : r.1 = n := by simpa using h2
    have h4 : r.2 = c := Option.some.inj h
    rw [← h3, ← h4]; exact h1
theorem putS_keys {sec : List (Int × List Int)} {n : Int} {c : List Int} (h : (sec.map (·.1)).Nodup) : ((putS sec n c).map (·.1)).Nodup := by
  unfold putS
  split
  · have e : (sec.map fun r => if r.1 = n then (r.1, c) else r).map (·.1) = sec.map (·.1) := by
      rw [List.map_map]; apply List.map_congr_left; intro r _; simp only [Function.comp]; split <;> rfl
    rw [e]; exact h
  · rename_i q
    rw [List.map_append]
    refine List.nodup_append.mpr ⟨h, by simp, ?_⟩
    intro a ha b hb e
    simp at hb
    subst hb; subst e
    apply q
    obtain ⟨r, hr, er⟩ := List.mem_map.mp ha
    exact List.any_eq_true.mpr ⟨r, hr, by simpa using er⟩
theorem putS_len (sec : List (Int × List Int)) (n : Int) (c : List Int) : (putS sec n c).length ≤ sec.length + 1 := by
  unfold putS; split <;> simp
theorem putS_mem {sec : List (Int × List Int)} {n : Int} {c : List Int} {r : Int × List Int} (h : r ∈ putS sec n c) : r ∈ sec ∨ r = (n, c) := by
  unfold putS at h
  split at h
  · obtain ⟨q, hq, e⟩ := List.mem_map.mp h
    split at e
    · rename_i k; right; rw [← e, k]
    · left; rw [← e]; exact hq
  · rcases List.mem_append.mp h with q | q
    · exact .inl q
    · exact .inr (by simpa using q)
end Dsk
namespace K51
open PySem PySem.Spec PyProof.Rows L2 He Sb
abbrev R : PySem.W.OpenRow := PySem.W.OpenLaw.row PySem.Challenge.rw_stonestairs_k51_disks_torn_in_any_order
abbrev hk : PySem.W.Hook := He.hookD 6 fa fn
def ob (s : PySem.W.SharedT) : He.AlD := He.obsDG 6 fa fn (HandSHeadRun.getT s)
theorem ob_eq (s : PySem.W.SharedT) : ob s = hk.obs s.abs := He.obsDG_eq (HandSHeadRun.getT_eq s)
theorem run (w : World) : HandSHeadRun.RunEq R (PySem.W.view R.prog [7]) hk ob 3000 ["SECTOR", "Disk", "_law_state", "_law_take", "_law_crashed"] w := by
  intro os
  kernel_rfl
end K51
namespace K51
open PySem PySem.Spec PyProof.Rows L2 He Sb Dsk
/-! ### how a disk lies in the heap -/
def IL (H : Hp) (a : Addr) (ns : List Int) : Prop := H a = some (.lst (ns.map V.int))
def SecR (F : Hp) (kv : Key × V) (r : Int × List Int) : Prop := kv.1 = Sum.inl r.1 ∧ ∃ a, kv.2 = .ref a ∧ IL F a r.2
def WaitR (F : Hp) (v : V) (r : Int × List Int) : Prop := ∃ t a, v = .ref t ∧ F t = some (.tup [.int r.1, .ref a]) ∧ IL F a r.2
def RowR (F : Hp) (v : V) (r : Int × Int) : Prop := ∃ t, v = .ref t ∧ F t = some (.tup [.int r.1, .int r.2])
def lv : Option Int → V
  | none => .non
  | some i => .int i
structure DiskIn (C : Addr) (H F : Hp) (p dx d w r : Addr) (kvs : List (Key × V)) (ws rs : List V) (D : Dk) : Prop where
  ob : H p = some (.ins C dx (mkDisk ⟨.ref d, .ref w, lv D.left, .ref r, .bl D.cut⟩))
  dc : H d = some (.dK kvs)
  wl : H w = some (.lst ws)
  fs : Same F H
  fp : F p = none
  fd : F d = none
  fw : F w = none
  rl : F r = some (.lst rs)
  sec : Paired (SecR F) kvs D.sec
  wait : Paired (WaitR F) ws D.wait
  rows : Paired (RowR F) rs D.rows
def DiskAt (C : Addr) (G : Hp) (p : Addr) (D : Dk) : Prop := ∃ F dx d w r kvs ws rs, DiskIn C G F p dx d w r kvs ws rs D
structure Fine (D : Dk) : Prop where
  s16 : ∀ r ∈ D.sec, r.2.length = 16
  w16 : ∀ r ∈ D.wait, r.2.length = 16
  nd : (D.sec.map (·.1)).Nodup
  sl : D.sec.length ≤ 100000
  wl : D.wait.length ≤ 4000
  nl : (nums D.wait).length < 64
  nk : (D.sec.length) < 64
  rl : D.rows.length ≤ 100000
theorem SecR.mono {F F' : Hp} (h : Same F F') {kv : Key × V} {r : Int × List Int} (x : SecR F kv r) : SecR F' kv r := by
  obtain ⟨e, a, e2, i⟩ := x
  exact ⟨e, a, e2, h _ _ i⟩
theorem WaitR.mono {F F' : Hp} (h : Same F F') {v : V} {r : Int × List Int} (x : WaitR F v r) : WaitR F' v r := by
  obtain ⟨t, a, e, e2, i⟩ := x
  exact ⟨t, a, e, h _ _ e2, h _ _ i⟩
theorem RowR.mono {F F' : Hp} (h : Same F F') {v : V} {r : Int × Int} (x : RowR F v r) : RowR F' v r := by
  obtain ⟨t, e, e2⟩ := x
  exact ⟨t, e, h _ _ e2⟩
theorem DiskIn.mono {C : Addr} {H H' F : Hp} {p dx d w r : Addr} {kvs ws rs D} (x : DiskIn C H F p dx d w r kvs ws rs D) (h : Same H H') : DiskIn C H' F p dx d w r kvs ws rs D :=
  ⟨h _ _ x.ob, h _ _ x.dc, h _ _ x.wl, fun b o e => h b o (x.fs b o e), x.fp, x.fd, x.fw, x.rl, x.sec, x.wait, x.rows⟩
theorem DiskAt.mono {C : Addr} {G G' : Hp} {p : Addr} {D : Dk} (x : DiskAt C G p D) (h : Same G G') : DiskAt C G' p D := by
  obtain ⟨F, dx, d, w, r, kvs, ws, rs, y⟩ := x
  exact ⟨F, dx, d, w, r, kvs, ws, rs, y.mono h⟩
/-! looks in the dict -/
theorem sec_look {F : Hp} : ∀ {kvs : List (Key × V)} {sec : List (Int × List Int)}, Paired (SecR F) kvs sec → ∀ n : Int,
    (look sec n = none ∧ valV kvs (Sum.inl n) = none) ∨ ∃ a c, look sec n = some c ∧ valV kvs (Sum.inl n) = some (.ref a) ∧ IL F a c
  | [], [], .nil, n => .inl ⟨rfl, rfl⟩
  | kv :: kvs, r :: sec, .cons h t, n => by
    obtain ⟨e1, a, e2, i⟩ := h
    by_cases q : r.1 = n
    · have e3 : kv.1 = (Sum.inl n : Key) := by rw [e1, q]
      exact .inr ⟨a, r.2, by simp [look, List.find?_cons, q], by rw [valV_pos e3, e2], i⟩
    · have e3 : ¬ kv.1 = (Sum.inl n : Key) := by
        rw [e1]
        intro z
        exact q (Sum.inl.inj z)
      have e4 : look (r :: sec) n = look sec n := by simp [look, List.find?_cons, q]
      rw [valV_neg e3, e4]
      exact sec_look t n
theorem sec_any {F : Hp} {n : Int} : ∀ {kvs : List (Key × V)} {sec : List (Int × List Int)}, Paired (SecR F) kvs sec → (kvs.any fun kv => decide (kv.1 = Sum.inl n)) = sec.any fun r => decide (r.1 = n)
  | [], [], .nil => rfl
  | kv :: kvs, r :: sec, .cons h t => by
    have ih := sec_any (n := n) t
    obtain ⟨e1, _⟩ := h
    have e2 : decide (kv.1 = (Sum.inl n : Key)) = decide (r.1 = n) := by
      rw [e1]
      by_cases q : r.1 = n
      · simp [q]
      · have : ¬ (Sum.inl r.1 : Key) = Sum.inl n := fun z => q (Sum.inl.inj z)
        simp [q, this]
    rw [List.any_cons, List.any_cons, ih, e2]
theorem sec_repl {F : Hp} {n : Int} {a : Addr} {c : List Int} (i : IL F a c) : ∀ {kvs : List (Key × V)} {sec : List (Int × List Int)}, Paired (SecR F) kvs sec →
    Paired (SecR F) (kvs.map fun kv => if kv.1 = Sum.inl n then (kv.1, V.ref a) else kv) (sec.map fun r => if r.1 = n then (r.1, c) else r)
  | [], [], .nil => .nil
  | kv :: kvs, r :: sec, .cons hd tl => by
    obtain ⟨e1, b, e2, j⟩ := hd
    refine .cons ?_ (sec_repl i tl)
    show SecR F (if kv.1 = Sum.inl n then (kv.1, V.ref a) else kv) (if r.1 = n then (r.1, c) else r)
    by_cases q : r.1 = n
    · have e3 : kv.1 = (Sum.inl n : Key) := by rw [e1, q]
      rw [if_pos e3, if_pos q]
      exact ⟨e1, a, rfl, i⟩
    · have e3 : ¬ kv.1 = (Sum.inl n : Key) := by
        rw [e1]
        intro z
        exact q (Sum.inl.inj z)
      rw [if_neg e3, if_neg q]
      exact ⟨e1, b, e2, j⟩
theorem sec_put {F : Hp} {n : Int} {a : Addr} {c : List Int} (i : IL F a c) {kvs : List (Key × V)} {sec : List (Int × List Int)} (h : Paired (SecR F) kvs sec) : Paired (SecR F) (putK kvs (Sum.inl n) (.ref a)) (putS sec n c) := by
  unfold putK putS
  rw [sec_any h]
  split
  · exact sec_repl i h
  · exact h.snoc ⟨rfl, a, rfl, i⟩
theorem sec_keys {F : Hp} {kvs : List (Key × V)} {sec : List (Int × List Int)} (h : Paired (SecR F) kvs sec) : kvs.map (·.1) = (sec.map (·.1)).map Sum.inl := by
  induction h with
  | nil => rfl
  | cons hd tl ih => simp only [List.map_cons, ih, hd.1]
theorem blank_v : (List.replicate (16 : Int).toNat [V.int 0]).flatten = blank.map V.int := by decide +kernel
end K51
namespace K51
open PySem PySem.Spec PyProof.Rows L2 He Sb Dsk
/-- a disk's own changing places -/
def Mut3 (p d w : Addr) : Addr → Prop := fun b => b = p ∨ b = d ∨ b = w
theorem DiskIn.chg {C : Addr} {G H F H' : Hp} {p dx d w r : Addr} {kvs ws rs D} (x : DiskIn C G F p dx d w r kvs ws rs D) (sG : Same G H) (w' : Addr) (hw : w' = w ∨ H w' = none) (k : ∀ b o, H b = some o → b ≠ p → b ≠ d → b ≠ w → H' b = some o) :
    ∃ G' F', Chg G H F (Mut3 p d w') G' H' F' := by
  have y := x.mono sG
  refine chg_mk (M := Mut3 p d w) sG x.fs (fun b m => ?_) (fun b m => ?_) (fun b m xs e => ?_) (fun b o e n => k b o e (fun z => n (.inl z)) (fun z => n (.inr (.inl z))) fun z => n (.inr (.inr z))) (fun b m => ?_)
  · rcases m with rfl | rfl | rfl
    · exact x.fp
    · exact x.fd
    · exact x.fw
  · rcases m with rfl | rfl | rfl
    · rw [x.ob]; intro z; cases z
    · rw [x.dc]; intro z; cases z
    · rw [x.wl]; intro z; cases z
  · rcases m with rfl | rfl | rfl
    · rw [y.ob] at e; cases e
    · rw [y.dc] at e; cases e
    · rw [y.wl] at e; cases e
  · rcases m with rfl | rfl | rfl
    · exact .inl (.inl rfl)
    · exact .inl (.inr (.inl rfl))
    · rcases hw with rfl | q
      · exact .inl (.inr (.inr rfl))
      · exact .inr q
/-- the changed disk lies again -/
theorem DiskIn.lay {C : Addr} {G H F G' H' F' : Hp} {p dx d w' r' : Addr} {kvs' ws' rs' D'} (c : Chg G H F (Mut3 p d w') G' H' F') (ob : H' p = some (.ins C dx (mkDisk ⟨.ref d, .ref w', lv D'.left, .ref r', .bl D'.cut⟩))) (dc : H' d = some (.dK kvs')) (wl : H' w' = some (.lst ws'))
    (rl : F' r' = some (.lst rs')) (sec : Paired (SecR F') kvs' D'.sec) (wait : Paired (WaitR F') ws' D'.wait) (rows : Paired (RowR F') rs' D'.rows) : DiskAt C G' p D' :=
  ⟨F', dx, d, w', r', kvs', ws', rs', c.at_ _ _ (.inl rfl) ob, c.at_ _ _ (.inr (.inl rfl)) dc, c.at_ _ _ (.inr (.inr rfl)) wl, c.fg, c.no _ (.inl rfl), c.no _ (.inr (.inl rfl)), c.no _ (.inr (.inr rfl)), rl, sec, wait, rows⟩
/-- the same, in full -/
theorem DiskIn.lay' {C : Addr} {G H F G' H' F' : Hp} {p dx d w' r' : Addr} {kvs' ws' rs' D'} (c : Chg G H F (Mut3 p d w') G' H' F') (ob : H' p = some (.ins C dx (mkDisk ⟨.ref d, .ref w', lv D'.left, .ref r', .bl D'.cut⟩))) (dc : H' d = some (.dK kvs')) (wl : H' w' = some (.lst ws'))
    (rl : F' r' = some (.lst rs')) (sec : Paired (SecR F') kvs' D'.sec) (wait : Paired (WaitR F') ws' D'.wait) (rows : Paired (RowR F') rs' D'.rows) : DiskIn C G' F' p dx d w' r' kvs' ws' rs' D' :=
  ⟨c.at_ _ _ (.inl rfl) ob, c.at_ _ _ (.inr (.inl rfl)) dc, c.at_ _ _ (.inr (.inr rfl)) wl, c.fg, c.no _ (.inl rfl), c.no _ (.inr (.inl rfl)), c.no _ (.inr (.inr rfl)), rl, sec, wait, rows⟩
/-- a store of left or is_cut alone -/
theorem DiskIn.fld {C : Addr} {G H F H' : Hp} {p dx d w r : Addr} {kvs ws rs} {D D' : Dk} (x : DiskIn C G F p dx d w r kvs ws rs D) (sG : Same G H) (h : Wr H H' p (.ins C dx (mkDisk ⟨.ref d, .ref w, lv D'.left, .ref r, .bl D'.cut⟩))) (e1 : D'.sec = D.sec) (e2 : D'.wait = D.wait) (e3 : D'.rows = D.rows) :
    ∃ G' F', DiskIn C G' F' p dx d w r kvs ws rs D' ∧ Step G H G' H' := by
  have y := x.mono sG
  obtain ⟨G', F', ch⟩ := x.chg (H' := H') sG w (.inl rfl) fun b o e h1 _ _ => h.keep e h1
  have dp : d ≠ p := ne_of y.dc y.ob (by intro z; cases z)
  have wp : w ≠ p := ne_of y.wl y.ob (by intro z; cases z)
  refine ⟨G', F', DiskIn.lay' ch h.at_ (h.keep y.dc dp) (h.keep y.wl wp) (ch.old _ _ x.rl) ?_ ?_ ?_, ch.step⟩
  · rw [e1]; exact pmono x.sec fun _ _ z => z.mono ch.old
  · rw [e2]; exact pmono x.wait fun _ _ z => z.mono ch.old
  · rw [e3]; exact pmono x.rows fun _ _ z => z.mono ch.old
end K51
local macro_rules | `(tactic| walk_at "wp") => `(tactic| (simp only [L2.wipe, List.map_cons, List.map_nil, List.set_cons_succ, List.set_cons_zero]; exact rfl))
local macro_rules | `(tactic| walk_at "ne") => `(tactic| first
  | assumption
  | (apply Ne.symm; assumption)
  | exact Sb.New.apart (by assumption) (by assumption)
  | exact (Sb.New.apart (by assumption) (by assumption)).symm
  | exact L2.ne_of (by assumption) (by assumption) (by intro z; cases z)
  | exact (L2.ne_of (by assumption) (by assumption) (by intro z; cases z)))
local macro_rules | `(tactic| walk_at "hp") => `(tactic| first
  | assumption
  | exact Sb.New.at_ (by assumption)
  | exact Sb.Wr.at_ (by assumption)
  | (refine Sb.New.keep (by assumption) ?_; walk_at "hp")
  | (refine Sb.Wr.keep (by assumption) ?_ ?_; (· walk_at "hp"); (· walk_at "ne"))
  | (refine (by assumption : L2.Same _ _) _ _ ?_; walk_at "hp"))
local macro_rules | `(tactic| walk_at "rd1") => `(tactic| first
  | (with_reducible refine Sb.rd_seqG ?_; intro nx_ hnx_)
  | ((with_reducible apply Sb.rd_var); · exact rfl)
  | with_reducible refine Sb.rd_asg ?_
  | (with_reducible refine Sb.rd_name (by simp only [List.set_cons_succ, List.set_cons_zero]; exact rfl) ?_)
  | with_reducible refine Sb.rd_c ?_
  | with_reducible refine Sb.rd_op ?_
  | with_reducible refine Sb.rd_get ?_
  | ((with_reducible apply Sb.rd_ob); · walk_at "hp")
  | ((with_reducible apply Sb.rd_isD); · walk_at "hp")
  | ((with_reducible apply Sb.rd_dgo); · walk_at "hp")
  | ((with_reducible apply Sb.rd_listof); · exact L2.SqL.of (by walk_at "hp"))
  | ((with_reducible apply Sb.rd_len); · exact L2.SqL.of (by walk_at "hp"))
  | with_reducible refine Sb.rd_cons ?_
  | with_reducible refine Sb.rd_nil ?_
  | with_reducible refine Sb.rd_ret ?_
  | with_reducible refine Sb.rd_next ?_
  | with_reducible refine Sb.rd_test ?_
  | with_reducible refine Sb.rd_bl ?_
  | with_reducible refine Sb.rd_tb ?_
  | with_reducible refine Sb.rd_i0 ?_
  | with_reducible refine Sb.rd_u ?_
  | with_reducible refine Sb.rd_un ?_
  | with_reducible refine Sb.rd_addI ?_
  | with_reducible refine Sb.rd_eqI ?_
  | with_reducible refine Sb.rd_neI ?_
  | with_reducible refine Sb.rd_eqB ?_
  | with_reducible refine Sb.rd_neB ?_
  | with_reducible refine Sb.rd_setF ?_
  | ((with_reducible apply Sb.rd_ksetF); · walk_at "hp")
  | with_reducible refine Sb.rd_meth ?_
  | with_reducible refine Sb.rd_call ?_
  | with_reducible refine Sb.rd_make ?_
  | with_reducible refine Sb.rd_cb ?_
  | with_reducible refine Sb.rd_lst ?_
  | with_reducible refine Sb.rd_tup ?_
  | with_reducible refine Sb.rd_drop ?_
  | with_reducible refine Sb.rd_and ?_
  | with_reducible refine Sb.rd_or ?_
  | with_reducible refine Sb.rd_not ?_
  | with_reducible refine Sb.rd_notv ?_
  | with_reducible refine Sb.rd_sl ?_
  | with_reducible refine Sb.rd_nopart ?_
  | with_reducible refine Sb.rd_part ?_
  | with_reducible refine Sb.rd_int1 ?_
  | with_reducible refine Sb.rd_gsub ?_
  | with_reducible refine Sb.rd_chain ?_
  | with_reducible refine Sb.rd_brk ?_
  | with_reducible refine Sb.rd_cont ?_
  | with_reducible refine Sb.rd_retN ?_
  | with_reducible refine Sb.rd_gcons ?_
  | with_reducible refine Sb.rd_gnil ?_
  | ((with_reducible refine Sb.rd_klst ?_ ?_); · exact of_decide_eq_true rfl)
  | ((with_reducible refine Sb.rd_ktup ?_ ?_); · exact of_decide_eq_true rfl)
  | with_reducible refine Sb.rd_abs ?_
  | with_reducible refine Sb.rd_max2 ?_
  | with_reducible refine Sb.rd_min2 ?_
  | with_reducible refine Sb.rd_int1c ?_
  | with_reducible refine Sb.rd_kmake ?_
  | with_reducible refine Sb.rd_forL ?_
  | with_reducible refine Sb.rd_forZ ?_
  | with_reducible refine Sb.rd_forR ?_
  | with_reducible refine Sb.rd_lcL ?_
  | with_reducible refine Sb.rd_lcR ?_
  | with_reducible refine Sb.rd_dcL ?_
  | ((with_reducible refine Sb.rd_kturnY ?_ ?_); · exact rfl)
  | ((with_reducible refine Sb.rd_kturn ?_ ?_); · exact rfl)
  | ((with_reducible apply Sb.rd_gtup); (· walk_at "hp"); (· exact rfl))
  | with_reducible refine Sb.rd_rfl ?_
  | with_reducible refine Sb.rd_bm ?_
  | ((with_reducible apply Sb.rd_kbmL); · walk_at "hp")
  | with_reducible refine Sb.rd_setI' ?_
  | ((with_reducible refine Sb.rd_mulI ?_ ?_); · first | exact .inr ⟨by decide, by decide⟩ | exact .inl ⟨by decide, by decide⟩)
  | ((with_reducible refine Sb.rd_i ?_ ?_); · first | decide | (show _ ≠ _; omega) | (refine ⟨?_, ?_⟩ <;> first | decide | omega))
  | with_reducible refine Sb.rd_dget2 ?_
  | with_reducible refine Sb.rd_dget ?_
  | with_reducible refine Sb.rd_dput ?_
  | with_reducible refine Sb.rd_par ?_
  | (with_reducible refine Sb.rd_par2 (by simp only [List.set_cons_succ, List.set_cons_zero]; exact rfl) ?_)
  | with_reducible refine Sb.rd_go (by assumption) ?_)
local macro_rules | `(tactic| walk_at "rd") => `(tactic| repeat (first | walk_at "rd1" | with_reducible refine Sb.rd_ifS ?_))
local macro_rules | `(tactic| walk_at "rs") => `(tactic| repeat walk_at "rd1")
namespace K51
open PySem PySem.Spec PyProof.Rows L2 He Sb Dsk
section
variable {P : Program} {w : World} {K : PySem.W.Frag} {mg : Str → Option Value} {base : Heap}
abbrev cD (K : PySem.W.Frag) : Addr := ga K "Disk"
/-! ### whole -/
def sp_Disk_whole (K : PySem.W.Frag) : Sp := fun vs H Q _ => ∃ (p : Addr) (n : Int) (F : Hp) (dx d w r : Addr) (kvs : List (Key × V)) (lf rs ct : V) (sec : List (Int × List Int)),
  vs = [.ref p, .int n] ∧ H p = some (.ins (cD K) dx (mkDisk ⟨.ref d, .ref w, lf, rs, ct⟩)) ∧ H d = some (.dK kvs) ∧ Same F H ∧ Paired (SecR F) kvs sec ∧ (∀ r ∈ sec, r.2.length = 16) ∧
  ∀ a H', H a = none → Same H H' → IL H' a (getS sec n) → Q (.ref a) H'
theorem sc_Disk_whole : FnScope ["self", "number"] ["self", "number"] (defScope s_Disk_whole) := ⟨rfl, rfl, rfl, by decide +kernel, rfl, by decide +kernel, by decide +kernel⟩
theorem ok_Disk_whole (W : Wd K mg) : Ok P w K mg base 1 (ma K (ga K "Disk") "whole") ["self", "number"] (sp_Disk_whole K) := by
  refine W.ok 5 rfl rfl rfl sc_Disk_whole (fun vs H Q E h => ?_) (fun _ _ _ _ _ _ us hl => match us, hl with | [_, _], _ => rfl) (fun cdv A outer s H vs Q E hr h => ?_)
  · obtain ⟨p, n, F, dx, d, w, r, kvs, lf, rs, ct, sec, rfl, _⟩ := h
    rfl
  · obtain ⟨p, n, F, dx, d, w, r, kvs, lf, rs, ct, sec, rfl, ob, dc, fs, pr, s16, k⟩ := h
    have hu := hu_of hr
    refine ⟨_, (pss_one (ps_ret (pe_callTy (cr_listK (K := K) rfl) (by rfl) (f_free_list W) (by decide +kernel) (pa_cons (pe_dget2 hu (pe_get (f_cls_Disk W) (f_no_Disk_sectors W) lk_Disk_sectors (pv 0)) (pv 1) (pe_op op_mulA (pe_lst (pa_cons pe_int pa_nil)) (pe_glob (v := .int 16) rfl (f_int_SECTOR W).choose_spec ⟨_, rfl⟩)) ⟨rfl, rfl, rfl, rfl⟩) pa_nil)))), ?_⟩
    dsimp only [cxK, cxW, cxP]
    show (_ : TS) _ [some (.ref p), some (.int n)] H
    walk_at "rd"
    intro p1 H1 n1
    walk_at "rd"
    refine rd_rep n1.at_ (by decide) (by decide) (by decide) fun p2 H2 n2 => ?_
    rw [blank_v] at n2
    have dc2 : H2 d = some (.dK kvs) := n2.keep (n1.keep dc)
    walk_at "rd"
    have fin : ∀ b, IL H2 b (getS sec n) → rListOf K [V.ref b] H2 Q := fun b hb =>
      rd_listof (SqL.of hb) fun q H3 n3 => k q H3 (n1.free (n2.free n3.nw)) (fun c o e => n3.keep (n2.keep (n1.keep e))) n3.at_
    rcases sec_look pr n with ⟨e1, e2⟩ | ⟨a, c, e1, e2, i⟩
    · rw [e2]
      have e3 : getS sec n = blank := by unfold getS; rw [e1]; rfl
      exact fin p2 (by rw [e3]; exact n2.at_)
    · rw [e2]
      have e3 : getS sec n = c := by unfold getS; rw [e1]; rfl
      exact fin a (by rw [e3]; exact n2.keep (n1.keep (fs _ _ i)))
end
end K51
namespace K51
open PySem PySem.Spec PyProof.Rows L2 He Sb Dsk
section
variable {P : Program} {w : World} {K : PySem.W.Frag} {mg : Str → Option Value} {base : Heap}
/-! ### read -/
def sp_Disk_read (K : PySem.W.Frag) : Sp := fun vs H Q _ => ∃ (p : Addr) (n : Int) (G : Hp) (D : Dk),
  vs = [.ref p, .int n] ∧ DiskAt (cD K) G p D ∧ Same G H ∧ Fine D ∧ ∀ a H', H a = none → Same H H' → IL H' a (D.read n) → Q (.ref a) H'
theorem sc_Disk_read : FnScope ["self", "number", "found", "at", "content"] ["self", "number"] (defScope s_Disk_read) := ⟨rfl, rfl, rfl, by decide +kernel, rfl, by decide +kernel, by decide +kernel⟩
theorem readW_snoc {wait : List (Int × List Int)} {i : Nat} {r : Int × List Int} {n : Int} {d : List Int} (h : wait[i]? = some r) : readW (wait.take (i + 1)) n d = if r.1 = n then r.2 else readW (wait.take i) n d := by
  unfold readW
  rw [take_snoc h, List.foldl_append]
  rfl
theorem ok_Disk_read (W : Wd K mg) : Ok P w K mg base 2 (ma K (ga K "Disk") "read") ["self", "number"] (sp_Disk_read K) := by
  refine W.ok 6 rfl rfl rfl sc_Disk_read (fun vs H Q E h => ?_) (fun _ _ _ _ _ _ us hl => match us, hl with | [_, _], _ => rfl) (fun cdv A outer s H vs Q E hr h => ?_)
  · obtain ⟨p, n, G, D, rfl, _⟩ := h
    rfl
  · obtain ⟨p, n, G, D, rfl, dk, sG, fine, k⟩ := h
    obtain ⟨F, dx, d, wl, r, kvs, ws, rs, dk⟩ := dk.mono sG
    have ob := dk.ob
    have hu := hu_of hr
    have hv := hv_of hr
    refine ⟨_, (pss_cons (ps_set (i := 2) sc_Disk_read.nd rfl (Or.inl rfl) (pe_methG (f_cls_Disk W) (f_meth_Disk_whole W) nm_Disk_whole (ok_Disk_whole W) hr (pv 0) (pa_cons (pv 1) pa_nil)))
      (pss_cons (ps_for PassesOwn.never rfl (pi_list (pe_get (f_cls_Disk W) (f_no_Disk_waiting W) lk_Disk_waiting (pv 0))) (pg_tupK (K := K) 2 rfl rfl (pgs_cons (pg_name (i := 3) sc_Disk_read.nd rfl (Or.inl rfl) (Or.inl rfl)) (pgs_cons (pg_name (i := 4) sc_Disk_read.nd rfl (Or.inl rfl) (Or.inl rfl)) pgs_nil)))
        (pss_one (ps_if (pt_cmpR (op_eqK (K := K) rfl hv) (pv 3) (pv 1) (nomark _))
          (pss_one (ps_set (i := 2) sc_Disk_read.nd rfl (Or.inl rfl) (pe_callTy (cr_listK (K := K) rfl) (by rfl) (f_free_list W) (by decide +kernel) (pa_cons (pv 4) pa_nil))))
          pss_nil)))
      (pss_one (ps_ret (pv 2))))), ?_⟩
    dsimp only [cxK, cxW, cxP]
    show (_ : TS) _ [some (.ref p), some (.int n), none, none, none] H
    walk_at "rd"
    refine ⟨p, n, F, dx, d, wl, r, kvs, _, _, _, D.sec, rfl, ob, dk.dc, dk.fs, dk.sec, fine.s16, fun a H1 na s1 ia => ?_⟩
    walk_at "rd"
    refine rd_kforL (SqL.of (s1 _ _ dk.wl)) (fun i σ Hc => ∃ b x3 x4, σ = [some (.ref p), some (.int n), some (.ref b), x3, x4] ∧ Same H1 Hc ∧ H b = none ∧ IL Hc b (readW (D.wait.take i) n (getS D.sec n)))
      ⟨a, none, none, rfl, Same.refl _, na, ia⟩ (fun i σ Hc _ h => ?_) (fun i x σ Hc hx h => ?_) (fun σ Hc h => ?_)
    · obtain ⟨b, x3, x4, _, sc, _⟩ := h
      exact SqL.of (sc _ _ (s1 _ _ dk.wl))
    · obtain ⟨b, x3, x4, rfl, sc, nb, ib⟩ := h
      obtain ⟨q, hq, t, c, rfl, et, ic⟩ := pget dk.wait hx
      have et1 : Hc t = _ := sc _ _ (s1 _ _ (dk.fs _ _ et))
      have ic1 : Hc c = _ := sc _ _ (s1 _ _ (dk.fs _ _ ic))
      walk_at "rd"
      refine rd_dec (fun e => ?_) (fun e => ?_)
      · walk_at "rd"
        intro b2 H2 n2
        walk_at "rd"
        refine ⟨b2, _, _, rfl, sc.trans n2.same, (s1.trans sc).free n2.nw, ?_⟩
        rw [readW_snoc hq, if_pos e]
        exact n2.at_
      · walk_at "rd"
        refine ⟨b, _, _, rfl, sc, nb, ?_⟩
        rw [readW_snoc hq, if_neg e]
        exact ib
    · obtain ⟨b, x3, x4, rfl, sc, nb, ib⟩ := h
      have e : ws.length = D.wait.length := dk.wait.length
      rw [e, List.take_length] at ib
      walk_at "rd"
      exact k b Hc nb (s1.trans sc) ib
end
end K51
namespace K51
open PySem PySem.Spec PyProof.Rows L2 He Sb Dsk
section
variable {P : Program} {w : World} {K : PySem.W.Frag} {mg : Str → Option Value} {base : Heap}
/-! ### cut_in -/
def sp_Disk_cut_in (K : PySem.W.Frag) : Sp := fun vs H Q _ => ∃ (p c : Addr) (n : Int) (G : Hp) (D : Dk) (rows : List (Int × Int)) (rs : List V),
  vs = [.ref p, .int n, .ref c] ∧ DiskAt (cD K) G p D ∧ Same G H ∧ H c = some (.lst rs) ∧ Paired (RowR H) rs rows ∧ ∀ G' H', DiskAt (cD K) G' p (D.cutIn n rows) → Step G H G' H' → Q .non H'
theorem sc_Disk_cut_in : FnScope ["self", "many", "rows"] ["self", "many", "rows"] (defScope s_Disk_cut_in) := ⟨rfl, rfl, rfl, by decide +kernel, rfl, by decide +kernel, by decide +kernel⟩
theorem ok_Disk_cut_in (W : Wd K mg) : Ok P w K mg base 1 (ma K (ga K "Disk") "cut_in") ["self", "many", "rows"] (sp_Disk_cut_in K) := by
  refine W.ok 7 rfl rfl rfl sc_Disk_cut_in (fun vs H Q E h => ?_) (fun _ _ _ _ _ _ us hl => match us, hl with | [_, _, _], _ => rfl) (fun cdv A outer s H vs Q E hr h => ?_)
  · obtain ⟨p, c, n, G, D, rows, rs, rfl, _⟩ := h
    rfl
  · obtain ⟨p, c, n, G, D, rows, rs, rfl, ⟨F, dx, d, wl, r, kvs, ws, rs0, dg⟩, sG, hc, hrows, k⟩ := h
    have dk := dg.mono sG
    have ob := dk.ob
    have hu := hu_of hr
    refine ⟨_, (pss_one (ps_if (pt_not (pt_val (pe_get (f_cls_Disk W) (f_no_Disk_is_cut W) lk_Disk_is_cut (pv 0))))
        (pss_cons (ps_setF (f_cls_Disk W) (f_no_Disk_left W) pt_Disk_left len_Disk (pv 0) (pv 1))
        (pss_one (ps_setF (f_cls_Disk W) (f_no_Disk_rows W) pt_Disk_rows len_Disk (pv 0) (pe_callTy (cr_listK (K := K) rfl) (by rfl) (f_free_list W) (by decide +kernel) (pa_cons (pv 2) pa_nil)))))
        pss_nil)), ?_⟩
    dsimp only [cxK, cxW, cxP]
    show (_ : TS) _ [some (.ref p), some (.int n), some (.ref c)] H
    have k0 : D.cut = true → D.cutIn n rows = D := fun e => by unfold Dk.cutIn; rw [if_pos e]
    have k1 : D.cut = false → D.cutIn n rows = { D with left := some n, rows := rows } := fun e => by unfold Dk.cutIn; rw [if_neg (by rw [e]; exact Bool.false_ne_true)]
    walk_at "rd"
    cases hcut : D.cut with
    | true =>
      refine iteF ?_
      walk_at "rd"
      rw [k0 hcut] at k
      exact k G H ⟨F, dx, d, wl, r, kvs, ws, rs0, dg⟩ ⟨sG, fun b o e _ => e, fun b xs e => e, fun b h => .inl h⟩
    | false =>
      refine iteT ?_
      walk_at "rd"
      intro H1 w1
      have ncp : c ≠ p := ne_of hc ob (by intro z; cases z)
      have hc1 : H1 c = some (.lst rs) := w1.keep hc ncp
      have ob1 := w1.at_
      walk_at "rd"
      intro q H2 n2
      walk_at "rd"
      intro H3 w3
      walk_at "rd"
      rw [k1 hcut] at k
      have nqp : q ≠ p := (n2.apart ob1).symm
      have kp : ∀ b o, H b = some o → b ≠ p → b ≠ d → b ≠ wl → H3 b = some o := fun b o e h1 _ _ => w3.keep (n2.keep (w1.keep e h1)) h1
      obtain ⟨G', F', ch⟩ := dg.chg (H' := H3) sG wl (.inl rfl) kp
      have nq : H q = none := w1.free n2.nw
      have npd : d ≠ p := ne_of dk.dc ob (by intro z; cases z)
      have npw : wl ≠ p := ne_of dk.wl ob (by intro z; cases z)
      have nqw : q ≠ wl := (ne_of_none dk.wl nq).symm
      have nqd : q ≠ d := (ne_of_none dk.dc nq).symm
      refine k G' H3 (DiskIn.lay (dx := dx) (r' := q) (rs' := rs) ch ?_ (w3.keep (n2.keep (w1.keep dk.dc npd)) npd) (w3.keep (n2.keep (w1.keep dk.wl npw)) npw) (ch.new q _ nq ?_ (w3.keep n2.at_ nqp)) (pmono dg.sec fun _ _ z => z.mono ch.old) (pmono dg.wait fun _ _ z => z.mono ch.old) (pmono hrows fun v x z => ?_)) ch.step
      · rw [w3.at_]
        rfl
      · rintro (z | z | z)
        · exact nqp z
        · exact nqd z
        · exact nqw z
      · obtain ⟨t, e1, e2⟩ := z
        exact ⟨t, e1, ch.tup _ _ e2⟩
end
end K51
namespace K51
open PySem PySem.Spec PyProof.Rows L2 He Sb Dsk
/-! plain facts of a crash -/
theorem crash1_fine {wait sec : List (Int × List Int)} {q : (Int × Int) × Int} (hw : ∀ r ∈ wait, r.2.length = 16) (hs : ∀ r ∈ sec, r.2.length = 16) : ∀ r ∈ crash1 wait sec q, r.2.length = 16 := by
  unfold crash1
  split
  · rename_i h
    intro r hr
    rcases putS_mem hr with z | z
    · exact hs r z
    · rw [z]
      have hlt : q.1.1.toNat < (ofNum wait q.2).length := by omega
      have h1 : ((ofNum wait q.2).getD q.1.1.toNat []).length = 16 := by
        rw [List.getD_eq_getElem?_getD, List.getElem?_eq_getElem hlt]
        have hm : (ofNum wait q.2)[q.1.1.toNat] ∈ ofNum wait q.2 := List.getElem_mem hlt
        unfold ofNum at hm
        obtain ⟨x, hx, e⟩ := List.mem_map.mp hm
        have := hw x (List.mem_filter.mp hx).1
        show ((ofNum wait q.2)[q.1.1.toNat]).length = 16
        unfold ofNum
        rw [← e]; exact this
      have h2 : (getS sec q.2).length = 16 := by
        unfold getS
        cases e : look sec q.2 with
        | none => rfl
        | some c => exact hs _ (look_some e)
      have h3 : cap q.1.2 ≤ 16 := by unfold cap; omega
      show (List.take _ _ ++ List.drop _ _).length = 16
      rw [List.length_append, List.length_take, List.length_drop, h1, h2]
      omega
  · exact hs
theorem crash1_len (wait sec : List (Int × List Int)) (q : (Int × Int) × Int) : (crash1 wait sec q).length ≤ sec.length + 1 := by
  unfold crash1
  split
  · exact putS_len _ _ _
  · omega
theorem crash1_keys {wait sec : List (Int × List Int)} {q : (Int × Int) × Int} (h : (sec.map (·.1)).Nodup) : ((crash1 wait sec q).map (·.1)).Nodup := by
  unfold crash1
  split
  · exact putS_keys h
  · exact h
theorem cut_take {α : Type} (xs : List V) (k : Nat) : cutV xs none (some (k : Int)) = xs.take k := by
  unfold cutV
  rw [HT.sIx_none, HT.sIx_nat]
  simp only [List.drop_zero, Nat.sub_zero]
  rw [List.take_eq_take_iff]
  omega
theorem cut_drop {α : Type} (xs : List V) (k : Nat) : cutV xs (some (k : Int)) none = xs.drop k := by
  unfold cutV
  rw [HT.sIx_none, HT.sIx_nat]
  by_cases h : k ≤ xs.length
  · rw [Nat.min_eq_left h]
    rw [List.take_of_length_le (by rw [List.length_drop]; omega)]
  · rw [Nat.min_eq_right (by omega), List.drop_eq_nil_of_le (Nat.le_refl _), List.drop_eq_nil_of_le (by omega)]
    simp
section
variable {P : Program} {w : World} {K : PySem.W.Frag} {mg : Str → Option Value} {base : Heap}
/-! ### crash -/
def sp_Disk_crash (K : PySem.W.Frag) : Sp := fun vs H Q _ => ∃ (p c : Addr) (G : Hp) (D : Dk) (rows : List (Int × Int)) (rs : List V),
  vs = [.ref p, .ref c] ∧ DiskAt (cD K) G p D ∧ Same G H ∧ Fine D ∧ H c = some (.lst rs) ∧ Paired (RowR H) rs rows ∧ ∀ G' H', DiskAt (cD K) G' p (D.crash rows) → Step G H G' H' → Q .non H'
theorem sc_Disk_crash : FnScope ["self", "rows", "number", "numbers", "which", "size", "writes", "at", "content"] ["self", "rows"] (defScope s_Disk_crash) := ⟨rfl, rfl, rfl, by decide +kernel, rfl, by decide +kernel, by decide +kernel⟩
theorem ok_Disk_crash (W : Wd K mg) : Ok P w K mg base 2 (ma K (ga K "Disk") "crash") ["self", "rows"] (sp_Disk_crash K) := by
  refine W.ok 11 rfl rfl rfl sc_Disk_crash (fun vs H Q E h => ?_) (fun _ _ _ _ _ _ us hl => match us, hl with | [_, _], _ => rfl) (fun cdv A outer s H vs Q E hr h => ?_)
  · obtain ⟨p, c, G, D, rows, rs, rfl, _⟩ := h
    rfl
  · obtain ⟨p, c, G, D, rows, rs, rfl, ⟨F, dx, d, wl, r, kvs, ws, rs0, dg⟩, sG, fine, hc, hrows, k⟩ := h
    have dk := dg.mono sG
    have ob := dk.ob
    have dkw := dk.wl
    have hu := hu_of hr
    have hv := hv_of hr
    have wlen : ws.length = D.wait.length := dk.wait.length
    refine ⟨_, (pss_cons (ps_set (i := 3) sc_Disk_crash.nd rfl (Or.inl rfl) (pe_callB (cr_sortedSet rfl) (by rfl) (f_free_sorted W) (by decide +kernel) (pa_cons (pe_callTy (cr_setI rfl) (by rfl) (f_free_set W) (by decide +kernel) (pa_cons (pe_lc (own := [("number", 2), ("content", 8)]) rfl sc_Disk_crash.nd (pi_list (pe_get (f_cls_Disk W) (f_no_Disk_waiting W) lk_Disk_waiting (pv 0))) (blkOk_by (own := [("number", 2), ("content", 8)]) (N := ["self", "rows", "number", "numbers", "which", "size", "writes", "at", "content"]) (sc := defScope s_Disk_crash) (by decide +kernel)) (fun _ _ _ _ _ => (pg_tupK (K := K) 2 rfl rfl (pgs_cons (pg_name (i := 2) sc_Disk_crash.nd rfl (Or.inl rfl) (Or.inr rfl)) (pgs_cons (pg_name (i := 8) sc_Disk_crash.nd rfl (Or.inl rfl) (Or.inr rfl)) pgs_nil)))) (fun _ _ _ _ _ => pts_nil) (fun _ _ _ _ _ => (pv 2))) pa_nil)) pa_nil)))
      (pss_cons (ps_for PassesOwn.never rfl (pi_zip rfl (f_free_zip W) (pa_cons (pv 1) (pa_cons (pv 3) pa_nil))) (pg_tupK (K := K) 2 rfl rfl (pgs_cons (pg_tupK (K := K) 2 rfl rfl (pgs_cons (pg_name (i := 4) sc_Disk_crash.nd rfl (Or.inl rfl) (Or.inl rfl)) (pgs_cons (pg_name (i := 5) sc_Disk_crash.nd rfl (Or.inl rfl) (Or.inl rfl)) pgs_nil))) (pgs_cons (pg_name (i := 2) sc_Disk_crash.nd rfl (Or.inr rfl) (Or.inl rfl)) pgs_nil)))
        (pss_cons (ps_setLc (i := 6) (own := [("at", 7), ("content", 8)]) rfl sc_Disk_crash.nd rfl rfl (sw_true rfl rfl rfl (by decide +kernel)) (pi_list (pe_get (f_cls_Disk W) (f_no_Disk_waiting W) lk_Disk_waiting (pv 0))) (blkOk_by (own := [("at", 7), ("content", 8)]) (N := ["self", "rows", "number", "numbers", "which", "size", "writes", "at", "content"]) (sc := defScope s_Disk_crash) (by decide +kernel)) (fun _ _ _ _ _ => (pg_tupK (K := K) 2 rfl rfl (pgs_cons (pg_name (i := 7) sc_Disk_crash.nd rfl (Or.inl rfl) (Or.inr rfl)) (pgs_cons (pg_name (i := 8) sc_Disk_crash.nd rfl (Or.inl rfl) (Or.inr rfl)) pgs_nil)))) (fun _ _ _ _ _ => (pts_one (pt_cmpR (op_eqK (K := K) rfl hv) (pv 7) (pv 2) (nomark _)))) (fun _ _ _ _ _ => (pv 8)))
        (pss_one (ps_if (pt_chain op_le op_lt pe_int (pv 4) (pe_callB (cr_lenK (K := K) rfl) (by rfl) (f_free_len W) PySem.boot_len (pa_cons (pv 6) pa_nil)))
          (pss_cons (ps_set (i := 5) sc_Disk_crash.nd rfl (Or.inl rfl) (pe_callB (cr_min2 rfl) (by rfl) (f_free_min W) (by decide +kernel) (pa_cons (pe_glob (v := .int 16) rfl (f_int_SECTOR W).choose_spec ⟨_, rfl⟩) (pa_cons (pe_callB (cr_max2 rfl) (by rfl) (f_free_max W) (by decide +kernel) (pa_cons pe_int (pa_cons (pv 5) pa_nil))) pa_nil))))
          (pss_one (ps_dput hu (pe_get (f_cls_Disk W) (f_no_Disk_sectors W) lk_Disk_sectors (pv 0)) (pv 2) (pe_op (op_addK (K := K) rfl) (pe_slice (sl_listK (K := K) rfl) (pe_ix (ix_seqK (K := K) rfl) (pv 6) (pv 4) (fun _ _ => rfl)) po_none (po_some (pv 5))) (pe_slice (sl_listK (K := K) rfl) (pe_methG (f_cls_Disk W) (f_meth_Disk_whole W) nm_Disk_whole (ok_Disk_whole W) hr (pv 0) (pa_cons (pv 2) pa_nil)) (po_some (pv 5)) po_none)) rfl)))
          pss_nil))))
      (pss_one (ps_setF (f_cls_Disk W) (f_no_Disk_waiting W) pt_Disk_waiting len_Disk (pv 0) (pe_lst pa_nil))))), ?_⟩
    dsimp only [cxK, cxW, cxP]
    show (_ : TS) _ [some (.ref p), some (.ref c), none, none, none, none, none, none, none] H
    walk_at "rd"
    refine rd_klcL (by walk_at "wp") (SqL.of dkw) fun L1 H1 n1 => ⟨fun i Hc => Hc L1 = some (.lst (((D.wait.take i).map (·.1)).map V.int)) ∧ Same H Hc, ⟨n1.at_, n1.same⟩, fun i Hc _ h => SqL.of (h.2 _ _ dkw), fun i x Hc hx h => ?_, fun Hc h => ?_⟩
    · obtain ⟨hl, sc⟩ := h
      obtain ⟨q, hq, t, cc, rfl, et, ic⟩ := pget dk.wait hx
      have et1 : Hc t = _ := sc _ _ (dk.fs _ _ et)
      walk_at "rd"
      refine rd_kacc hl (by rw [List.length_map, List.length_map, List.length_take]; have := fine.wl; omega) fun H5 w5 => ⟨?_, fun b o e => w5.keep (sc b o e) (ne_of_none e n1.nw)⟩
      rw [w5.at_, take_snoc hq]
      simp
    · obtain ⟨hl, sc⟩ := h
      rw [wlen, List.take_length] at hl
      walk_at "rd"
      refine rd_setI (SqL.of hl) (by rw [List.length_map]; exact fine.wl) fun S1 n H2 hn n2 => ?_
      walk_at "rd"
      have hn64 : n < 64 := by
        rw [← hn (nums D.wait) (sorted_nodup (nums_sorted _)) (nums_mem D.wait)]
        exact fine.nl
      refine rd_sortSet n2.at_ hn64 fun ns LN H3 hs hm n3 => ?_
      obtain rfl : ns = nums D.wait := sorted_unique hs (nums_sorted _) fun z => by
        rw [hm, nums_mem]
        simp
      have s3 : Same H H3 := (sc.trans n2.same).trans n3.same
      walk_at "rd"
      have lenR : rs.length = rows.length := hrows.length
      have ne_d : ∀ {b : Addr} {o : HO}, H b = some o → (∀ q, o ≠ .dK q) → b ≠ d := fun e h => ne_of e dk.dc (by intro z; exact h _ z)
      refine rd_kforZ (SqL.of (s3 _ _ hc)) (SqL.of n3.at_) (fun i σ Hc => ∃ x2 x4 x5 x6 x7 x8 kvs' sec', σ = [some (.ref p), some (.ref c), x2, some (.ref LN), x4, x5, x6, x7, x8] ∧ Hc d = some (.dK kvs') ∧
        (∀ b o, H3 b = some o → b ≠ d → Hc b = some o) ∧ Paired (SecR (Fn H F Hc)) kvs' sec' ∧ sec' = ((rows.zip (nums D.wait)).take i).foldl (crash1 D.wait) D.sec ∧ (∀ r ∈ sec', r.2.length = 16) ∧ sec'.length ≤ D.sec.length + i)
        ⟨none, none, none, none, none, none, kvs, D.sec, rfl, s3 _ _ dk.dc, fun b o e _ => e, pmono dk.sec fun _ _ z => z.mono (fn_old dk.fs), rfl, fine.s16, Nat.le_refl _⟩ (fun i σ Hc _ h => ?_) (fun i x y t σ Hc H4 hx hy h n4 => ?_) (fun σ Hc h => ?_)
      · obtain ⟨x2, x4, x5, x6, x7, x8, kvs', sec', _, _, kc, _⟩ := h
        exact ⟨SqL.of (kc _ _ (s3 _ _ hc) (ne_d hc (by intro q z; cases z))), SqL.of (kc _ _ n3.at_ (ne_of n3.at_ (s3 _ _ dk.dc) (by intro z; cases z)))⟩
      · obtain ⟨x2, x4, x5, x6, x7, x8, kvs', sec', rfl, dc, kc, pr, es, s16, sl⟩ := h
        obtain ⟨row, hrow, tq, rfl, etq⟩ := pget hrows hx
        obtain ⟨m, hm, rfl⟩ : ∃ m, (nums D.wait)[i]? = some m ∧ y = V.int m := by
          rw [List.getElem?_map] at hy
          cases e : (nums D.wait)[i]? with
          | none => rw [e] at hy; cases hy
          | some m => rw [e] at hy; exact ⟨m, rfl, (Option.some.inj hy).symm⟩
        have e4 : ∀ b o, H b = some o → b ≠ d → H4 b = some o := fun b o e nb => n4.keep (kc b o (s3 b o e) nb)
        have etq4 : H4 tq = _ := e4 _ _ etq (ne_d etq (by intro q z; cases z))
        have ob4 : H4 p = _ := e4 _ _ ob (ne_d ob (by intro q z; cases z))
        have wl4 : H4 wl = _ := e4 _ _ dkw (ne_d dkw (by intro q z; cases z))
        have dc4 : H4 d = _ := n4.keep dc
        have i4 : ∀ b ns, IL F b ns → H4 b = some (.lst (ns.map V.int)) := fun b ns e => e4 _ _ (dk.fs _ _ e) (ne_d (dk.fs _ _ e) (by intro q z; cases z))
        walk_at "rd"
        refine rd_klcL (by walk_at "wp") (SqL.of wl4) fun L3 H5 n5 => ⟨fun j Hd => (∃ acc, Hd L3 = some (.lst acc) ∧ acc.length ≤ j ∧ Paired (fun v ct => ∃ a, v = V.ref a ∧ IL F a ct) acc (ofNum (D.wait.take j) m)) ∧ Same H4 Hd, ⟨⟨[], n5.at_, Nat.le_refl _, .nil⟩, n5.same⟩, fun j Hd _ h => SqL.of (h.2 _ _ wl4), fun j x Hd hx h => ?_, fun Hd h => ?_⟩
        · obtain ⟨⟨acc, hl, la, pa⟩, sd⟩ := h
          obtain ⟨q, hq, u, cc, rfl, eu, ic⟩ := pget dk.wait hx
          have eu1 : Hd u = _ := sd _ _ (e4 _ _ (dk.fs _ _ eu) (ne_d (dk.fs _ _ eu) (by intro q z; cases z)))
          have jl : j < ws.length := (List.getElem?_eq_some_iff.mp hx).1
          have e0 : ofNum (D.wait.take (j + 1)) m = ofNum (D.wait.take j) m ++ if q.1 = m then [q.2] else [] := by
            unfold ofNum
            rw [take_snoc hq, List.filter_append, List.map_append]
            congr 1
            by_cases z : q.1 = m <;> simp [z]
          walk_at "rd"
          refine rd_dec (fun e => ?_) (fun e => ?_)
          · walk_at "rd"
            refine rd_kacc hl (by have := fine.wl; omega) fun H6 w6 => ⟨⟨_, w6.at_, by rw [List.length_append]; simp; omega, ?_⟩, fun b o e => w6.keep (sd b o e) (ne_of_none e n5.nw)⟩
            rw [e0, if_pos e]
            exact pa.snoc ⟨cc, rfl, ic⟩
          · refine ⟨⟨acc, hl, by omega, ?_⟩, sd⟩
            rw [e0, if_neg e, List.append_nil]
            exact pa
        · obtain ⟨⟨acc, hl, la, pa⟩, sd⟩ := h
          rw [wlen, List.take_length] at pa
          have lacc : acc.length = (ofNum D.wait m).length := pa.length
          have es2 : ((rows.zip (nums D.wait)).take (i + 1)).foldl (crash1 D.wait) D.sec = crash1 D.wait sec' (row, m) := by
            have ez : (rows.zip (nums D.wait))[i]? = some (row, m) := by rw [List.getElem?_zip_eq_some]; exact ⟨hrow, hm⟩
            rw [take_snoc ez, List.foldl_append, ← es]
            rfl
          have again : crash1 D.wait sec' (row, m) = sec' → ∀ x5 x7 x8, ∃ x2 x4' x5' x6 x7' x8' kvs'' sec'', ([some (.ref p), some (.ref c), some (.int m), some (.ref LN), some (.int row.1), x5, some (.ref L3), x7, x8] : L2.St) = [some (.ref p), some (.ref c), x2, some (.ref LN), x4', x5', x6, x7', x8'] ∧ Hd d = some (.dK kvs'') ∧
              (∀ b o, H3 b = some o → b ≠ d → Hd b = some o) ∧ Paired (SecR (Fn H F Hd)) kvs'' sec'' ∧ sec'' = ((rows.zip (nums D.wait)).take (i + 1)).foldl (crash1 D.wait) D.sec ∧ (∀ r ∈ sec'', r.2.length = 16) ∧ sec''.length ≤ D.sec.length + (i + 1) := fun e x5 x7 x8 =>
            ⟨_, _, _, _, _, _, kvs', sec', rfl, sd _ _ dc4, fun b o h1 h2 => sd _ _ (n4.keep (kc b o h1 h2)), pmono pr fun _ _ z => z.mono (fn_step dk.fs fun b o _ h2 => sd _ _ (n4.keep h2)), by rw [es2, e], s16, by omega⟩
          walk_at "rd"
          refine rd_dec (fun h0 => ?_) (fun h0 => ?_)
          · walk_at "rd"
            refine rd_dec (fun h1 => ?_) (fun h1 => ?_)
            · walk_at "rd"
              have hj : row.1.toNat < acc.length := by omega
              obtain ⟨c1, hc1, a1, ea1, ia1⟩ := pget pa (List.getElem?_eq_getElem hj)
              have hcap : min 16 (max 0 row.2) = ((cap row.2 : Nat) : Int) := by unfold cap; omega
              have len16 : sec'.length = kvs'.length := pr.length.symm
              refine rd_ixL (SqL.of hl) (at_of (j := row.1.toNat) (by omega) (List.getElem?_eq_getElem hj)) ?_
              rw [ea1]
              have ia1d : Hd a1 = _ := sd _ _ (i4 _ _ ia1)
              have obd : Hd p = _ := sd _ _ ob4
              have dcd : Hd d = _ := sd _ _ dc4
              walk_at "rd"
              refine rd_slL (SqL.of ia1d) fun q1 H6 n6 => ?_
              rw [hcap, cut_take (α := Unit)] at n6
              have ob6 : H6 p = _ := n6.keep obd
              have dc6 : H6 d = _ := n6.keep dcd
              have pr6 : Paired (SecR (Fn H F H6)) kvs' sec' := pmono pr fun _ _ z => z.mono (fn_step dk.fs fun b o _ h2 => n6.keep (sd _ _ (n4.keep h2)))
              walk_at "rd"
              refine ⟨p, m, Fn H F H6, dx, d, wl, r, kvs', _, _, _, sec', rfl, ob6, dc6, fn_same fun b o e => n6.keep (sd _ _ (e4 _ _ (dk.fs _ _ e) fun z => by rw [z, dk.fd] at e; cases e)), pr6, s16, fun a7 H7 na7 s67 ia7 => ?_⟩
              walk_at "rd"
              refine rd_slL (SqL.of ia7) fun q2 H8 n8 => ?_
              rw [hcap, cut_drop (α := Unit)] at n8
              have hq1 : H8 q1 = _ := n8.keep (s67 _ _ n6.at_)
              have l1 : c1.length = 16 := by
                have hm2 : c1 ∈ ofNum D.wait m := List.mem_of_getElem? hc1
                unfold ofNum at hm2
                obtain ⟨z, hz, e⟩ := List.mem_map.mp hm2
                rw [← e]
                exact fine.w16 z (List.mem_filter.mp hz).1
              have l2 : (getS sec' m).length = 16 := by
                unfold getS
                cases e : look sec' m with
                | none => rfl
                | some ct => exact s16 _ (look_some e)
              refine rd_addL hq1 n8.at_ (by rw [List.length_take, List.length_drop, List.length_map, List.length_map, l1, l2, sizeLine_eq]; omega) fun q3 H9 n9 => ?_
              rw [← List.map_take, ← List.map_drop, ← List.map_append] at n9
              have ob9 : H9 p = _ := n9.keep (n8.keep (s67 _ _ ob6))
              have dc9 : H9 d = _ := n9.keep (n8.keep (s67 _ _ dc6))
              have s49 : ∀ b o, H4 b = some o → H9 b = some o := fun b o e => n9.keep (n8.keep (s67 _ _ (n6.keep (sd _ _ e))))
              walk_at "rd"
              refine rd_dpo dc9 (by rw [← len16, sizeLine_eq]; have := fine.sl; have : i < (nums D.wait).length := (List.getElem?_eq_some_iff.mp hm).1; have := fine.nl; omega) fun H10 w10 => ?_
              walk_at "rd"
              have nq3 : H q3 = none := by
                have z4 : H4 q3 = none := sd.free (n6.free (Same.free s67 (n8.free n9.nw)))
                cases z : H q3 with
                | none => rfl
                | some o =>
                  by_cases zd : q3 = d
                  · rw [zd, dc4] at z4; cases z4
                  · rw [e4 _ _ z zd] at z4; cases z4
              have q3d : q3 ≠ d := fun z => by rw [z, dk.dc] at nq3; cases nq3
              have ecr : crash1 D.wait sec' (row, m) = putS sec' m (c1.take (cap row.2) ++ (getS sec' m).drop (cap row.2)) := by
                unfold crash1
                rw [if_pos ⟨h0, by rw [← lacc]; exact h1⟩]
                show putS sec' m (List.take _ ((ofNum D.wait m).getD row.1.toNat []) ++ _) = _
                rw [List.getD_eq_getElem?_getD, hc1]
                rfl
              have st10 : Same (Fn H F Hc) (Fn H F H10) := fn_step dk.fs fun b o hn h2 => w10.keep (s49 _ _ (n4.keep h2)) fun z => by rw [z, dk.dc] at hn; cases hn
              refine ⟨_, _, _, _, _, _, _, crash1 D.wait sec' (row, m), rfl, w10.at_, fun b o h1 h2 => w10.keep (s49 _ _ (n4.keep (kc b o h1 h2))) h2, ?_, es2.symm, crash1_fine fine.w16 s16, by have := crash1_len D.wait sec' (row, m); omega⟩
              rw [ecr]
              exact sec_put (fn_new nq3 (w10.keep n9.at_ q3d)) (pmono pr fun _ _ z => z.mono st10)
            · walk_at "rd"
              exact again (by unfold crash1; rw [if_neg]; intro z; have := z.2; rw [← lacc] at this; exact h1 this) _ _ _
          · walk_at "rd"
            refine iteF ?_
            walk_at "rd"
            exact again (by unfold crash1; rw [if_neg]; intro z; exact h0 z.1) _ _ _
      · obtain ⟨x2, x4, x5, x6, x7, x8, kvs', sec', rfl, dc, kc, pr, es, s16, sl⟩ := h
        have e9 : ∀ b o, H b = some o → b ≠ d → Hc b = some o := fun b o e nb => kc b o (s3 b o e) nb
        have obc : Hc p = _ := e9 _ _ ob (ne_d ob (by intro q z; cases z))
        have full : sec' = crashS D.sec D.wait rows := by
          rw [es]
          unfold crashS
          rw [List.take_of_length_le (by rw [List.length_map, lenR]; rw [List.length_zip]; exact Nat.le_refl _)]
        walk_at "rd"
        intro wn H5 n5
        walk_at "rd"
        intro H6 w6
        walk_at "rd"
        have nwn : H wn = none := by
          cases z : H wn with
          | none => rfl
          | some o =>
            have z5 := n5.nw
            by_cases zd : wn = d
            · rw [zd, dc] at z5; cases z5
            · rw [e9 _ _ z zd] at z5; cases z5
        have wnp : wn ≠ p := (ne_of_none obc n5.nw).symm
        have dnp : d ≠ p := ne_of dk.dc ob (by intro z; cases z)
        obtain ⟨G', F', ch⟩ := dg.chg (H' := H6) sG wn (.inr nwn) fun b o e h1 h2 _ => w6.keep (n5.keep (e9 b o e h2)) h1
        have st : Same (Fn H F Hc) F' := fn_chg ch fun b o hn h2 => ⟨(fun z => by
          rcases z with z | z | z
          · rw [z, ob] at hn; cases hn
          · rw [z, dk.dc] at hn; cases hn
          · rw [z, n5.nw] at h2; cases h2), w6.keep (n5.keep h2) fun z => by rw [z, ob] at hn; cases hn⟩
        refine k G' H6 (DiskIn.lay (dx := dx) (r' := r) (kvs' := kvs') (ws' := []) (rs' := rs0) ch ?_ (w6.keep (n5.keep dc) dnp) (w6.keep n5.at_ wnp) (ch.old _ _ dg.rl) ?_ .nil (pmono dg.rows fun _ _ z => z.mono ch.old)) ch.step
        · rw [w6.at_]
          rfl
        · show Paired (SecR F') kvs' (crashS D.sec D.wait rows)
          rw [← full]
          exact pmono pr fun _ _ z => z.mono st
end
end K51
namespace K51
open PySem PySem.Spec PyProof.Rows L2 He Sb Dsk
section
variable {P : Program} {w : World} {K : PySem.W.Frag} {mg : Str → Option Value} {base : Heap}
/-! ### counts -/
def sp_Disk_counts (K : PySem.W.Frag) : Sp := fun vs H Q _ => ∃ (p : Addr) (G : Hp) (D : Dk),
  vs = [.ref p] ∧ DiskAt (cD K) G p D ∧ Same G H ∧ Fine D ∧ ∀ G' H', DiskAt (cD K) G' p D.counts → Step G H G' H' → Q (.bl (!D.counts.cut)) H'
theorem sc_Disk_counts : FnScope ["self"] ["self"] (defScope s_Disk_counts) := ⟨rfl, rfl, rfl, by decide +kernel, rfl, by decide +kernel, by decide +kernel⟩
theorem ok_Disk_counts (W : Wd K mg) : Ok P w K mg base 3 (ma K (ga K "Disk") "counts") ["self"] (sp_Disk_counts K) := by
  refine W.ok 8 rfl rfl rfl sc_Disk_counts (fun vs H Q E h => ?_) (fun _ _ _ _ _ _ us hl => match us, hl with | [_], _ => rfl) (fun cdv A outer s H vs Q E hr h => ?_)
  · obtain ⟨p, G, D, rfl, _⟩ := h
    rfl
  · obtain ⟨p, G, D, rfl, ⟨F, dx, d, wl, r, kvs, ws, rs0, dg⟩, sG, fine, k⟩ := h
    have dk := dg.mono sG
    have hu := hu_of hr
    have hv := hv_of hr
    refine ⟨_, (pss_cons (ps_if (PW.pt (pw_and (pt_cmpR op_notN (pe_get (f_cls_Disk W) (f_no_Disk_left W) lk_Disk_left (pv 0)) pe_non (nomark _)) (pw_and1 (pt_not (pt_val (pe_get (f_cls_Disk W) (f_no_Disk_is_cut W) lk_Disk_is_cut (pv 0)))))))
        (pss_cons (ps_setF (f_cls_Disk W) (f_no_Disk_left W) pt_Disk_left len_Disk (pv 0) (pe_op op_sub (pe_get (f_cls_Disk W) (f_no_Disk_left W) lk_Disk_left (pv 0)) pe_int))
        (pss_one (ps_if (pt_cmpR op_le (pe_get (f_cls_Disk W) (f_no_Disk_left W) lk_Disk_left (pv 0)) pe_int (nomark _))
          (pss_cons (ps_expr (pe_methG (f_cls_Disk W) (f_meth_Disk_crash W) nm_Disk_crash (ok_Disk_crash W) hr (pv 0) (pa_cons (pe_get (f_cls_Disk W) (f_no_Disk_rows W) lk_Disk_rows (pv 0)) pa_nil)))
          (pss_one (ps_setF (f_cls_Disk W) (f_no_Disk_is_cut W) pt_Disk_is_cut len_Disk (pv 0) pe_bl)))
          pss_nil)))
        pss_nil)
      (pss_one (ps_ret (pe_not (pe_get (f_cls_Disk W) (f_no_Disk_is_cut W) lk_Disk_is_cut (pv 0)))))), ?_⟩
    dsimp only [cxK, cxW, cxP]
    show (_ : TS) _ [some (.ref p)] H
    obtain ⟨sec, wait, left, rows, cut⟩ := D
    have ob := dk.ob
    cases left with
    | none =>
      have ob : H p = some (.ins (cD K) dx (mkDisk ⟨.ref d, .ref wl, .non, .ref r, .bl cut⟩)) := ob
      walk_at "rd"
      refine iteF ?_
      refine iteF ?_
      walk_at "rd"
      exact k G H ⟨F, dx, d, wl, r, kvs, ws, rs0, dg⟩ (Step.refl sG)
    | some l =>
      have ob : H p = some (.ins (cD K) dx (mkDisk ⟨.ref d, .ref wl, .int l, .ref r, .bl cut⟩)) := ob
      cases cut with
      | true =>
        walk_at "rd"
        refine iteT ?_
        walk_at "rd"
        refine iteF ?_
        walk_at "rd"
        exact k G H ⟨F, dx, d, wl, r, kvs, ws, rs0, dg⟩ (Step.refl sG)
      | false =>
        walk_at "rd"
        refine iteT ?_
        walk_at "rd"
        refine iteT ?_
        walk_at "rd"
        intro H1 w1
        have ob1 : H1 p = some (.ins (cD K) dx (mkDisk ⟨.ref d, .ref wl, .int (l - 1), .ref r, .bl false⟩)) := w1.at_
        obtain ⟨G1, F1, dg1, st1⟩ := dg.fld (D' := ⟨sec, wait, some (l - 1), rows, false⟩) sG w1 rfl rfl rfl
        walk_at "rd"
        refine rd_dec (fun hl => ?_) (fun hl => ?_)
        · walk_at "rd"
          have dk1 := dg1.mono st1.own
          have e1 : (⟨sec, wait, some l, rows, false⟩ : Dk).counts = { (⟨sec, wait, some (l - 1), rows, false⟩ : Dk).crash rows with cut := true } := by
            unfold Dk.counts
            simp only [Bool.false_eq_true, if_false]
            rw [if_pos hl]
          refine ⟨p, r, G1, ⟨sec, wait, some (l - 1), rows, false⟩, rows, rs0, rfl, ⟨F1, dx, d, wl, r, kvs, ws, rs0, dg1⟩, st1.own, ⟨fine.s16, fine.w16, fine.nd, fine.sl, fine.wl, fine.nl, fine.nk, fine.rl⟩, dk1.fs _ _ dk1.rl, pmono dk1.rows fun _ _ z => z.mono dk1.fs, fun G2 H2 dg2 st2 => ?_⟩
          obtain ⟨F2, dx2, d2, wl2, r2, kvs2, ws2, rs2, dg2⟩ := dg2
          have ob2 := dg2.mono st2.own |>.ob
          walk_at "rd"
          intro H3 w3
          obtain ⟨G3, F3, dg3, st3⟩ := dg2.fld (D' := { (⟨sec, wait, some (l - 1), rows, false⟩ : Dk).crash rows with cut := true }) st2.own w3 rfl rfl rfl
          have ob3 := w3.at_
          walk_at "rd"
          rw [e1] at k
          exact k G3 H3 ⟨_, _, _, _, _, _, _, _, dg3⟩ ((st1.trans st2).trans st3)
        · walk_at "rd"
          have e1 : (⟨sec, wait, some l, rows, false⟩ : Dk).counts = ⟨sec, wait, some (l - 1), rows, false⟩ := by
            unfold Dk.counts
            simp only [Bool.false_eq_true, if_false]
            rw [if_neg hl]
          rw [e1] at k
          exact k G1 H1 ⟨_, _, _, _, _, _, _, _, dg1⟩ st1
theorem Fine.counts {D : Dk} (f : Fine D) (hr : D.rows.length ≤ 100000) : (∀ r ∈ D.counts.sec, r.2.length = 16) ∧ (∀ r ∈ D.counts.wait, r.2.length = 16) ∧ D.counts.wait.length ≤ D.wait.length ∧ D.counts.sec.length ≤ D.sec.length + 64 ∧ (D.counts.sec.map (·.1)).Nodup := by
  have cr : (∀ r ∈ crashS D.sec D.wait D.rows, r.2.length = 16) ∧ (crashS D.sec D.wait D.rows).length ≤ D.sec.length + (D.rows.zip (nums D.wait)).length ∧ ((crashS D.sec D.wait D.rows).map (·.1)).Nodup := by
    unfold crashS
    generalize D.rows.zip (nums D.wait) = l
    have h1 := f.s16
    have h2 := f.nd
    revert h1 h2
    generalize D.sec = sec
    induction l generalizing sec with
    | nil => intro h1 h2; exact ⟨h1, Nat.le_refl _, h2⟩
    | cons q l ih =>
      intro h1 h2
      obtain ⟨a, b, c⟩ := ih (crash1 D.wait sec q) (crash1_fine f.w16 h1) (crash1_keys h2)
      refine ⟨a, ?_, c⟩
      have := crash1_len D.wait sec q
      simp only [List.foldl_cons, List.length_cons]
      omega
  have zl : (D.rows.zip (nums D.wait)).length ≤ 64 := by rw [List.length_zip]; have := f.nl; omega
  obtain ⟨c1, c2, c3⟩ := cr
  unfold Dk.counts
  split
  · exact ⟨f.s16, f.w16, Nat.le_refl _, by omega, f.nd⟩
  · split
    · exact ⟨f.s16, f.w16, Nat.le_refl _, by omega, f.nd⟩
    · split
      · exact ⟨c1, (by intro r hr; cases hr), Nat.zero_le _, by show (crashS D.sec D.wait D.rows).length ≤ D.sec.length + 64; omega, c3⟩
      · exact ⟨f.s16, f.w16, Nat.le_refl _, by show D.sec.length ≤ D.sec.length + 64; omega, f.nd⟩
/-! ### write -/
def sp_Disk_write (K : PySem.W.Frag) : Sp := fun vs H Q _ => ∃ (p c : Addr) (n : Int) (ct : List Int) (G : Hp) (D : Dk),
  vs = [.ref p, .int n, .ref c] ∧ DiskAt (cD K) G p D ∧ Same G H ∧ Fine D ∧ IL H c ct ∧ G c = none ∧ ∀ G' H', DiskAt (cD K) G' p (D.write n ct) → Step G H G' H' → Q .non H'
theorem sc_Disk_write : FnScope ["self", "number", "content"] ["self", "number", "content"] (defScope s_Disk_write) := ⟨rfl, rfl, rfl, by decide +kernel, rfl, by decide +kernel, by decide +kernel⟩
theorem ok_Disk_write (W : Wd K mg) : Ok P w K mg base 4 (ma K (ga K "Disk") "write") ["self", "number", "content"] (sp_Disk_write K) := by
  refine W.ok 9 rfl rfl rfl sc_Disk_write (fun vs H Q E h => ?_) (fun _ _ _ _ _ _ us hl => match us, hl with | [_, _, _], _ => rfl) (fun cdv A outer s H vs Q E hr h => ?_)
  · obtain ⟨p, c, n, ct, G, D, rfl, _⟩ := h
    rfl
  · obtain ⟨p, c, n, ct, G, D, rfl, dg, sG, fine, hc, gc, k⟩ := h
    have hu := hu_of hr
    have hv := hv_of hr
    obtain ⟨F, dx, d, wl, r, kvs, ws, rs0, dg0⟩ := id dg
    have ob := (dg0.mono sG).ob
    refine ⟨_, (pss_one (ps_if (pt_val (pe_methG0 (f_cls_Disk W) (f_meth_Disk_counts W) nm_Disk_counts (ok_Disk_counts W) hr (pv 0)))
        (pss_one (ps_expr (pe_bm PySem.F.plainAttrs_list PySem.F.slot_list_append PySem.F.type_list_append mt_append (pe_get (f_cls_Disk W) (f_no_Disk_waiting W) lk_Disk_waiting (pv 0)) (pa_cons (pe_tup (pa_cons (pv 1) (pa_cons (pe_callTy (cr_listK (K := K) rfl) (by rfl) (f_free_list W) (by decide +kernel) (pa_cons (pv 2) pa_nil)) pa_nil))) pa_nil))))
        pss_nil)), ?_⟩
    dsimp only [cxK, cxW, cxP]
    show (_ : TS) _ [some (.ref p), some (.int n), some (.ref c)] H
    walk_at "rd"
    refine ⟨p, G, D, rfl, dg, sG, fine, fun G1 H1 dg1 st1 => ?_⟩
    walk_at "rd"
    have fc := fine.counts fine.rl
    have hc1 : IL H1 c ct := st1.keep _ _ hc gc
    unfold IL at hc1
    cases hcut : D.counts.cut with
    | true =>
      refine iteF ?_
      walk_at "rd"
      have e : D.write n ct = D.counts := by unfold Dk.write; rw [if_pos hcut]
      rw [e] at k
      exact k G1 H1 dg1 st1
    | false =>
      refine iteT ?_
      have e : D.write n ct = { D.counts with wait := D.counts.wait ++ [(n, ct)] } := by unfold Dk.write; rw [if_neg (by rw [hcut]; exact Bool.false_ne_true)]
      rw [e] at k
      obtain ⟨F1, dx1, d1, wl1, r1, kvs1, ws1, rs1, dg1⟩ := dg1
      have dk1 := dg1.mono st1.own
      have ob1 := dk1.ob
      have wl1e := dk1.wl
      walk_at "rd"
      intro q H2 n2
      walk_at "rd"
      intro t H3 n3
      have wl3 : H3 wl1 = _ := n3.keep (n2.keep wl1e)
      walk_at "rd"
      have wlen : ws1.length = D.counts.wait.length := dk1.wait.length
      refine rd_append wl3 (by have := fine.wl; omega) fun H4 w4 => ?_
      walk_at "rd"
      obtain ⟨G', F', ch⟩ := dg1.chg (H' := H4) st1.own wl1 (.inl rfl) fun b o e h1 h2 h3 => w4.keep (n3.keep (n2.keep e)) h3
      have nq : H1 q = none := n2.nw
      have nt : H1 t = none := n2.free n3.nw
      have qwl : q ≠ wl1 := (ne_of_none wl1e nq).symm
      have twl : t ≠ wl1 := (ne_of_none wl1e nt).symm
      have nm : ∀ b, H1 b = none → ¬ Mut3 p d1 wl1 b := fun b hb z => by
        rcases z with z | z | z
        · rw [z, ob1] at hb; cases hb
        · rw [z, dk1.dc] at hb; cases hb
        · rw [z, wl1e] at hb; cases hb
      refine k G' H4 (DiskIn.lay (dx := dx1) ch (w4.keep (n3.keep (n2.keep ob1)) (ne_of ob1 wl1e (by intro z; cases z))) (w4.keep (n3.keep (n2.keep dk1.dc)) (ne_of dk1.dc wl1e (by intro z; cases z))) w4.at_ (ch.old _ _ dg1.rl) (pmono dg1.sec fun _ _ z => z.mono ch.old) ?_ (pmono dg1.rows fun _ _ z => z.mono ch.old)) (st1.trans ch.step)
      refine (pmono dg1.wait fun _ _ z => z.mono ch.old).snoc ⟨t, q, rfl, ch.new _ _ nt (nm t nt) (w4.keep n3.at_ twl), ch.new _ _ nq (nm q nq) (w4.keep (n3.keep n2.at_) qwl)⟩
/-! ### sync -/
def sp_Disk_sync (K : PySem.W.Frag) : Sp := fun vs H Q _ => ∃ (p : Addr) (G : Hp) (D : Dk),
  vs = [.ref p] ∧ DiskAt (cD K) G p D ∧ Same G H ∧ Fine D ∧ ∀ G' H', DiskAt (cD K) G' p D.sync → Step G H G' H' → Q .non H'
theorem sc_Disk_sync : FnScope ["self", "number", "content"] ["self"] (defScope s_Disk_sync) := ⟨rfl, rfl, rfl, by decide +kernel, rfl, by decide +kernel, by decide +kernel⟩
theorem ok_Disk_sync (W : Wd K mg) : Ok P w K mg base 4 (ma K (ga K "Disk") "sync") ["self"] (sp_Disk_sync K) := by
  refine W.ok 10 rfl rfl rfl sc_Disk_sync (fun vs H Q E h => ?_) (fun _ _ _ _ _ _ us hl => match us, hl with | [_], _ => rfl) (fun cdv A outer s H vs Q E hr h => ?_)
  · obtain ⟨p, G, D, rfl, _⟩ := h
    rfl
  · obtain ⟨p, G, D, rfl, dg, sG, fine, k⟩ := h
    have hu := hu_of hr
    have hv := hv_of hr
    obtain ⟨F, dx, d, wl, r, kvs, ws, rs0, dg0⟩ := id dg
    have ob := (dg0.mono sG).ob
    refine ⟨_, (pss_one (ps_if (pt_val (pe_methG0 (f_cls_Disk W) (f_meth_Disk_counts W) nm_Disk_counts (ok_Disk_counts W) hr (pv 0)))
        (pss_cons (ps_for PassesOwn.never rfl (pi_list (pe_get (f_cls_Disk W) (f_no_Disk_waiting W) lk_Disk_waiting (pv 0))) (pg_tupK (K := K) 2 rfl rfl (pgs_cons (pg_name (i := 1) sc_Disk_sync.nd rfl (Or.inl rfl) (Or.inl rfl)) (pgs_cons (pg_name (i := 2) sc_Disk_sync.nd rfl (Or.inl rfl) (Or.inl rfl)) pgs_nil)))
          (pss_one (ps_dput hu (pe_get (f_cls_Disk W) (f_no_Disk_sectors W) lk_Disk_sectors (pv 0)) (pv 1) (pv 2) rfl)))
        (pss_one (ps_setF (f_cls_Disk W) (f_no_Disk_waiting W) pt_Disk_waiting len_Disk (pv 0) (pe_lst pa_nil))))
        pss_nil)), ?_⟩
    dsimp only [cxK, cxW, cxP]
    show (_ : TS) _ [some (.ref p), none, none] H
    walk_at "rd"
    refine ⟨p, G, D, rfl, dg, sG, fine, fun G1 H1 dg1 st1 => ?_⟩
    walk_at "rd"
    have fc := fine.counts fine.rl
    cases hcut : D.counts.cut with
    | true =>
      refine iteF ?_
      walk_at "rd"
      have e : D.sync = D.counts := by unfold Dk.sync; rw [if_pos hcut]
      rw [e] at k
      exact k G1 H1 dg1 st1
    | false =>
      refine iteT ?_
      have e : D.sync = { D.counts with sec := syncS D.counts.sec D.counts.wait, wait := [] } := by unfold Dk.sync; rw [if_neg (by rw [hcut]; exact Bool.false_ne_true)]
      rw [e] at k
      obtain ⟨F1, dx1, d1, wl1, r1, kvs1, ws1, rs1, dg1⟩ := dg1
      have dk1 := dg1.mono st1.own
      have ob1 := dk1.ob
      have wl1e := dk1.wl
      have dc1 := dk1.dc
      walk_at "rd"
      have wlen : ws1.length = D.counts.wait.length := dk1.wait.length
      have wd : wl1 ≠ d1 := ne_of wl1e dc1 (by intro z; cases z)
      have pd : p ≠ d1 := ne_of ob1 dc1 (by intro z; cases z)
      refine rd_kforL (SqL.of wl1e) (fun i σ Hc => ∃ x1 x2 kvs', σ = [some (.ref p), x1, x2] ∧ Hc d1 = some (.dK kvs') ∧ Paired (SecR F1) kvs' (syncS D.counts.sec (D.counts.wait.take i)) ∧ (∀ b o, H1 b = some o → b ≠ d1 → Hc b = some o) ∧ kvs'.length ≤ D.counts.sec.length + i)
        ⟨none, none, kvs1, rfl, dc1, dk1.sec, fun b o e _ => e, by rw [dk1.sec.length]; omega⟩ (fun i σ Hc _ h => ?_) (fun i x σ Hc hx h => ?_) (fun σ Hc h => ?_)
      · obtain ⟨x1, x2, kvs', _, _, _, kc, _⟩ := h
        exact SqL.of (kc _ _ wl1e wd)
      · obtain ⟨x1, x2, kvs', rfl, dc, pr, kc, kl⟩ := h
        obtain ⟨q, hq, t, cc, rfl, et, ic⟩ := pget dk1.wait hx
        have etd : t ≠ d1 := ne_of (dk1.fs _ _ et) dc1 (by intro z; cases z)
        have et1 : Hc t = _ := kc _ _ (dk1.fs _ _ et) etd
        have obc : Hc p = _ := kc _ _ ob1 pd
        have il : i < D.counts.wait.length := (List.getElem?_eq_some_iff.mp hq).1
        walk_at "rd"
        refine rd_dpo dc (by rw [sizeLine_eq]; have := fine.sl; have := fine.wl; omega) fun H2 w2 => ?_
        walk_at "rd"
        refine ⟨_, _, _, rfl, w2.at_, ?_, fun b o h1 h2 => w2.keep (kc b o h1 h2) h2, ?_⟩
        · have es : syncS D.counts.sec (D.counts.wait.take (i + 1)) = putS (syncS D.counts.sec (D.counts.wait.take i)) q.1 q.2 := by
            unfold syncS
            rw [take_snoc hq, List.foldl_append]
            rfl
          rw [es]
          exact sec_put ic pr
        · have : (putK kvs' (Sum.inl q.1) (V.ref cc)).length ≤ kvs'.length + 1 := by
            unfold putK
            split <;> simp
          omega
      · obtain ⟨x1, x2, kvs', rfl, dc, pr, kc, kl⟩ := h
        rw [wlen, List.take_length] at pr
        have obc : Hc p = _ := kc _ _ ob1 pd
        walk_at "rd"
        intro wn H5 n5
        walk_at "rd"
        intro H6 w6
        walk_at "rd"
        have nwn : H1 wn = none := by
          cases z : H1 wn with
          | none => rfl
          | some o =>
            have z5 := n5.nw
            by_cases zd : wn = d1
            · rw [zd, dc] at z5; cases z5
            · rw [kc _ _ z zd] at z5; cases z5
        have wnp : wn ≠ p := (ne_of_none obc n5.nw).symm
        obtain ⟨G', F', ch⟩ := dg1.chg (H' := H6) st1.own wn (.inr nwn) fun b o e h1 h2 _ => w6.keep (n5.keep (kc b o e h2)) h1
        refine k G' H6 (DiskIn.lay (dx := dx1) (r' := r1) (kvs' := kvs') (ws' := []) ch ?_ (w6.keep (n5.keep dc) pd.symm) (w6.keep n5.at_ wnp) (ch.old _ _ dg1.rl) (pmono pr fun _ _ z => z.mono ch.old) .nil (pmono dg1.rows fun _ _ z => z.mono ch.old)) (st1.trans ch.step)
        rw [w6.at_]
end
end K51
namespace K51
open PySem PySem.Spec PyProof.Rows L2 He Sb Dsk
/-- rows (number, content) as they are told: new lists and tuples -/
def SyR (H Hc : Hp) (v : V) (r : Int × List Int) : Prop := ∃ t b, v = .ref t ∧ Hc t = some (.tup [.int r.1, .ref b]) ∧ IL Hc b r.2 ∧ H t = none ∧ H b = none
theorem SyR.mono {H Hc Hd : Hp} (h : Same Hc Hd) {v : V} {r : Int × List Int} (x : SyR H Hc v r) : SyR H Hd v r := by
  obtain ⟨t, b, e, e1, e2, e3, e4⟩ := x
  exact ⟨t, b, e, h _ _ e1, h _ _ e2, e3, e4⟩
theorem nums_le (sec : List (Int × List Int)) : (nums sec).length ≤ sec.length := nums_len sec
theorem perm_sorted {ys : List Int} {sec : List (Int × List Int)} (hp : ys.Perm (sec.map (·.1))) (hs : ys.Pairwise (· ≤ ·)) (nd : (sec.map (·.1)).Nodup) : ys = nums sec := by
  have ndy : ys.Nodup := hp.nodup_iff.mpr nd
  have lt : ys.Pairwise (· < ·) := by
    have h2 := List.pairwise_and_iff.mpr ⟨hs, ndy⟩
    exact h2.imp fun {a b} h => by have := h.1; have := h.2; omega
  exact sorted_unique lt (nums_sorted sec) fun k => by rw [hp.mem_iff, nums_mem]
section
variable {P : Program} {w : World} {K : PySem.W.Frag} {mg : Str → Option Value} {base : Heap}
/-! ### synced -/
def sp_Disk_synced (K : PySem.W.Frag) : Sp := fun vs H Q _ => ∃ (p : Addr) (G : Hp) (D : Dk),
  vs = [.ref p] ∧ DiskAt (cD K) G p D ∧ Same G H ∧ Fine D ∧ ∀ a xs H', H a = none → Same H H' → H' a = some (.lst xs) → Paired (SyR H H') xs (synced D.sec) → Q (.ref a) H'
theorem sc_Disk_synced : FnScope ["self", "rows", "number", "row"] ["self"] (defScope s_Disk_synced) := ⟨rfl, rfl, rfl, by decide +kernel, rfl, by decide +kernel, by decide +kernel⟩
theorem ok_Disk_synced (W : Wd K mg) : Ok P w K mg base 1 (ma K (ga K "Disk") "synced") ["self"] (sp_Disk_synced K) := by
  refine W.ok 12 rfl rfl rfl sc_Disk_synced (fun vs H Q E h => ?_) (fun _ _ _ _ _ _ us hl => match us, hl with | [_], _ => rfl) (fun cdv A outer s H vs Q E hr h => ?_)
  · obtain ⟨p, G, D, rfl, _⟩ := h
    rfl
  · obtain ⟨p, G, D, rfl, ⟨F, dx, d, wl, r, kvs, ws, rs0, dg⟩, sG, fine, k⟩ := h
    have dk := dg.mono sG
    have ob := dk.ob
    have dc := dk.dc
    have hu := hu_of hr
    have hv := hv_of hr
    refine ⟨_, (pss_cons (ps_setLc (i := 1) (own := [("number", 2)]) rfl sc_Disk_synced.nd rfl rfl (sw_true rfl rfl rfl (by decide +kernel)) (pi_list (pe_callB (cr_sortDI rfl) (by rfl) (f_free_sorted W) (by decide +kernel) (pa_cons (pe_get (f_cls_Disk W) (f_no_Disk_sectors W) lk_Disk_sectors (pv 0)) pa_nil))) (blkOk_by (own := [("number", 2)]) (N := ["self", "rows", "number", "row"]) (sc := defScope s_Disk_synced) (by decide +kernel)) (fun _ _ _ _ _ => (pg_name (i := 2) sc_Disk_synced.nd rfl (Or.inl rfl) (Or.inr rfl))) (fun _ _ _ _ _ => pts_nil) (fun _ _ _ _ _ => (pe_tup (pa_cons (pv 2) (pa_cons (pe_callTy (cr_listK (K := K) rfl) (by rfl) (f_free_list W) (by decide +kernel) (pa_cons (pe_dget hu (pe_get (f_cls_Disk W) (f_no_Disk_sectors W) lk_Disk_sectors (pv 0)) (pv 2) (fun _ _ => rfl)) pa_nil)) pa_nil)))))
      (pss_one (ps_ret (pe_lc (own := [("row", 3)]) rfl sc_Disk_synced.nd (pi_list (pv 1)) (blkOk_by (own := [("row", 3)]) (N := ["self", "rows", "number", "row"]) (sc := defScope s_Disk_synced) (by decide +kernel)) (fun _ _ _ _ _ => (pg_name (i := 3) sc_Disk_synced.nd rfl (Or.inl rfl) (Or.inr rfl))) (fun _ _ _ _ _ => (pts_one (pt_cmpR (op_neK (K := K) rfl hv) (pe_ix (ix_seqK (K := K) rfl) (pv 3) pe_int (fun _ _ => rfl)) (pe_op op_mulA (pe_lst (pa_cons pe_int pa_nil)) (pe_glob (v := .int 16) rfl (f_int_SECTOR W).choose_spec ⟨_, rfl⟩)) (nomark _)))) (fun _ _ _ _ _ => (pv 3)))))), ?_⟩
    dsimp only [cxK, cxW, cxP]
    show (_ : TS) _ [some (.ref p), none, none, none] H
    walk_at "rd"
    refine rd_sortDI dc (ks := D.sec.map (·.1)) (sec_keys dk.sec) (by rw [List.length_map]; exact fine.nk) fun ys l1 H1 hp hs n1 => ?_
    obtain rfl := perm_sorted hp hs fine.nd
    have nl : (nums D.sec).length < 64 := Nat.lt_of_le_of_lt (nums_len _) fine.nk
    refine rd_klcL (by walk_at "wp") (SqL.of n1.at_) fun LA H2 n2 => ⟨fun i Hc => (∃ acc, Hc LA = some (.lst acc) ∧ acc.length ≤ i ∧ Paired (fun v (rr : Int × List Int) => ∃ t b, v = V.ref t ∧ Hc t = some (.tup [.int rr.1, .ref b]) ∧ IL Hc b rr.2 ∧ H t = none ∧ H b = none ∧ b ≠ LA) acc (((nums D.sec).take i).map fun n => (n, getS D.sec n))) ∧ (∀ b o, H1 b = some o → Hc b = some o) ∧ H1 LA = none, ⟨⟨[], n2.at_, Nat.le_refl _, .nil⟩, n2.same, n2.nw⟩, fun i Hc _ h => SqL.of (h.2.1 _ _ n1.at_), fun i x Hc hx h => ?_, fun Hc h => ?_⟩
    · obtain ⟨⟨acc, hl, la, pa⟩, kc, nLA⟩ := h
      obtain ⟨m, hm, rfl⟩ : ∃ m, (nums D.sec)[i]? = some m ∧ x = V.int m := by
        rw [List.getElem?_map] at hx
        cases e : (nums D.sec)[i]? with
        | none => rw [e] at hx; cases hx
        | some m => rw [e] at hx; exact ⟨m, rfl, (Option.some.inj hx).symm⟩
      have il : i < (nums D.sec).length := (List.getElem?_eq_some_iff.mp hm).1
      have obc : Hc p = _ := kc _ _ (n1.keep ob)
      have dcc : Hc d = _ := kc _ _ (n1.keep dc)
      obtain ⟨a1, c1, lk, vk, ia⟩ : ∃ a c, look D.sec m = some c ∧ valV kvs (Sum.inl m) = some (.ref a) ∧ IL F a c := by
        rcases sec_look dk.sec m with ⟨e1, _⟩ | z
        · have hmem : m ∈ D.sec.map (·.1) := (nums_mem D.sec m).mp (List.mem_of_getElem? hm)
          obtain ⟨r0, hr0, er⟩ := List.mem_map.mp hmem
          unfold look at e1
          have := List.find?_eq_none.mp (Option.map_eq_none_iff.mp e1) r0 hr0
          simp [er] at this
        · exact z
      have ia1 : Hc a1 = _ := kc _ _ (n1.keep (dk.fs _ _ ia))
      have gs : getS D.sec m = c1 := by unfold getS; rw [lk]; rfl
      walk_at "rd"
      refine rd_dgv dcc vk ?_
      walk_at "rd"
      intro q H3 n3
      walk_at "rd"
      intro t H4 n4
      refine rd_kacc (n4.keep (n3.keep hl)) (by omega) fun H5 w5 => ?_
      have nLA3 : q ≠ LA := (ne_of_none hl n3.nw).symm
      have nLA4 : t ≠ LA := (ne_of_none hl (n3.free n4.nw)).symm
      have nqH : H q = none := by
        cases z : H q with
        | none => rfl
        | some o => have := n3.nw; rw [kc _ _ (n1.keep z)] at this; cases this
      have ntH : H t = none := by
        cases z : H t with
        | none => rfl
        | some o => have := n3.free n4.nw; rw [kc _ _ (n1.keep z)] at this; cases this
      refine ⟨⟨_, w5.at_, by rw [List.length_append]; simp; omega, ?_⟩, fun b o e => w5.keep (n4.keep (n3.keep (kc b o e))) (fun z => by rw [z, nLA] at e; cases e), nLA⟩
      rw [take_snoc hm, List.map_append]
      refine Paired.snoc ?_ ⟨t, q, rfl, w5.keep n4.at_ nLA4, by
        show H5 q = some (.lst ((getS D.sec m).map V.int))
        rw [gs]
        exact w5.keep (n4.keep n3.at_) nLA3, ntH, nqH, nLA3⟩
      refine pmono pa fun v rr z => ?_
      obtain ⟨t', b', e0, e1, e2, e3, e4, e5⟩ := z
      exact ⟨t', b', e0, w5.keep (n4.keep (n3.keep e1)) (fun z => by rw [z, hl] at e1; cases e1), w5.keep (n4.keep (n3.keep e2)) e5, e3, e4, e5⟩
    · obtain ⟨⟨acc, hl, la, pa⟩, kc, nLA⟩ := h
      have e1 : ((nums D.sec).map V.int).length = (nums D.sec).length := List.length_map _
      rw [e1, List.take_length] at pa
      have sHc : Same H Hc := fun b o e => kc _ _ (n1.keep e)
      have alen : acc.length = (nums D.sec).length := by rw [pa.length, List.length_map]
      walk_at "rd"
      refine rd_klcL (by walk_at "wp") (SqL.of hl) fun LB H3 n3 => ⟨fun i Hd => (∃ bcc, Hd LB = some (.lst bcc) ∧ bcc.length ≤ i ∧ Paired (SyR H Hc) bcc ((((nums D.sec).map fun n => (n, getS D.sec n)).take i).filter fun rr => decide (rr.2 ≠ blank))) ∧ Same Hc Hd, ⟨⟨[], n3.at_, Nat.le_refl _, .nil⟩, n3.same⟩, fun i Hd _ h => SqL.of (h.2 _ _ hl), fun i x Hd hx h => ?_, fun Hd h => ?_⟩
      · obtain ⟨⟨bcc, hb, lb, pb⟩, sd⟩ := h
        obtain ⟨rr, hrr, t, b, rfl, et, ib, nt, nb, _⟩ := pget pa hx
        have il : i < (nums D.sec).length := by have := (List.getElem?_eq_some_iff.mp hx).1; omega
        have et1 : Hd t = _ := sd _ _ et
        have ib1 : Hd b = _ := sd _ _ ib
        have tk : ((((nums D.sec).map fun n => (n, getS D.sec n)).take (i + 1)).filter fun rr => decide (rr.2 ≠ blank)) = ((((nums D.sec).map fun n => (n, getS D.sec n)).take i).filter fun rr => decide (rr.2 ≠ blank)) ++ (if rr.2 = blank then [] else [rr]) := by
          rw [take_snoc hrr, List.filter_append]
          congr 1
          by_cases z : rr.2 = blank <;> simp [z]
        walk_at "rd"
        refine rd_ixT (SqT.of et1) (at_of (j := 1) rfl rfl) ?_
        walk_at "rd"
        intro q0 H4 n4
        walk_at "rd"
        refine rd_rep n4.at_ (by decide) (by decide) (by decide) fun q1 H5 n5 => ?_
        rw [blank_v] at n5
        refine rd_neL (n5.keep (n4.keep ib1)) n5.at_ ?_
        walk_at "rd"
        have sd5 : Same Hc H5 := fun b o e => n5.keep (n4.keep (sd b o e))
        have hb5 : H5 LB = _ := n5.keep (n4.keep hb)
        refine rd_ndec (fun e => ?_) (fun e => ?_)
        · walk_at "rd"
          refine rd_kacc hb5 (by omega) fun H6 w6 => ?_
          have k6 : ∀ b o, Hc b = some o → H6 b = some o := fun b o e => w6.keep (sd5 b o e) (ne_of_none e n3.nw)
          refine ⟨⟨_, w6.at_, by rw [List.length_append]; simp; omega, ?_⟩, k6⟩
          rw [tk, if_neg e]
          exact pb.snoc ⟨t, b, rfl, et, ib, nt, nb⟩
        · refine ⟨⟨bcc, hb5, by omega, ?_⟩, sd5⟩
          rw [tk, if_pos e, List.append_nil]
          exact pb
      · obtain ⟨⟨bcc, hb, lb, pb⟩, sd⟩ := h
        walk_at "rd"
        rw [List.take_of_length_le (by rw [List.length_map, alen]; exact Nat.le_refl _)] at pb
        exact k LB bcc Hd (Same.free sHc n3.nw) (fun b o e => sd _ _ (sHc _ _ e)) hb (pmono pb fun _ _ z => z.mono sd)
/-! ### __init__ -/
/-- rows (number, content) as they are handed in -/
def InR (H : Hp) (v : V) (r : Int × List Int) : Prop := ∃ t b, v = .ref t ∧ H t = some (.tup [.int r.1, .ref b]) ∧ IL H b r.2
def Dk.new (l : List (Int × List Int)) : Dk := ⟨syncS [] l, [], none, [], false⟩
def sp_Disk___init__ (K : PySem.W.Frag) : Sp := fun vs H Q _ => ∃ (p dx c : Addr) (xs : List V) (l : List (Int × List Int)),
  vs = [.ref p, .ref c] ∧ H p = some (.ins (cD K) dx []) ∧ H c = some (.lst xs) ∧ Paired (InR H) xs l ∧ l.length ≤ 100000 ∧
  ∀ G' H', DiskAt (cD K) G' p (Dk.new l) → Same G' H' → (∀ b o, H b = some o → b ≠ p → H' b = some o) → (∀ b, G' b ≠ none → b = p ∨ H b = none) → Q .non H'
theorem sc_Disk___init__ : FnScope ["self", "sectors", "number", "content"] ["self", "sectors"] (defScope s_Disk___init__) := ⟨rfl, rfl, rfl, by decide +kernel, rfl, by decide +kernel, by decide +kernel⟩
theorem ok_Disk___init__ (W : Wd K mg) : Ok P w K mg base 1 (ma K (ga K "Disk") "__init__") ["self", "sectors"] (sp_Disk___init__ K) := by
  refine W.ok 4 rfl rfl rfl sc_Disk___init__ (fun vs H Q E h => ?_) (fun _ _ _ _ _ _ us hl => match us, hl with | [_, _], _ => rfl) (fun cdv A outer s H vs Q E hr h => ?_)
  · obtain ⟨p, dx, c, xs, l, rfl, _⟩ := h
    rfl
  · obtain ⟨p, dx, c, xs, l, rfl, ob, hc, pr, ll, k⟩ := h
    have hu := hu_of hr
    have hv := hv_of hr
    refine ⟨_, (pss_cons (ps_setI (names := []) (f_cls_Disk W) (f_no_Disk_sectors W) (by decide +kernel) (by decide) (pv 0) (pe_dc (own := [("number", 2), ("content", 3)]) rfl sc_Disk___init__.nd (pi_list (pv 1)) (blkOk_by (own := [("number", 2), ("content", 3)]) (N := ["self", "sectors", "number", "content"]) (sc := defScope s_Disk___init__) (by decide +kernel)) (fun _ _ _ _ _ => (pg_tupK (K := K) 2 rfl rfl (pgs_cons (pg_name (i := 2) sc_Disk___init__.nd rfl (Or.inl rfl) (Or.inr rfl)) (pgs_cons (pg_name (i := 3) sc_Disk___init__.nd rfl (Or.inl rfl) (Or.inr rfl)) pgs_nil)))) (fun _ _ _ _ _ => pts_nil) (fun _ _ _ _ _ => (pv 2)) (fun _ _ _ _ _ => (pe_callTy (cr_listK (K := K) rfl) (by rfl) (f_free_list W) (by decide +kernel) (pa_cons (pv 3) pa_nil)))))
      (pss_cons (ps_setI (names := ["sectors"]) (f_cls_Disk W) (f_no_Disk_waiting W) (by decide +kernel) (by decide) (pv 0) (pe_lst pa_nil))
      (pss_cons (ps_setI (names := ["sectors", "waiting"]) (f_cls_Disk W) (f_no_Disk_left W) (by decide +kernel) (by decide) (pv 0) pe_non)
      (pss_cons (ps_setI (names := ["sectors", "waiting", "left"]) (f_cls_Disk W) (f_no_Disk_rows W) (by decide +kernel) (by decide) (pv 0) (pe_lst pa_nil))
      (pss_one (ps_setI (names := ["sectors", "waiting", "left", "rows"]) (f_cls_Disk W) (f_no_Disk_is_cut W) (by decide +kernel) (by decide) (pv 0) pe_bl)))))), ?_⟩
    dsimp only [cxK, cxW, cxP]
    show (_ : TS) _ [some (.ref p), some (.ref c), none, none] H
    walk_at "rd"
    have npc : p ≠ c := ne_of ob hc (by intro z; cases z)
    refine rd_kdcL (by walk_at "wp") (SqL.of hc) fun d H1 n1 => ⟨fun i Hc => ∃ kvs, Hc d = some (.dK kvs) ∧ kvs.length ≤ i ∧ Paired (SecR (Nw H (fun b => b = d) Hc)) kvs (syncS [] (l.take i)) ∧ (∀ b o, H b = some o → Hc b = some o),
      ⟨[], n1.at_, Nat.le_refl _, .nil, n1.same⟩, fun i Hc _ h => ?_, fun i x Hc hx h => ?_, fun Hc h => ?_⟩
    · obtain ⟨_, _, _, _, kc⟩ := h
      exact SqL.of (kc _ _ hc)
    · obtain ⟨kvs, dc, kl, pk, kc⟩ := h
      obtain ⟨rr, hrr, t, b, rfl, et, ib⟩ := pget pr hx
      have il : i < l.length := (List.getElem?_eq_some_iff.mp hrr).1
      have et1 : Hc t = _ := kc _ _ et
      have ib1 : Hc b = _ := kc _ _ ib
      walk_at "rd"
      refine ⟨rfl, ?_⟩
      walk_at "rd"
      intro q H3 n3
      refine rd_kdacc (n3.keep dc) (by omega) fun H4 w4 => ?_
      have nd : H d = none := n1.nw
      have qd : q ≠ d := (ne_of_none dc n3.nw).symm
      have nq : H q = none := by
        cases z : H q with
        | none => rfl
        | some o => have := n3.nw; rw [kc _ _ z] at this; cases this
      refine ⟨_, w4.at_, ?_, ?_, fun b o e => w4.keep (n3.keep (kc b o e)) (fun z => by rw [z, nd] at e; cases e)⟩
      · have : (putK kvs (Sum.inl rr.1) (V.ref q)).length ≤ kvs.length + 1 := by
          unfold putK
          split <;> simp
        omega
      · have es : syncS [] (l.take (i + 1)) = putS (syncS [] (l.take i)) rr.1 rr.2 := by
          unfold syncS
          rw [take_snoc hrr, List.foldl_append]
          rfl
        rw [es]
        exact sec_put (nw_mk nq qd (w4.keep n3.at_ qd)) (pmono pk fun _ _ z => z.mono (nw_step fun b o h1 h2 h3 => ⟨h2, w4.keep (n3.keep h3) h2⟩))
    · obtain ⟨kvs, dc, kl, pk, kc⟩ := h
      have nd : H d = none := n1.nw
      have e1 : xs.length = l.length := pr.length
      rw [e1, List.take_length] at pk
      have dp : d ≠ p := (ne_of_none ob nd).symm
      have obc : Hc p = some (.ins (cD K) dx (([] : List Str).zip ([] : List V))) := kc _ _ ob
      walk_at "rd"
      refine rd_ksetI obc rfl fun H2 w2 => ?_
      walk_at "rd"
      intro wl H3 n3
      walk_at "rd"
      refine rd_ksetI (n3.keep w2.at_) rfl fun H4 w4 => ?_
      walk_at "rd"
      refine rd_ksetI w4.at_ rfl fun H5 w5 => ?_
      walk_at "rd"
      intro r H6 n6
      walk_at "rd"
      refine rd_ksetI (n6.keep w5.at_) rfl fun H7 w7 => ?_
      walk_at "rd"
      refine rd_ksetI w7.at_ rfl fun H8 w8 => ?_
      walk_at "rd"
      have wp : wl ≠ p := (ne_of_none w2.at_ n3.nw).symm
      have rp : r ≠ p := (ne_of_none w5.at_ n6.nw).symm
      have n3c : Hc wl = none := w2.free n3.nw
      have n6c : Hc r = none := w2.free (n3.free (w4.free (w5.free n6.nw)))
      have nH : ∀ b, Hc b = none → H b = none := fun b hb => by
        cases z : H b with
        | none => rfl
        | some o => rw [kc _ _ z] at hb; cases hb
      have dc8 : H8 d = some (.dK kvs) := w8.keep (w7.keep (n6.keep (w5.keep (w4.keep (n3.keep (w2.keep dc dp)) dp) dp)) dp) dp
      have wl8 : H8 wl = some (.lst []) := w8.keep (w7.keep (n6.keep (w5.keep (w4.keep n3.at_ wp) wp)) wp) wp
      have rl8 : H8 r = some (.lst []) := w8.keep (w7.keep n6.at_ rp) rp
      have rw' : r ≠ wl := (ne_of_none (w5.keep (w4.keep n3.at_ wp) wp) n6.nw).symm
      have rd' : r ≠ d := (ne_of_none (w5.keep (w4.keep (n3.keep (w2.keep dc dp)) dp) dp) n6.nw).symm
      have all8 : ∀ b o, Hc b = some o → b ≠ p → H8 b = some o := fun b o e hb => w8.keep (w7.keep (n6.keep (w5.keep (w4.keep (n3.keep (w2.keep e hb)) hb) hb)) hb) hb
      refine k (Nwp H p H8) H8 ⟨Nw H (Mut3 p d wl) H8, dx, d, wl, r, kvs, [], [], nwp_mk (.inl rfl) w8.at_, nwp_mk (.inr nd) dc8, nwp_mk (.inr (nH _ n3c)) wl8, fun b o e => ?_, nw_no (.inl rfl), nw_no (.inr (.inl rfl)), nw_no (.inr (.inr rfl)),
        nw_mk (nH _ n6c) (fun z => by rcases z with z | z | z; exact rp z; exact rd' z; exact rw' z) rl8, ?_, .nil, .nil⟩ (fun b o e => (nwp_get e).2) (fun b o e hb => all8 b o (kc b o e) hb) (fun b hb => ?_)
      · obtain ⟨h1, _, h3⟩ := nw_get e
        exact nwp_mk (.inr h1) h3
      · refine pmono pk fun _ _ z => z.mono (nw_step fun b o h1 h2 h3 => ?_)
        have hbp : b ≠ p := fun z => by rw [z, ob] at h1; cases h1
        exact ⟨(fun z => by
          rcases z with z | z | z
          · exact hbp z
          · exact h2 z
          · rw [z, n3c] at h3; cases h3), all8 b o h3 hbp⟩
      · cases q : Nwp H p H8 b with
        | none => exact absurd q hb
        | some o => exact (nwp_get q).1
end
end K51
namespace K51
open PySem PySem.Spec PyProof.Rows L2 He Sb Dsk
/-- the law's drawing state at st: the next place, the cells at cl -/
def StAt (H : Hp) (st cl : Addr) : Prop := ∃ (i : Int) (cells : List Int), 0 ≤ i ∧ H st = some (.lst [.int i, .ref cl]) ∧ H cl = some (.lst (cells.map V.int)) ∧ cells ≠ [] ∧ cells.length ≤ 63 ∧ ∀ c ∈ cells, 0 ≤ c
theorem StAt.keep {H H' : Hp} {st cl : Addr} (h : StAt H st cl) (k : ∀ b o, (b = st ∨ b = cl) → H b = some o → H' b = some o) : StAt H' st cl := by
  obtain ⟨i, cells, h0, h1, h2, h3, h4, h5⟩ := h
  exact ⟨i, cells, h0, k _ _ (.inl rfl) h1, k _ _ (.inr rfl) h2, h3, h4, h5⟩
section
variable {P : Program} {w : World} {K : PySem.W.Frag} {mg : Str → Option Value} {base : Heap}
/-! ### _law_state -/
def sp__law_state (K : PySem.W.Frag) : Sp := fun vs H Q _ => ∃ (a : Addr) (ns : List Int), vs = [.ref a] ∧ SqL K H a (ns.map V.int) ∧ ns.length ≤ 63 ∧
  ∀ st cl H', StAt H' st cl → H st = none → H cl = none → Same H H' → Q (.ref st) H'
theorem sc__law_state : FnScope ["script", "cells", "cell"] ["script"] (defScope s__law_state) := ⟨rfl, rfl, rfl, by decide +kernel, rfl, by decide +kernel, by decide +kernel⟩
theorem cut_map (ns : List Int) : cutV (ns.map V.int) none (some 63) = (ns.take 63).map V.int := by
  have := cut_take (α := Unit) (ns.map V.int) 63
  rw [List.map_take]
  exact this
theorem ok__law_state (W : Wd K mg) : Ok P w K mg base 1 (ga K "_law_state") ["script"] (sp__law_state K) := by
  refine W.ok 0 rfl rfl rfl sc__law_state (fun vs H Q E h => ?_) (fun _ _ _ _ _ _ us hl => match us, hl with | [_], _ => rfl) (fun cdv A outer s H vs Q E hr h => ?_)
  · obtain ⟨a, ns, rfl, _⟩ := h
    rfl
  · obtain ⟨a, ns, rfl, hS, hlen, k⟩ := h
    have hu := hu_of hr
    have hv := hv_of hr
    refine ⟨_, (pss_cons (ps_setLc (i := 1) (own := [("cell", 2)]) rfl sc__law_state.nd rfl rfl (sw_true rfl rfl rfl (by decide +kernel)) (pi_list (pe_slice (sl_listK (K := K) rfl) (pv 0) po_none (po_some pe_int))) (blkOk_by (own := [("cell", 2)]) (N := ["script", "cells", "cell"]) (sc := defScope s__law_state) (by decide +kernel)) (fun _ _ _ _ _ => (pg_name (i := 2) sc__law_state.nd rfl (Or.inl rfl) (Or.inr rfl))) (fun _ _ _ _ _ => pts_nil) (fun _ _ _ _ _ => (pe_callB cr_abs (by rfl) (f_free_abs W) (by decide +kernel) (pa_cons (pv 2) pa_nil))))
      (pss_cons (ps_if (pt_cmpR (op_eqK (K := K) rfl hv) (pe_callB (cr_lenK (K := K) rfl) (by rfl) (f_free_len W) PySem.boot_len (pa_cons (pv 1) pa_nil)) pe_int (nomark _))
        (pss_one (ps_set (i := 1) sc__law_state.nd rfl (Or.inl rfl) (pe_lst (pa_cons pe_int pa_nil))))
        pss_nil)
      (pss_one (ps_ret (pe_lst (pa_cons pe_int (pa_cons (pv 1) pa_nil))))))), ?_⟩
    try dsimp only [cxK, cxW, cxP]
    show (_ : TS) _ [some (.ref a), none, none] H
    walk_at "rd"
    refine rd_slL hS fun q H1 n1 => ?_
    rw [cut_map] at n1
    have tl : (ns.take 63).length ≤ 63 := by rw [List.length_take]; omega
    refine rd_klcL (by walk_at "wp") (SqL.of n1.at_) fun L H2 n2 => ⟨fun i Hc => (∃ acc : List Int, Hc L = some (.lst (acc.map V.int)) ∧ acc.length = i ∧ ∀ c ∈ acc, 0 ≤ c) ∧ Same H1 Hc, ⟨⟨[], n2.at_, rfl, fun _ h => by cases h⟩, n2.same⟩, fun i Hc _ h => SqL.of (h.2 _ _ n1.at_), fun i x Hc hx h => ?_, fun Hc h => ?_⟩
    · obtain ⟨⟨acc, hl, la, pos⟩, sc⟩ := h
      obtain ⟨m, hm, rfl⟩ : ∃ m, (ns.take 63)[i]? = some m ∧ x = V.int m := by
        rw [List.getElem?_map] at hx
        cases e : (ns.take 63)[i]? with
        | none => rw [e] at hx; cases hx
        | some m => rw [e] at hx; exact ⟨m, rfl, (Option.some.inj hx).symm⟩
      have il : i < (ns.take 63).length := (List.getElem?_eq_some_iff.mp hm).1
      walk_at "rd"
      refine rd_kacc hl (by rw [List.length_map]; omega) fun H5 w5 => ⟨⟨acc ++ [if m < 0 then -m else m], by rw [w5.at_, List.map_append]; rfl, by rw [List.length_append, la]; rfl, fun c hc => ?_⟩, fun b o e => w5.keep (sc b o e) (ne_of_none e n2.nw)⟩
      rcases List.mem_append.mp hc with z | z
      · exact pos c z
      · rw [List.mem_singleton.mp z]
        split <;> omega
    · obtain ⟨⟨acc, hl, la, pos⟩, sc⟩ := h
      rw [List.length_map] at la
      walk_at "rd"
      have fin : ∀ (cs : List Int) (b : Addr) (H3 : Hp), H3 b = some (.lst (cs.map V.int)) → H b = none → Same H H3 → cs ≠ [] → cs.length ≤ 63 → (∀ c ∈ cs, 0 ≤ c) →
          ∀ (p : Addr) (H4 : Hp), New H3 H4 p (.lst [.int 0, .ref b]) → Q (.ref p) H4 := fun cs b H3 h1 h2 h3 h4 h5 h6 p H4 n4 =>
        k p b H4 ⟨0, cs, Int.le_refl _, n4.at_, n4.keep h1, h4, h5, h6⟩ (Same.free h3 n4.nw) h2 (h3.trans n4.same)
      have sH : Same H Hc := n1.same.trans sc
      refine rd_dec (fun e => ?_) (fun e => ?_)
      · walk_at "rd"
        intro p H3 n3
        walk_at "rd"
        exact fin [0] p H3 n3.at_ (Same.free sH n3.nw) (sH.trans n3.same) (by simp) (by simp) (by simp)
      · walk_at "rd"
        rw [List.length_map] at e
        exact fin acc L Hc hl (n1.free n2.nw) sH (fun z => e (by rw [z]; rfl)) (by omega) pos
/-! ### _law_take -/
def sp__law_take : Sp := fun vs H Q _ => ∃ (st cl : Addr) (m : Int), vs = [.ref st, .int m] ∧ StAt H st cl ∧ 0 < m ∧ m < 1000000 ∧
  ∀ v H', 0 ≤ v → v < m → StAt H' st cl → (∀ b, b ≠ st → b ≠ cl → H' b = H b) → Q (.int v) H'
theorem sc__law_take : FnScope ["state", "most", "cells", "at", "cell", "mixed"] ["state", "most"] (defScope s__law_take) := ⟨rfl, rfl, rfl, by decide +kernel, rfl, by decide +kernel, by decide +kernel⟩
theorem fmod_in {a m : Int} (h : 0 < m) : 0 ≤ a.fmod m ∧ a.fmod m < m := by
  rw [Int.fmod_eq_emod_of_nonneg _ (by omega)]
  exact ⟨Int.emod_nonneg _ (by omega), Int.emod_lt_of_pos _ h⟩
theorem fdiv_pos {a m : Int} (h : 0 < m) (ha : 0 ≤ a) : 0 ≤ a.fdiv m := by
  rw [Int.fdiv_eq_ediv_of_nonneg _ (by omega)]
  exact Int.ediv_nonneg ha (by omega)
theorem ok__law_take (W : Wd K mg) : Ok P w K mg base 1 (ga K "_law_take") ["state", "most"] sp__law_take := by
  refine W.ok 1 rfl rfl rfl sc__law_take (fun vs H Q E h => ?_) (fun _ _ _ _ _ _ us hl => match us, hl with | [_, _], _ => rfl) (fun cdv A outer s H vs Q E hr h => ?_)
  · obtain ⟨st, cl, m, rfl, _⟩ := h
    rfl
  · obtain ⟨st, cl, m, rfl, ⟨i, cells, i0, h1, h2, hne, hlen, pos⟩, m0, m1, k⟩ := h
    have hu := hu_of hr
    have hv := hv_of hr
    refine ⟨_, (pss_cons (ps_set (i := 2) sc__law_take.nd rfl (Or.inl rfl) (pe_ix (ix_seqK (K := K) rfl) (pv 0) pe_int (fun _ _ => rfl)))
      (pss_cons (ps_set (i := 3) sc__law_take.nd rfl (Or.inl rfl) (pe_op op_modN (pe_ix (ix_seqK (K := K) rfl) (pv 0) pe_int (fun _ _ => rfl)) (pe_callB (cr_lenK (K := K) rfl) (by rfl) (f_free_len W) PySem.boot_len (pa_cons (pv 2) pa_nil))))
      (pss_cons (ps_set (i := 4) sc__law_take.nd rfl (Or.inl rfl) (pe_ix (ix_seqK (K := K) rfl) (pv 2) (pv 3) (fun _ _ => rfl)))
      (pss_cons (ps_if (pt_cmpR op_ge (pv 4) pe_int (nomark _))
        (pss_cons (ps_asg (pe_op op_fdivN (pv 4) (pv 1)) (pg_sub (pv 2) (pv 3) set_list))
        (pss_one (ps_ret (pe_op op_modN (pv 4) (pv 1)))))
        pss_nil)
      (pss_cons (ps_asg (pe_op (op_addK (K := K) rfl) (pe_ix (ix_seqK (K := K) rfl) (pv 0) pe_int (fun _ _ => rfl)) pe_int) (pg_sub (pv 0) pe_int set_list))
      (pss_cons (ps_set (i := 5) sc__law_take.nd rfl (Or.inl rfl) (pe_op op_modN (pe_callTy cr_int1 (by rfl) (f_free_int W) (by decide +kernel) (pa_cons (pe_op (op_addK (K := K) rfl) (pe_op op_mulA (pv 4) pe_int) (pe_op op_mulA (pe_ix (ix_seqK (K := K) rfl) (pv 0) pe_int (fun _ _ => rfl)) pe_int)) pa_nil)) pe_int))
      (pss_cons (ps_set (i := 5) sc__law_take.nd rfl (Or.inl rfl) (pe_op op_modN (pe_callTy cr_int1 (by rfl) (f_free_int W) (by decide +kernel) (pa_cons (pe_op (op_addK (K := K) rfl) (pe_op op_mulA (pv 5) pe_int) (pe_op op_mulA (pe_ix (ix_seqK (K := K) rfl) (pv 0) pe_int (fun _ _ => rfl)) pe_int)) pa_nil)) pe_int))
      (pss_one (ps_ret (pe_op op_modN (pe_op op_fdivN (pv 5) pe_int) (pv 1))))))))))), ?_⟩
    try dsimp only [cxK, cxW, cxP]
    show (_ : TS) _ [some (.ref st), some (.int m), none, none, none, none] H
    have c0 : 0 < cells.length := by cases cells with | nil => exact absurd rfl hne | cons a b => simp
    have nsc : st ≠ cl := fun e => by
      rw [e, h2] at h1
      have h3 := Option.some.inj h1
      injection h3 with h4
      cases cells with
      | nil => cases h4
      | cons a r => cases r with
        | nil => cases h4
        | cons b r => simp at h4
    walk_at "rd"
    refine rd_ixL (SqL.of h1) (at_of (j := 1) rfl rfl) ?_
    walk_at "rd"
    refine rd_ixL (SqL.of h1) (at_of (j := 0) rfl rfl) ?_
    walk_at "rd"
    rw [List.length_map]
    have hn0 : (cells.length : Int) ≠ 0 := by omega
    walk_at "rd"
    obtain ⟨f0, f1⟩ := fmod_in (a := i) (m := (cells.length : Int)) (by omega)
    generalize i.fmod (cells.length : Int) = at1 at f0 f1 ⊢
    have hj : at1.toNat < cells.length := by omega
    have hc : cells[at1.toNat]? = some cells[at1.toNat] := List.getElem?_eq_getElem hj
    have cpos : 0 ≤ cells[at1.toNat] := pos _ (List.getElem_mem hj)
    have hix : ixN (cells.map V.int).length at1 = some at1.toNat := by
      unfold ixN
      rw [if_pos f0, if_pos (by rw [List.length_map]; exact f1)]
    walk_at "rd"
    refine rd_ixL (SqL.of h2) (at_of (j := at1.toNat) (by omega) (by rw [List.getElem?_map, hc]; rfl)) ?_
    generalize cells[at1.toNat] = cell at hc cpos ⊢
    walk_at "rd"
    refine rd_dec (fun hb => ?_) (fun hb => ?_)
    · walk_at "rd"
      refine rd_setL h2 hix fun H1 w1 => ?_
      walk_at "rd"
      obtain ⟨v0, v1⟩ := fmod_in (a := cell) (m := m) m0
      refine k _ H1 v0 v1 ⟨i, cells.set at1.toNat (cell.fdiv m), i0, w1.keep h1 nsc, by rw [w1.at_, List.map_set], by intro z; apply hne; have := congrArg List.length z; rw [List.length_set] at this; exact List.length_eq_zero_iff.mp this, by rw [List.length_set]; exact hlen, fun c hcm => ?_⟩ fun b hb1 hb2 => w1.ne b hb2
      rcases List.mem_or_eq_of_mem_set hcm with z | z
      · exact pos c z
      · rw [z]; exact fdiv_pos m0 cpos
    · walk_at "rd"
      refine rd_ixL (SqL.of h1) (at_of (j := 0) rfl rfl) ?_
      walk_at "rd"
      refine rd_setL (j := 0) h1 rfl fun H1 w1 => ?_
      have h1' : H1 st = some (.lst [.int (i + 1), .ref cl]) := w1.at_
      have h2' : H1 cl = some (.lst (cells.map V.int)) := w1.keep h2 nsc.symm
      walk_at "rd"
      refine rd_ixL (SqL.of h1') (at_of (j := 0) rfl rfl) ?_
      walk_at "rd"
      refine rd_ixL (SqL.of h1') (at_of (j := 0) rfl rfl) ?_
      walk_at "rd"
      obtain ⟨v0, v1⟩ := fmod_in (a := Int.fdiv (Int.fmod (Int.fmod (cell * 48271 + (i + 1) * 69621) 2147483647 * 16807 + (i + 1) * 7919) 1000000007) 7) (m := m) m0
      exact k _ H1 v0 v1 ⟨i + 1, cells, by omega, h1', h2', hne, hlen, pos⟩ fun b hb1 hb2 => w1.ne b hb1
end
end K51
namespace K51
open PySem PySem.Spec PyProof.Rows L2 He Sb Dsk
section
variable {P : Program} {w : World} {K : PySem.W.Frag} {mg : Str → Option Value} {base : Heap}
/-! ### _law_crashed -/
def sp__law_crashed : Sp := fun vs H Q _ => ∃ (ds wl rl : Addr) (kvs : List (Key × V)) (ws rs : List V) (sec wait : List (Int × List Int)) (rows : List (Int × Int)) (F : Hp),
  vs = [.ref ds, .ref wl, .ref rl] ∧ H ds = some (.dK kvs) ∧ Same F H ∧ F ds = none ∧ Paired (SecR F) kvs sec ∧ H wl = some (.lst ws) ∧ Paired (WaitR F) ws wait ∧ H rl = some (.lst rs) ∧ Paired (RowR H) rs rows ∧
  (∀ r ∈ sec, r.2.length = 16) ∧ (∀ r ∈ wait, r.2.length = 16) ∧ sec.length ≤ 100000 ∧ wait.length ≤ 4000 ∧ (nums wait).length < 64 ∧
  ∀ kvs' H', H' ds = some (.dK kvs') → Paired (SecR (Fn H F H')) kvs' (crashS sec wait rows) → (∀ b o, H b = some o → b ≠ ds → H' b = some o) → Q .non H'
theorem sc__law_crashed : FnScope ["sectors", "waiting", "rows", "numbers", "k", "which", "size", "writes", "number", "content"] ["sectors", "waiting", "rows"] (defScope s__law_crashed) := ⟨rfl, rfl, rfl, by decide +kernel, rfl, by decide +kernel, by decide +kernel⟩
theorem ok__law_crashed (W : Wd K mg) : Ok P w K mg base 1 (ga K "_law_crashed") ["sectors", "waiting", "rows"] sp__law_crashed := by
  refine W.ok 2 rfl rfl rfl sc__law_crashed (fun vs H Q E h => ?_) (fun _ _ _ _ _ _ us hl => match us, hl with | [_, _, _], _ => rfl) (fun cdv A outer s H vs Q E hr h => ?_)
  · obtain ⟨ds, wl, rl, kvs, ws, rs, sec, wait, rows, F, rfl, _⟩ := h
    rfl
  · obtain ⟨d, wl, rl, kvs, ws, rs, sec, wait, rows, F, rfl, dk, fs, fd, prs, dkw, prw, hc, hrows, fs16, fw16, fsl, fwl, fnl, k⟩ := h
    have hu := hu_of hr
    have hv := hv_of hr
    have wlen : ws.length = wait.length := prw.length
    refine ⟨_, (pss_cons (ps_set (i := 3) sc__law_crashed.nd rfl (Or.inr rfl) (pe_callB (cr_sortedSet rfl) (by rfl) (f_free_sorted W) (by decide +kernel) (pa_cons (pe_callTy (cr_setI rfl) (by rfl) (f_free_set W) (by decide +kernel) (pa_cons (pe_lc (own := [("number", 8), ("content", 9)]) rfl sc__law_crashed.nd (pi_list (pv 1)) (blkOk_by (own := [("number", 8), ("content", 9)]) (N := ["sectors", "waiting", "rows", "numbers", "k", "which", "size", "writes", "number", "content"]) (sc := defScope s__law_crashed) (by decide +kernel)) (fun _ _ _ _ _ => (pg_tupK (K := K) 2 rfl rfl (pgs_cons (pg_name (i := 8) sc__law_crashed.nd rfl (Or.inl rfl) (Or.inr rfl)) (pgs_cons (pg_name (i := 9) sc__law_crashed.nd rfl (Or.inl rfl) (Or.inr rfl)) pgs_nil)))) (fun _ _ _ _ _ => pts_nil) (fun _ _ _ _ _ => (pv 8))) pa_nil)) pa_nil)))
      (pss_one (ps_for PassesOwn.never rfl (pi_range1 rfl (f_free_range W) (pa_cons (pe_callB (cr_min2 rfl) (by rfl) (f_free_min W) (by decide +kernel) (pa_cons (pe_callB (cr_lenK (K := K) rfl) (by rfl) (f_free_len W) PySem.boot_len (pa_cons (pv 2) pa_nil)) (pa_cons (pe_callB (cr_lenK (K := K) rfl) (by rfl) (f_free_len W) PySem.boot_len (pa_cons (pv 3) pa_nil)) pa_nil))) pa_nil)) (pg_name (i := 4) sc__law_crashed.nd rfl (Or.inr rfl) (Or.inl rfl))
        (pss_cons (ps_asg (pe_ix (ix_seqK (K := K) rfl) (pv 2) (pv 4) (fun _ _ => rfl)) (pg_tupK (K := K) 2 rfl rfl (pgs_cons (pg_name (i := 5) sc__law_crashed.nd rfl (Or.inl rfl) (Or.inl rfl)) (pgs_cons (pg_name (i := 6) sc__law_crashed.nd rfl (Or.inl rfl) (Or.inl rfl)) pgs_nil))))
        (pss_cons (ps_setLc (i := 7) (own := [("number", 8), ("content", 9)]) rfl sc__law_crashed.nd rfl rfl (sw_true rfl rfl rfl (by decide +kernel)) (pi_list (pv 1)) (blkOk_by (own := [("number", 8), ("content", 9)]) (N := ["sectors", "waiting", "rows", "numbers", "k", "which", "size", "writes", "number", "content"]) (sc := defScope s__law_crashed) (by decide +kernel)) (fun _ _ _ _ _ => (pg_tupK (K := K) 2 rfl rfl (pgs_cons (pg_name (i := 8) sc__law_crashed.nd rfl (Or.inl rfl) (Or.inr rfl)) (pgs_cons (pg_name (i := 9) sc__law_crashed.nd rfl (Or.inl rfl) (Or.inr rfl)) pgs_nil)))) (fun _ _ _ _ _ => (pts_one (pt_cmpR (op_eqK (K := K) rfl hv) (pv 8) (pe_ix (ix_seqK (K := K) rfl) (pv 3) (pv 4) (fun _ _ => rfl)) (nomark _)))) (fun _ _ _ _ _ => (pv 9)))
        (pss_one (ps_if (pt_chain op_le op_lt pe_int (pv 5) (pe_callB (cr_lenK (K := K) rfl) (by rfl) (f_free_len W) PySem.boot_len (pa_cons (pv 7) pa_nil)))
          (pss_cons (ps_set (i := 6) sc__law_crashed.nd rfl (Or.inl rfl) (pe_callB (cr_min2 rfl) (by rfl) (f_free_min W) (by decide +kernel) (pa_cons pe_int (pa_cons (pe_callB (cr_max2 rfl) (by rfl) (f_free_max W) (by decide +kernel) (pa_cons pe_int (pa_cons (pv 6) pa_nil))) pa_nil))))
          (pss_one (ps_dput hu (pv 0) (pe_ix (ix_seqK (K := K) rfl) (pv 3) (pv 4) (fun _ _ => rfl)) (pe_op (op_addK (K := K) rfl) (pe_slice (sl_listK (K := K) rfl) (pe_ix (ix_seqK (K := K) rfl) (pv 7) (pv 5) (fun _ _ => rfl)) po_none (po_some (pv 6))) (pe_slice (sl_listK (K := K) rfl) (pe_dget2 hu (pv 0) (pe_ix (ix_seqK (K := K) rfl) (pv 3) (pv 4) (fun _ _ => rfl)) (pe_op op_mulA (pe_lst (pa_cons pe_int pa_nil)) pe_int) ⟨rfl, rfl, rfl, rfl⟩) (po_some (pv 6)) po_none)) rfl)))
          pss_nil))))))), ?_⟩
    try dsimp only [cxK, cxW, cxP]
    show (_ : TS) _ [some (.ref d), some (.ref wl), some (.ref rl), none, none, none, none, none, none, none] H
    walk_at "rd"
    refine rd_klcL (by walk_at "wp") (SqL.of dkw) fun L1 H1 n1 => ⟨fun i Hc => Hc L1 = some (.lst (((wait.take i).map (·.1)).map V.int)) ∧ Same H Hc, ⟨n1.at_, n1.same⟩, fun i Hc _ h => SqL.of (h.2 _ _ dkw), fun i x Hc hx h => ?_, fun Hc h => ?_⟩
    · obtain ⟨hl, sc⟩ := h
      obtain ⟨q, hq, t, cc, rfl, et, ic⟩ := pget prw hx
      have et1 : Hc t = _ := sc _ _ (fs _ _ et)
      walk_at "rd"
      refine rd_kacc hl (by rw [List.length_map, List.length_map, List.length_take]; omega) fun H5 w5 => ⟨?_, fun b o e => w5.keep (sc b o e) (ne_of_none e n1.nw)⟩
      rw [w5.at_, take_snoc hq]
      simp
    · obtain ⟨hl, sc⟩ := h
      rw [wlen, List.take_length] at hl
      walk_at "rd"
      refine rd_setI (SqL.of hl) (by rw [List.length_map]; exact fwl) fun S1 n H2 hn n2 => ?_
      walk_at "rd"
      have hn64 : n < 64 := by
        rw [← hn (nums wait) (sorted_nodup (nums_sorted _)) (nums_mem wait)]
        exact fnl
      refine rd_sortSet n2.at_ hn64 fun ns LN H3 hs hm n3 => ?_
      obtain rfl : ns = nums wait := sorted_unique hs (nums_sorted _) fun z => by
        rw [hm, nums_mem]
        simp
      have s3 : Same H H3 := (sc.trans n2.same).trans n3.same
      have hc3 : H3 rl = _ := s3 _ _ hc
      have hln3 := n3.at_
      walk_at "rd"
      have lenR : rs.length = rows.length := hrows.length
      have ne_d : ∀ {b : Addr} {o : HO}, H b = some o → (∀ q, o ≠ .dK q) → b ≠ d := fun e h => ne_of e dk (by intro z; exact h _ z)
      have lnd : LN ≠ d := ne_of n3.at_ (s3 _ _ dk) (by intro z; cases z)
      refine rd_kforR (n := min rows.length (nums wait).length) (by rw [List.length_map, lenR]; omega) (by omega) (fun i σ Hc => ∃ x4 x5 x6 x7 x8 x9 kvs' sec', σ = [some (.ref d), some (.ref wl), some (.ref rl), some (.ref LN), x4, x5, x6, x7, x8, x9] ∧ Hc d = some (.dK kvs') ∧
        (∀ b o, H3 b = some o → b ≠ d → Hc b = some o) ∧ Paired (SecR (Fn H F Hc)) kvs' sec' ∧ sec' = ((rows.zip (nums wait)).take i).foldl (crash1 wait) sec ∧ (∀ r ∈ sec', r.2.length = 16) ∧ sec'.length ≤ sec.length + i)
        ⟨none, none, none, none, none, none, kvs, sec, rfl, s3 _ _ dk, fun b o e _ => e, pmono prs fun _ _ z => z.mono (fn_old fs), rfl, fs16, Nat.le_refl _⟩ (fun i σ Hc hi h => ?_) (fun σ Hc h => ?_)
      · obtain ⟨x4, x5, x6, x7, x8, x9, kvs', sec', rfl, dc, kc, pr, es, s16, sl⟩ := h
        have hi1 : i < rows.length := by omega
        have hi2 : i < (nums wait).length := by omega
        obtain ⟨row, hrow⟩ : ∃ row, rows[i]? = some row := ⟨_, List.getElem?_eq_getElem hi1⟩
        obtain ⟨m, hm⟩ : ∃ m, (nums wait)[i]? = some m := ⟨_, List.getElem?_eq_getElem hi2⟩
        obtain ⟨xr, hxr, tq, rfl, etq⟩ := pgetR hrows hrow
        have e4 : ∀ b o, H b = some o → b ≠ d → Hc b = some o := fun b o e nb => kc b o (s3 b o e) nb
        have etq4 : Hc tq = _ := e4 _ _ etq (ne_d etq (by intro q z; cases z))
        have wl4 : Hc wl = _ := e4 _ _ dkw (ne_d dkw (by intro q z; cases z))
        have rl4 : Hc rl = _ := e4 _ _ hc (ne_d hc (by intro q z; cases z))
        have ln4 : Hc LN = _ := kc _ _ n3.at_ lnd
        have i4 : ∀ b ns, IL F b ns → Hc b = some (.lst (ns.map V.int)) := fun b ns e => e4 _ _ (fs _ _ e) (ne_d (fs _ _ e) (by intro q z; cases z))
        have atN : atI ((nums wait).map V.int) (i : Int) = some (.int m) := at_of (j := i) rfl (by rw [List.getElem?_map, hm]; rfl)
        walk_at "rd"
        refine rd_ixL (SqL.of rl4) (at_of (j := i) rfl hxr) ?_
        walk_at "rd"
        refine rd_klcL (by walk_at "wp") (SqL.of wl4) fun L3 H5 n5 => ⟨fun j Hd => (∃ acc, Hd L3 = some (.lst acc) ∧ acc.length ≤ j ∧ Paired (fun v ct => ∃ a, v = V.ref a ∧ IL F a ct) acc (ofNum (wait.take j) m)) ∧ Same Hc Hd, ⟨⟨[], n5.at_, Nat.le_refl _, .nil⟩, n5.same⟩, fun j Hd _ h => SqL.of (h.2 _ _ wl4), fun j x Hd hx h => ?_, fun Hd h => ?_⟩
        · obtain ⟨⟨acc, hl, la, pa⟩, sd⟩ := h
          obtain ⟨q, hq, u, cc, rfl, eu, ic⟩ := pget prw hx
          have eu1 : Hd u = _ := sd _ _ (e4 _ _ (fs _ _ eu) (ne_d (fs _ _ eu) (by intro q z; cases z)))
          have jl : j < ws.length := (List.getElem?_eq_some_iff.mp hx).1
          have e0 : ofNum (wait.take (j + 1)) m = ofNum (wait.take j) m ++ if q.1 = m then [q.2] else [] := by
            unfold ofNum
            rw [take_snoc hq, List.filter_append, List.map_append]
            congr 1
            by_cases z : q.1 = m <;> simp [z]
          walk_at "rd"
          refine rd_ixL (SqL.of (sd _ _ ln4)) atN ?_
          walk_at "rd"
          refine rd_dec (fun e => ?_) (fun e => ?_)
          · walk_at "rd"
            refine rd_kacc hl (by omega) fun H6 w6 => ⟨⟨_, w6.at_, by rw [List.length_append]; simp; omega, ?_⟩, fun b o e => w6.keep (sd b o e) (ne_of_none e n5.nw)⟩
            rw [e0, if_pos e]
            exact pa.snoc ⟨cc, rfl, ic⟩
          · refine ⟨⟨acc, hl, by omega, ?_⟩, sd⟩
            rw [e0, if_neg e, List.append_nil]
            exact pa
        · obtain ⟨⟨acc, hl, la, pa⟩, sd⟩ := h
          rw [wlen, List.take_length] at pa
          have lacc : acc.length = (ofNum wait m).length := pa.length
          have es2 : ((rows.zip (nums wait)).take (i + 1)).foldl (crash1 wait) sec = crash1 wait sec' (row, m) := by
            have ez : (rows.zip (nums wait))[i]? = some (row, m) := by rw [List.getElem?_zip_eq_some]; exact ⟨hrow, hm⟩
            rw [take_snoc ez, List.foldl_append, ← es]
            rfl
          have again : crash1 wait sec' (row, m) = sec' → ∀ x4 x5 x6 x7 x8 x9, ∃ x4' x5' x6' x7' x8' x9' kvs'' sec'', ([some (.ref d), some (.ref wl), some (.ref rl), some (.ref LN), x4, x5, x6, x7, x8, x9] : L2.St) = [some (.ref d), some (.ref wl), some (.ref rl), some (.ref LN), x4', x5', x6', x7', x8', x9'] ∧ Hd d = some (.dK kvs'') ∧
              (∀ b o, H3 b = some o → b ≠ d → Hd b = some o) ∧ Paired (SecR (Fn H F Hd)) kvs'' sec'' ∧ sec'' = ((rows.zip (nums wait)).take (i + 1)).foldl (crash1 wait) sec ∧ (∀ r ∈ sec'', r.2.length = 16) ∧ sec''.length ≤ sec.length + (i + 1) := fun e x4 x5 x6 x7 x8 x9 =>
            ⟨_, _, _, _, _, _, kvs', sec', rfl, sd _ _ dc, fun b o h1 h2 => sd _ _ (kc b o h1 h2), pmono pr fun _ _ z => z.mono (fn_step fs fun b o _ h2 => sd _ _ h2), by rw [es2, e], s16, by omega⟩
          walk_at "rd"
          refine rd_dec (fun h0 => ?_) (fun h0 => ?_)
          · walk_at "rd"
            refine rd_dec (fun h1 => ?_) (fun h1 => ?_)
            · walk_at "rd"
              have hj : row.1.toNat < acc.length := by omega
              obtain ⟨c1, hc1, a1, ea1, ia1⟩ := pget pa (List.getElem?_eq_getElem hj)
              have hcap : min 16 (max 0 row.2) = ((cap row.2 : Nat) : Int) := by unfold cap; omega
              have len16 : sec'.length = kvs'.length := pr.length.symm
              refine rd_ixL (SqL.of hl) (at_of (j := row.1.toNat) (by omega) (List.getElem?_eq_getElem hj)) ?_
              rw [ea1]
              have ia1d : Hd a1 = _ := sd _ _ (i4 _ _ ia1)
              have dcd : Hd d = _ := sd _ _ dc
              have lnd4 : Hd LN = _ := sd _ _ ln4
              walk_at "rd"
              refine rd_slL (SqL.of ia1d) fun q1 H6 n6 => ?_
              rw [hcap, cut_take (α := Unit)] at n6
              have dc6 : H6 d = _ := n6.keep dcd
              have pr6 : Paired (SecR (Fn H F H6)) kvs' sec' := pmono pr fun _ _ z => z.mono (fn_step fs fun b o _ h2 => n6.keep (sd _ _ h2))
              walk_at "rd"
              refine rd_ixL (SqL.of (n6.keep lnd4)) atN ?_
              walk_at "rd"
              intro p0 H7 n7
              walk_at "rd"
              refine rd_rep n7.at_ (by decide) (by decide) (by decide) fun p2 H8 n8 => ?_
              rw [blank_v] at n8
              have dc8 : H8 d = _ := n8.keep (n7.keep dc6)
              walk_at "rd"
              have fnH8 : Same (Fn H F H6) H8 := fun b o e => by
                rcases fn_get e with ⟨_, z⟩ | z
                · exact n8.keep (n7.keep z)
                · exact n8.keep (n7.keep (n6.keep (sd _ _ (e4 _ _ (fs _ _ z) fun zz => by rw [zz, fd] at z; cases z))))
              obtain ⟨a7, va7, ia7⟩ : ∃ a7, (valV kvs' (Sum.inl m)).getD (.ref p2) = .ref a7 ∧ H8 a7 = some (.lst ((getS sec' m).map V.int)) := by
                rcases sec_look pr6 m with ⟨e1, e2⟩ | ⟨a, c, e1, e2, i⟩
                · refine ⟨p2, by rw [e2]; rfl, ?_⟩
                  have e3 : getS sec' m = blank := by unfold getS; rw [e1]; rfl
                  rw [e3]; exact n8.at_
                · refine ⟨a, by rw [e2]; rfl, ?_⟩
                  have e3 : getS sec' m = c := by unfold getS; rw [e1]; rfl
                  rw [e3]; exact fnH8 _ _ i
              rw [va7]
              refine rd_slL (SqL.of ia7) fun q2 H9 n9 => ?_
              rw [hcap, cut_drop (α := Unit)] at n9
              have hq1 : H9 q1 = _ := n9.keep (n8.keep (n7.keep n6.at_))
              have l1 : c1.length = 16 := by
                have hm2 : c1 ∈ ofNum wait m := List.mem_of_getElem? hc1
                unfold ofNum at hm2
                obtain ⟨z, hz, e⟩ := List.mem_map.mp hm2
                rw [← e]
                exact fw16 z (List.mem_filter.mp hz).1
              have l2 : (getS sec' m).length = 16 := by
                unfold getS
                cases e : look sec' m with
                | none => rfl
                | some ct => exact s16 _ (look_some e)
              refine rd_addL hq1 n9.at_ (by rw [List.length_take, List.length_drop, List.length_map, List.length_map, l1, l2, sizeLine_eq]; omega) fun q3 H10 n10 => ?_
              rw [← List.map_take, ← List.map_drop, ← List.map_append] at n10
              have dc10 : H10 d = _ := n10.keep (n9.keep dc8)
              have s49 : ∀ b o, Hc b = some o → H10 b = some o := fun b o e => n10.keep (n9.keep (n8.keep (n7.keep (n6.keep (sd _ _ e)))))
              walk_at "rd"
              refine rd_ixL (SqL.of (s49 _ _ ln4)) atN ?_
              refine rd_dpo dc10 (by rw [← len16, sizeLine_eq]; omega) fun H11 w11 => ?_
              walk_at "rd"
              have nq3 : H q3 = none := by
                have z4 : Hc q3 = none := sd.free (n6.free (n7.free (n8.free (n9.free n10.nw))))
                cases z : H q3 with
                | none => rfl
                | some o =>
                  by_cases zd : q3 = d
                  · rw [zd, dc] at z4; cases z4
                  · rw [e4 _ _ z zd] at z4; cases z4
              have q3d : q3 ≠ d := fun z => by rw [z, dk] at nq3; cases nq3
              have ecr : crash1 wait sec' (row, m) = putS sec' m (c1.take (cap row.2) ++ (getS sec' m).drop (cap row.2)) := by
                unfold crash1
                rw [if_pos ⟨h0, by rw [← lacc]; exact h1⟩]
                show putS sec' m (List.take _ ((ofNum wait m).getD row.1.toNat []) ++ _) = _
                rw [List.getD_eq_getElem?_getD, hc1]
                rfl
              have st11 : Same (Fn H F Hc) (Fn H F H11) := fn_step fs fun b o hn h2 => w11.keep (s49 _ _ h2) fun z => by rw [z, dk] at hn; cases hn
              refine ⟨_, _, _, _, _, _, _, crash1 wait sec' (row, m), rfl, w11.at_, fun b o h1 h2 => w11.keep (s49 _ _ (kc b o h1 h2)) h2, ?_, es2.symm, crash1_fine fw16 s16, by have := crash1_len wait sec' (row, m); omega⟩
              rw [ecr]
              exact sec_put (fn_new nq3 (w11.keep n10.at_ q3d)) (pmono pr fun _ _ z => z.mono st11)
            · walk_at "rd"
              exact again (by unfold crash1; rw [if_neg]; intro z; have := z.2; rw [← lacc] at this; exact h1 this) _ _ _ _ _ _
          · walk_at "rd"
            refine iteF ?_
            walk_at "rd"
            exact again (by unfold crash1; rw [if_neg]; intro z; exact h0 z.1) _ _ _ _ _ _
      · obtain ⟨x4, x5, x6, x7, x8, x9, kvs', sec', rfl, dc, kc, pr, es, s16, sl⟩ := h
        have full : sec' = crashS sec wait rows := by
          rw [es]
          unfold crashS
          rw [List.take_of_length_le (by rw [List.length_zip]; exact Nat.le_refl _)]
        walk_at "rd"
        rw [full] at pr
        exact k kvs' Hc dc pr fun b o e nb => kc b o (s3 b o e) nb
end
end K51
namespace K51
open PySem PySem.Spec PyProof.Rows L2 He Sb Dsk
/-! ### the law's plain invariant -/
structure DI (i : Nat) (D : Dk) : Prop where
  s16 : ∀ r ∈ D.sec, r.2.length = 16
  w16 : ∀ r ∈ D.wait, r.2.length = 16
  nd : (D.sec.map (·.1)).Nodup
  sk : ∀ r ∈ D.sec, 0 ≤ r.1 ∧ r.1 < 4
  wk : ∀ r ∈ D.wait, 0 ≤ r.1 ∧ r.1 < 4
  wl : D.wait.length ≤ i
  rl : D.rows.length ≤ 4
  lf : D.cut = false → ∀ l, D.left = some l → 1 ≤ l
theorem sorted_few : ∀ (l : List Int) (a n : Int), l.Pairwise (· < ·) → (∀ x ∈ l, a ≤ x ∧ x < n) → (l.length : Int) ≤ max 0 (n - a)
  | [], a, n, _, _ => by simp only [List.length_nil]; omega
  | x :: r, a, n, h, hb => by
    have h' := List.pairwise_cons.mp h
    have hx := hb x List.mem_cons_self
    have ih := sorted_few r (x + 1) n h'.2 fun y hy => by
      have := h'.1 y hy
      have := hb y (List.mem_cons_of_mem _ hy)
      omega
    simp only [List.length_cons]
    omega
theorem nums_few {l : List (Int × List Int)} (h : ∀ r ∈ l, 0 ≤ r.1 ∧ r.1 < 4) : (nums l).length ≤ 4 := by
  have := sorted_few (nums l) 0 4 (nums_sorted l) fun x hx => by
    obtain ⟨r, hr, e⟩ := List.mem_map.mp ((nums_mem l x).mp hx)
    rw [← e]; exact h r hr
  omega
theorem sec_few {l : List (Int × List Int)} (nd : (l.map (·.1)).Nodup) (h : ∀ r ∈ l, 0 ≤ r.1 ∧ r.1 < 4) : l.length ≤ 4 := by
  have p : (nums l).Perm (l.map (·.1)) := (List.perm_ext_iff_of_nodup (sorted_nodup (nums_sorted l)) nd).mpr fun k => nums_mem l k
  have e := p.length_eq
  rw [List.length_map] at e
  have := nums_few h
  omega
theorem DI.fine {i : Nat} {D : Dk} (d : DI i D) (hi : i ≤ 4000) : Fine D := by
  have h1 := nums_few d.wk
  have h2 := sec_few d.nd d.sk
  exact ⟨d.s16, d.w16, d.nd, by omega, by have := d.wl; omega, by omega, by omega, by have := d.rl; omega⟩
theorem DI.mono {i j : Nat} {D : Dk} (d : DI i D) (h : i ≤ j) : DI j D := ⟨d.s16, d.w16, d.nd, d.sk, d.wk, Nat.le_trans d.wl h, d.rl, d.lf⟩
theorem crash1_in {wait sec : List (Int × List Int)} {q : (Int × Int) × Int} (hq : 0 ≤ q.2 ∧ q.2 < 4) (hs : ∀ r ∈ sec, 0 ≤ r.1 ∧ r.1 < 4) : ∀ r ∈ crash1 wait sec q, 0 ≤ r.1 ∧ r.1 < 4 := by
  unfold crash1
  split
  · intro r hr
    rcases putS_mem hr with z | z
    · exact hs r z
    · rw [z]; exact hq
  · exact hs
theorem crashS_di {sec wait : List (Int × List Int)} {rows : List (Int × Int)} (h1 : ∀ r ∈ sec, r.2.length = 16) (hw : ∀ r ∈ wait, r.2.length = 16) (h2 : (sec.map (·.1)).Nodup) (h3 : ∀ r ∈ sec, 0 ≤ r.1 ∧ r.1 < 4) (h4 : ∀ r ∈ wait, 0 ≤ r.1 ∧ r.1 < 4) :
    (∀ r ∈ crashS sec wait rows, r.2.length = 16) ∧ ((crashS sec wait rows).map (·.1)).Nodup ∧ ∀ r ∈ crashS sec wait rows, 0 ≤ r.1 ∧ r.1 < 4 := by
  unfold crashS
  have hz : ∀ q ∈ rows.zip (nums wait), 0 ≤ q.2 ∧ q.2 < 4 := fun q hq => by
    obtain ⟨r, hr, e⟩ := List.mem_map.mp ((nums_mem wait q.2).mp (List.of_mem_zip hq).2)
    rw [← e]; exact h4 r hr
  revert hz
  generalize rows.zip (nums wait) = l
  intro hz
  induction l generalizing sec with
  | nil => exact ⟨h1, h2, h3⟩
  | cons q l ih => exact ih (crash1_fine hw h1) (crash1_keys h2) (crash1_in (hz q List.mem_cons_self) h3) fun x hx => hz x (List.mem_cons_of_mem _ hx)
theorem syncS_di {wait : List (Int × List Int)} : ∀ {sec : List (Int × List Int)}, (∀ r ∈ sec, r.2.length = 16) → (∀ r ∈ wait, r.2.length = 16) → (sec.map (·.1)).Nodup → (∀ r ∈ sec, 0 ≤ r.1 ∧ r.1 < 4) → (∀ r ∈ wait, 0 ≤ r.1 ∧ r.1 < 4) →
    (∀ r ∈ syncS sec wait, r.2.length = 16) ∧ ((syncS sec wait).map (·.1)).Nodup ∧ ∀ r ∈ syncS sec wait, 0 ≤ r.1 ∧ r.1 < 4 := by
  unfold syncS
  induction wait with
  | nil => intro sec h1 _ h2 h3 _; exact ⟨h1, h2, h3⟩
  | cons q l ih =>
    intro sec h1 hw h2 h3 h4
    refine ih (fun r hr => ?_) (fun r hr => hw r (List.mem_cons_of_mem _ hr)) (putS_keys h2) (fun r hr => ?_) fun r hr => h4 r (List.mem_cons_of_mem _ hr)
    · rcases putS_mem hr with z | z
      · exact h1 r z
      · rw [z]; exact hw q List.mem_cons_self
    · rcases putS_mem hr with z | z
      · exact h3 r z
      · rw [z]; exact h4 q List.mem_cons_self
theorem DI.crash {i : Nat} {D : Dk} (d : DI i D) (rows : List (Int × Int)) : DI i (D.crash rows) := by
  obtain ⟨a, b, c⟩ := crashS_di (rows := rows) d.s16 d.w16 d.nd d.sk d.wk
  exact ⟨a, (fun r h => by cases h), b, c, (fun r h => by cases h), Nat.zero_le _, d.rl, d.lf⟩
theorem DI.counts {i : Nat} {D : Dk} (d : DI i D) : DI i D.counts := by
  unfold Dk.counts
  split
  · exact d
  · rename_i l hl
    split
    · exact d
    · rename_i hc
      have hc : D.cut = false := by simpa using hc
      split
      · obtain ⟨a, b, c⟩ := crashS_di (rows := D.rows) d.s16 d.w16 d.nd d.sk d.wk
        exact ⟨a, (fun r h => by cases h), b, c, (fun r h => by cases h), Nat.zero_le _, d.rl, fun h => by cases h⟩
      · refine ⟨d.s16, d.w16, d.nd, d.sk, d.wk, d.wl, d.rl, fun _ l' e => ?_⟩
        have e : l - 1 = l' := Option.some.inj e
        omega
theorem DI.write {i : Nat} {D : Dk} (d : DI i D) {n : Int} {c : List Int} (hn : 0 ≤ n ∧ n < 4) (hc : c.length = 16) : DI (i + 1) (D.write n c) := by
  have e := d.counts
  unfold Dk.write
  split
  · exact e.mono (Nat.le_succ _)
  · refine ⟨e.s16, fun r hr => ?_, e.nd, e.sk, fun r hr => ?_, ?_, e.rl, e.lf⟩
    · rcases List.mem_append.mp hr with z | z
      · exact e.w16 r z
      · rw [List.mem_singleton.mp z]; exact hc
    · rcases List.mem_append.mp hr with z | z
      · exact e.wk r z
      · rw [List.mem_singleton.mp z]; exact hn
    · show (D.counts.wait ++ [(n, c)]).length ≤ i + 1
      rw [List.length_append]
      have := e.wl
      simp; omega
theorem DI.sync {i : Nat} {D : Dk} (d : DI i D) : DI i D.sync := by
  have e := d.counts
  unfold Dk.sync
  split
  · exact e
  · obtain ⟨a, b, c⟩ := syncS_di e.s16 e.w16 e.nd e.sk e.wk
    exact ⟨a, (fun r h => by cases h), b, c, (fun r h => by cases h), Nat.zero_le _, e.rl, e.lf⟩
theorem DI.cutIn {i : Nat} {D : Dk} (d : DI i D) {m : Int} {rows : List (Int × Int)} (hm : 1 ≤ m) (hr : rows.length ≤ 4) : DI i (D.cutIn m rows) := by
  unfold Dk.cutIn
  split
  · exact d
  · exact ⟨d.s16, d.w16, d.nd, d.sk, d.wk, d.wl, hr, fun _ l e => by
      have e : m = l := Option.some.inj e
      omega⟩
/-! ### the law's places: the disk (G, D) and the law's own (FL, E) -/
structure LI (C : Addr) (H : Hp) (st cl p ds wl rl : Addr) (D E : Dk) (G FL : Hp) (kvs : List (Key × V)) (ws rs : List V) : Prop where
  dg : DiskAt C G p D
  sG : Same G H
  stt : StAt H st cl
  gst : G st = none
  gcl : G cl = none
  gds : G ds = none
  dsx : H ds = some (.dK kvs)
  fl : Same FL H
  fst : FL st = none
  fcl : FL cl = none
  fds : FL ds = none
  dj : ∀ b, FL b ≠ none → G b = none ∨ ∃ xs, H b = some (.tup xs)
  sec : Paired (SecR FL) kvs E.sec
  wlx : FL wl = some (.lst ws)
  wait : Paired (WaitR FL) ws E.wait
  rlx : FL rl = some (.lst rs)
  rows : Paired (RowR FL) rs E.rows
section
variable {C : Addr} {H H' : Hp} {st cl p ds wl rl : Addr} {D E : Dk} {G FL : Hp} {kvs : List (Key × V)} {ws rs : List V}
theorem StAt.lst {H : Hp} {st cl : Addr} (h : StAt H st cl) : (∃ x, H st = some (.lst x)) ∧ ∃ x, H cl = some (.lst x) := by
  obtain ⟨i, cells, _, h1, h2, _⟩ := h
  exact ⟨⟨_, h1⟩, ⟨_, h2⟩⟩
theorem LI.ds_st (x : LI C H st cl p ds wl rl D E G FL kvs ws rs) : ds ≠ st ∧ ds ≠ cl := by
  obtain ⟨⟨a, h1⟩, ⟨b, h2⟩⟩ := x.stt.lst
  exact ⟨ne_of x.dsx h1 (by intro z; cases z), ne_of x.dsx h2 (by intro z; cases z)⟩
/-- new objects alone -/
theorem LI.same (x : LI C H st cl p ds wl rl D E G FL kvs ws rs) (h : Same H H') : LI C H' st cl p ds wl rl D E G FL kvs ws rs :=
  ⟨x.dg, x.sG.trans h, x.stt.keep fun b o _ e => h b o e, x.gst, x.gcl, x.gds, h _ _ x.dsx, x.fl.trans h, x.fst, x.fcl, x.fds, fun b hb => (x.dj b hb).imp id fun ⟨xs, e⟩ => ⟨xs, h _ _ e⟩, x.sec, x.wlx, x.wait, x.rlx, x.rows⟩
/-- a draw -/
theorem LI.take (x : LI C H st cl p ds wl rl D E G FL kvs ws rs) (hs : StAt H' st cl) (h : ∀ b, b ≠ st → b ≠ cl → H' b = H b) : LI C H' st cl p ds wl rl D E G FL kvs ws rs := by
  obtain ⟨n1, n2⟩ := x.ds_st
  refine ⟨x.dg, fun b o e => ?_, hs, x.gst, x.gcl, x.gds, by rw [h ds n1 n2]; exact x.dsx, fun b o e => ?_, x.fst, x.fcl, x.fds, fun b hb => (x.dj b hb).imp id fun ⟨xs, e⟩ => ⟨xs, ?_⟩, x.sec, x.wlx, x.wait, x.rlx, x.rows⟩
  · rw [h b (fun z => by rw [z, x.gst] at e; cases e) (fun z => by rw [z, x.gcl] at e; cases e)]
    exact x.sG b o e
  · rw [h b (fun z => by rw [z, x.fst] at e; cases e) (fun z => by rw [z, x.fcl] at e; cases e)]
    exact x.fl b o e
  · rw [h b (fun z => by rw [z, x.fst] at hb; exact hb rfl) (fun z => by rw [z, x.fcl] at hb; exact hb rfl)]
    exact e
/-- the disk's step -/
theorem LI.step (x : LI C H st cl p ds wl rl D E G FL kvs ws rs) {G' : Hp} {D' : Dk} (hd : DiskAt C G' p D') (s : Step G H G' H') : LI C H' st cl p ds wl rl D' E G' FL kvs ws rs := by
  obtain ⟨⟨a, h1⟩, ⟨b, h2⟩⟩ := x.stt.lst
  have no : ∀ c o, H c = some o → (∀ xs, o ≠ .tup xs) → G c = none → G' c = none := fun c o e nt g => by
    cases q : G' c with
    | none => rfl
    | some u =>
      rcases s.new c (by rw [q]; intro z; cases z) with z | z | ⟨xs, z⟩
      · exact absurd g z
      · rw [z] at e; cases e
      · rw [z] at e; exact absurd (Option.some.inj e).symm (nt xs)
  refine ⟨hd, s.own, x.stt.keep fun c o hc e => s.keep c o e (by rcases hc with rfl | rfl; exact x.gst; exact x.gcl), no _ _ h1 (by intro xs z; cases z) x.gst, no _ _ h2 (by intro xs z; cases z) x.gcl, no _ _ x.dsx (by intro xs z; cases z) x.gds, s.keep _ _ x.dsx x.gds,
    fun c o e => ?_, x.fst, x.fcl, x.fds, fun c hc => ?_, x.sec, x.wlx, x.wait, x.rlx, x.rows⟩
  · have e2 := x.fl c o e
    rcases x.dj c (by rw [e]; intro z; cases z) with z | ⟨xs, z⟩
    · exact s.keep c o e2 z
    · rw [z] at e2
      rw [← Option.some.inj e2]
      exact s.tups c xs z
  · cases q : FL c with
    | none => exact absurd q hc
    | some o =>
      have e2 := x.fl c o q
      rcases x.dj c hc with z | ⟨xs, z⟩
      · by_cases nt : ∃ xs, o = .tup xs
        · obtain ⟨xs, rfl⟩ := nt
          exact .inr ⟨xs, s.tups c xs e2⟩
        · exact .inl (no c o e2 (fun xs e => nt ⟨xs, e⟩) z)
      · exact .inr ⟨xs, s.tups c xs z⟩
/-- the law's own things changed: FL' and E' -/
theorem LI.own (x : LI C H st cl p ds wl rl D E G FL kvs ws rs) {FL' : Hp} {E' : Dk} {kvs' : List (Key × V)} {wl' rl' : Addr} {ws' rs' : List V} (sG : Same G H') (stt : StAt H' st cl) (dsx : H' ds = some (.dK kvs')) (fl : Same FL' H') (f1 : FL' st = none) (f2 : FL' cl = none) (f3 : FL' ds = none)
    (dj : ∀ b, FL' b ≠ none → G b = none ∨ ∃ xs, H' b = some (.tup xs)) (sec : Paired (SecR FL') kvs' E'.sec) (wlx : FL' wl' = some (.lst ws')) (wait : Paired (WaitR FL') ws' E'.wait) (rlx : FL' rl' = some (.lst rs')) (rows : Paired (RowR FL') rs' E'.rows) : LI C H' st cl p ds wl' rl' D E' G FL' kvs' ws' rs' :=
  ⟨x.dg, sG, stt, x.gst, x.gcl, x.gds, dsx, fl, f1, f2, f3, dj, sec, wlx, wait, rlx, rows⟩
end
end K51
namespace K51
open PySem PySem.Spec PyProof.Rows L2 He Sb Dsk
/-! ### what is told of sectors, as data -/
def dRow (r : Int × List Int) : PyData := .tuple [.int r.1, .list (r.2.map PyData.int)]
def dRows (l : List (Int × List Int)) : PyData := .list (l.map dRow)
theorem can_rows : ∀ l : List (Int × List Int), PyData.canLayAll0 (l.map dRow) = true
  | [] => rfl
  | r :: l => by
    show (PyData.canLay0 (dRow r) && PyData.canLayAll0 (l.map dRow)) = true
    rw [can_rows l, Bool.and_true]
    show (PyData.canLay0 (.int r.1) && (PyData.canLayAll0 (r.2.map PyData.int) && true)) = true
    rw [can_ints]
    rfl
theorem depth_rows : ∀ l : List (Int × List Int), PyData.depthAll (l.map dRow) ≤ 2
  | [] => Nat.zero_le _
  | r :: l => by
    show max (PyData.depth (dRow r)) (PyData.depthAll (l.map dRow)) ≤ 2
    have h1 : PyData.depth (dRow r) = 2 := by
      show max (PyData.depth (.int r.1)) (max (PyData.depthAll (r.2.map PyData.int) + 1) (PyData.depthAll [])) + 1 = 2
      rw [depth_ints]
      rfl
    have := depth_rows l
    omega
theorem shaped_rows (l : List (Int × List Int)) : SeqAt.shaped (dRows l) = true := by
  have h1 : PyData.canLay0 (dRows l) = true := can_rows l
  have h2 : PyData.depth (dRows l) ≤ 64 := by
    show PyData.depthAll (l.map dRow) + 1 ≤ 64
    have := depth_rows l
    omega
  unfold SeqAt.shaped
  rw [h1, decide_eq_true h2]
  rfl
theorem eqv_row (r : Int × List Int) : PyData.eqv (dRow r) (dRow r) = true := by
  show ((r.1 == r.1) && (PyData.eqvAll (r.2.map PyData.int) (r.2.map PyData.int) && true)) = true
  rw [eqv_ints]
  simp
theorem eqv_rows : ∀ l : List (Int × List Int), PyData.eqvAll (l.map dRow) (l.map dRow) = true
  | [] => rfl
  | r :: l => by
    show (PyData.eqv (dRow r) (dRow r) && PyData.eqvAll (l.map dRow) (l.map dRow)) = true
    rw [eqv_row, eqv_rows l]
    rfl
theorem eqv_rows' (l : List (Int × List Int)) : PyData.eqv (dRows l) (dRows l) = true := eqv_rows l
theorem dpAll_rows {K : PySem.W.Frag} {H : Hp} : ∀ {xs : List V} {l : List (Int × List Int)}, Paired (fun v r => ∃ t b, v = V.ref t ∧ H t = some (.tup [.int r.1, .ref b]) ∧ IL H b r.2) xs l → DpAll K H xs (l.map dRow)
  | [], [], .nil => .nil
  | v :: xs, r :: l, .cons hd tl => by
    obtain ⟨t, b, rfl, e1, e2⟩ := hd
    exact .cons (.tup (SqT.of e1) (.cons (.int _) (.cons (.lst (SqL.of e2) (dpAll_ints _)) .nil))) (dpAll_rows tl)
theorem dp_rows {K : PySem.W.Frag} {H : Hp} {a : Addr} {xs : List V} {l : List (Int × List Int)} (h : H a = some (.lst xs)) (p : Paired (fun v r => ∃ t b, v = V.ref t ∧ H t = some (.tup [.int r.1, .ref b]) ∧ IL H b r.2) xs l) : Dp K H (.ref a) (dRows l) := .lst (SqL.of h) (dpAll_rows p)
/-! ### told twice -/
theorem putS_new {sec : List (Int × List Int)} {n : Int} {c : List Int} (h : n ∉ sec.map (·.1)) : putS sec n c = sec ++ [(n, c)] := by
  unfold putS
  rw [if_neg]
  intro z
  obtain ⟨r, hr, e⟩ := List.any_eq_true.mp z
  exact h (List.mem_map.mpr ⟨r, hr, by simpa using e⟩)
theorem syncS_nd : ∀ (l sec : List (Int × List Int)), ((sec ++ l).map (·.1)).Nodup → syncS sec l = sec ++ l
  | [], sec, _ => by simp [syncS]
  | r :: l, sec, h => by
    show syncS (putS sec r.1 r.2) l = _
    have h1 : r.1 ∉ sec.map (·.1) := by
      intro z
      rw [List.map_append, List.nodup_append] at h
      exact h.2.2 _ z _ (by simp) rfl
    rw [putS_new h1, syncS_nd l _ (by rw [List.append_assoc]; exact h), List.append_assoc]
    rfl
theorem getS_mem {l : List (Int × List Int)} (nd : (l.map (·.1)).Nodup) {r : Int × List Int} (h : r ∈ l) : getS l r.1 = r.2 := by
  unfold getS look
  have : l.find? (fun q => decide (q.1 = r.1)) = some r := by
    induction l with
    | nil => cases h
    | cons q l ih =>
      have nd' := List.nodup_cons.mp nd
      rw [List.find?_cons]
      rcases List.mem_cons.mp h with rfl | h2
      · simp
      · have hq : ¬ q.1 = r.1 := fun e => nd'.1 (by show q.1 ∈ l.map (·.1); rw [e]; exact List.mem_map_of_mem h2)
        simp only [hq, decide_false]
        exact ih nd'.2 h2
  rw [this]
  rfl
theorem synced_sorted (sec : List (Int × List Int)) : ((synced sec).map (·.1)).Pairwise (· < ·) := by
  have h1 : (((nums sec).map fun n => (n, getS sec n)).map (·.1)).Pairwise (· < ·) := by
    have e : ((nums sec).map fun n => (n, getS sec n)).map (·.1) = nums sec := by
      rw [List.map_map]
      exact List.map_id _
    rw [e]
    exact nums_sorted sec
  exact h1.sublist (List.Sublist.map _ List.filter_sublist)
theorem synced_again (sec : List (Int × List Int)) : synced (syncS [] (synced sec)) = synced sec := by
  have hs := synced_sorted sec
  have nd := sorted_nodup hs
  rw [syncS_nd (synced sec) [] (by simpa using nd), List.nil_append]
  generalize hl : synced sec = l at hs nd ⊢
  have hb : ∀ r ∈ l, r.2 ≠ blank := fun r hr => by
    rw [← hl] at hr
    have := (List.mem_filter.mp hr).2
    simpa using this
  have e1 : nums l = l.map (·.1) := sorted_unique (nums_sorted l) hs (nums_mem l)
  unfold synced
  rw [e1, List.map_map]
  have e2 : l.map ((fun n => (n, getS l n)) ∘ fun r => r.1) = l := by
    have : l.map ((fun n => (n, getS l n)) ∘ fun r => r.1) = l.map id := List.map_congr_left fun r hr => by
      show (r.1, getS l r.1) = r
      rw [getS_mem nd hr]
    rw [this, List.map_id]
  rw [e2]
  exact List.filter_eq_self.mpr fun r hr => by simpa using hb r hr
theorem synced_mem {sec : List (Int × List Int)} {r : Int × List Int} (h : r ∈ synced sec) (s16 : ∀ r ∈ sec, r.2.length = 16) : r.2.length = 16 ∧ r.1 ∈ sec.map (·.1) := by
  have h1 := (List.mem_filter.mp h).1
  obtain ⟨n, hn, rfl⟩ := List.mem_map.mp h1
  refine ⟨?_, (nums_mem sec n).mp hn⟩
  show (getS sec n).length = 16
  unfold getS
  cases e : look sec n with
  | none => rfl
  | some c => exact s16 _ (look_some e)
theorem read16 {D : Dk} (hs : ∀ r ∈ D.sec, r.2.length = 16) (hw : ∀ r ∈ D.wait, r.2.length = 16) (n : Int) : (D.read n).length = 16 := by
  unfold Dk.read readW
  have h0 : (getS D.sec n).length = 16 := by
    unfold getS
    cases e : look D.sec n with
    | none => rfl
    | some c => exact hs _ (look_some e)
  revert h0
  generalize getS D.sec n = d
  have : ∀ (l : List (Int × List Int)), (∀ r ∈ l, r.2.length = 16) → ∀ d : List Int, d.length = 16 → (l.foldl (fun acc r => if r.1 = n then r.2 else acc) d).length = 16 := by
    intro l
    induction l with
    | nil => intro _ d h; exact h
    | cons q l ih =>
      intro hl d hd
      refine ih (fun r hr => hl r (List.mem_cons_of_mem _ hr)) _ ?_
      show (if q.1 = n then q.2 else d).length = 16
      split
      · exact hl q List.mem_cons_self
      · exact hd
  exact this D.wait hw d
theorem merge_sec {F : Hp} : ∀ {more : List (Key × V)} {l : List (Int × List Int)} {kvs : List (Key × V)} {sec : List (Int × List Int)}, Paired (SecR F) more l → Paired (SecR F) kvs sec → Paired (SecR F) (mergeK kvs more) (syncS sec l)
  | [], [], _, _, .nil, h => h
  | kv :: more, r :: l, kvs, sec, .cons hd tl, h => by
    obtain ⟨e1, a, e2, i⟩ := hd
    show Paired (SecR F) (mergeK (putK kvs kv.1 kv.2) more) (syncS (putS sec r.1 r.2) l)
    rw [e1, e2]
    exact merge_sec tl (sec_put i h)
theorem lv_some {l : Int} : lv (some l) = .int l := rfl
theorem lv_none : lv none = .non := rfl
/-- the law's frozen part grows -/
theorem LI.grow {C : Addr} {H : Hp} {st cl p ds wl rl : Addr} {D E : Dk} {G FL : Hp} {kvs : List (Key × V)} {ws rs : List V} (x : LI C H st cl p ds wl rl D E G FL kvs ws rs) (S : Addr → Prop) (h : ∀ b, S b → G b = none ∧ b ≠ st ∧ b ≠ cl ∧ b ≠ ds) : LI C H st cl p ds wl rl D E G (Fx FL H S) kvs ws rs := by
  have so := fx_old (H := H) (S := S) x.fl
  refine ⟨x.dg, x.sG, x.stt, x.gst, x.gcl, x.gds, x.dsx, fx_same, fx_no x.fst fun z => (h _ z).2.1 rfl, fx_no x.fcl fun z => (h _ z).2.2.1 rfl, fx_no x.fds fun z => (h _ z).2.2.2 rfl, fun b hb => ?_, pmono x.sec fun _ _ z => z.mono so, so _ _ x.wlx, pmono x.wait fun _ _ z => z.mono so, so _ _ x.rlx, pmono x.rows fun _ _ z => z.mono so⟩
  rcases fx_get hb with z | z
  · exact x.dj b z
  · exact .inl (h b z).1
/-- the law's waiting list is another -/
theorem LI.setW {C : Addr} {H : Hp} {st cl p ds wl rl : Addr} {D E : Dk} {G FL : Hp} {kvs : List (Key × V)} {ws rs : List V} (x : LI C H st cl p ds wl rl D E G FL kvs ws rs) {E' : Dk} {wl' : Addr} {ws' : List V} (e1 : E'.sec = E.sec) (e2 : E'.rows = E.rows) (hw : FL wl' = some (.lst ws')) (pw : Paired (WaitR FL) ws' E'.wait) : LI C H st cl p ds wl' rl D E' G FL kvs ws' rs :=
  ⟨x.dg, x.sG, x.stt, x.gst, x.gcl, x.gds, x.dsx, x.fl, x.fst, x.fcl, x.fds, x.dj, by rw [e1]; exact x.sec, hw, pw, x.rlx, by rw [e2]; exact x.rows⟩
def LoopI (C a st cl p ds : Addr) (i : Nat) (σ : L2.St) (H : Hp) : Prop := ∃ x2 x3 x4 wl rl D G FL kvs ws rs x11 x12 x13 x14 x15 x16 x17 x18 x19 x20, σ = [some (.ref a), some (.ref st), x2, x3, x4, some (.ref p), some (.ref ds), some (.ref wl), some (lv D.left), some (.ref rl), some (.bl D.cut), x11, x12, x13, x14, x15, x16, x17, x18, x19, x20] ∧
  LI C H st cl p ds wl rl D D G FL kvs ws rs ∧ DI i D
theorem LI.wr {C : Addr} {H H' : Hp} {st cl p ds wl rl c : Addr} {D E : Dk} {G FL : Hp} {kvs : List (Key × V)} {ws rs : List V} {o : HO} (x : LI C H st cl p ds wl rl D E G FL kvs ws rs) (h : Wr H H' c o) (g : G c = none) (f : FL c = none) (n1 : c ≠ st) (n2 : c ≠ cl) (n3 : c ≠ ds) : LI C H' st cl p ds wl rl D E G FL kvs ws rs := by
  refine ⟨x.dg, fun b o e => h.keep (x.sG b o e) (fun z => by rw [z, g] at e; cases e), x.stt.keep fun b o hb e => h.keep e (by rcases hb with rfl | rfl; exact n1.symm; exact n2.symm), x.gst, x.gcl, x.gds, h.keep x.dsx n3.symm, fun b o e => h.keep (x.fl b o e) (fun z => by rw [z, f] at e; cases e), x.fst, x.fcl, x.fds,
    fun b hb => (x.dj b hb).imp id fun ⟨xs, e⟩ => ⟨xs, h.keep e (fun z => by rw [z, f] at hb; exact hb rfl)⟩, x.sec, x.wlx, x.wait, x.rlx, x.rows⟩
theorem step_no {G H G' H' : Hp} (s : Step G H G' H') {c : Addr} {o : HO} (e : H c = some o) (nt : ∀ xs, o ≠ .tup xs) (g : G c = none) : G' c = none := by
  cases q : G' c with
  | none => rfl
  | some u =>
    rcases s.new c (by rw [q]; intro z; cases z) with z | z | ⟨xs, z⟩
    · exact absurd g z
    · rw [z] at e; cases e
    · rw [z] at e; exact absurd (Option.some.inj e).symm (nt xs)
section
variable {P : Program} {w : World} {K : PySem.W.Frag} {mg : Str → Option Value} {base : Heap}
def spLaw (K : PySem.W.Frag) : Sp := fun vs H Q _ => ∃ (a : Addr) (ns : List Int), vs = [.ref a] ∧ SqL K H a (ns.map V.int) ∧ ns.length ≤ 63 ∧ ∀ H', Q (.bl true) H'
theorem sc_law : FnScope ["script", "state", "first", "number", "content", "disk", "sectors", "waiting", "left", "rows", "cut", "turn", "kind", "made", "many", "one", "row", "due", "other", "told", "k"] ["script"] (defScope s_law) := ⟨rfl, rfl, rfl, by decide +kernel, rfl, by decide +kernel, by decide +kernel⟩
theorem ok_law (W : Wd K mg) : Ok P w K mg base 6 (ga K "law") ["script"] (spLaw K) := by
  refine W.ok 3 rfl rfl rfl sc_law (fun vs H Q E h => ?_) (fun _ _ _ _ _ _ us hl => match us, hl with | [_], _ => rfl) (fun cdv A outer s H vs Q E hr h => ?_)
  · obtain ⟨a, ns, rfl, _⟩ := h
    rfl
  · obtain ⟨a, ns, rfl, hS, hlen, k⟩ := h
    have hu := hu_of hr
    have hv := hv_of hr
    refine ⟨_, (pss_cons (ps_set (i := 1) sc_law.nd rfl (Or.inr rfl) (pe_callG (ok__law_state W) hr rfl (f_glo__law_state W) (pa_cons (pv 0) pa_nil)))
      (pss_cons (ps_set (i := 2) sc_law.nd rfl (Or.inl rfl) (pe_ifExp (pt_cmpR (op_eqK (K := K) rfl hv) (pe_callG (ok__law_take W) hr rfl (f_glo__law_take W) (pa_cons (pv 1) (pa_cons pe_int pa_nil))) pe_int (nomark _)) (pe_lst (pa_cons (pe_tup (pa_cons pe_int (pa_cons (pe_op op_mulA (pe_lst (pa_cons pe_int pa_nil)) pe_int) pa_nil))) pa_nil)) (pe_lst pa_nil)))
      (pss_cons (ps_asg (pe_tup (pa_cons (pe_makeG (f_mk_Disk W) (ok_Disk___init__ W) hr rfl (f_glo_Disk W) (pa_cons (pv 2) pa_nil)) (pa_cons (pe_callTy (cr_dictPK (K := K) rfl rfl) (by rfl) (f_free_dict W) (by decide +kernel) (pa_cons (pe_lc (own := [("number", 3), ("content", 4)]) rfl sc_law.nd (pi_list (pv 2)) (blkOk_by (own := [("number", 3), ("content", 4)]) (N := ["script", "state", "first", "number", "content", "disk", "sectors", "waiting", "left", "rows", "cut", "turn", "kind", "made", "many", "one", "row", "due", "other", "told", "k"]) (sc := defScope s_law) (by decide +kernel)) (fun _ _ _ _ _ => (pg_tupK (K := K) 2 rfl rfl (pgs_cons (pg_name (i := 3) sc_law.nd rfl (Or.inl rfl) (Or.inr rfl)) (pgs_cons (pg_name (i := 4) sc_law.nd rfl (Or.inl rfl) (Or.inr rfl)) pgs_nil)))) (fun _ _ _ _ _ => pts_nil) (fun _ _ _ _ _ => (pe_tup (pa_cons (pv 3) (pa_cons (pe_callTy (cr_listK (K := K) rfl) (by rfl) (f_free_list W) (by decide +kernel) (pa_cons (pv 4) pa_nil)) pa_nil))))) pa_nil)) (pa_cons (pe_lst pa_nil) (pa_cons pe_non (pa_cons (pe_lst pa_nil) (pa_cons pe_bl pa_nil))))))) (pg_tupK (K := K) 6 rfl rfl (pgs_cons (pg_name (i := 5) sc_law.nd rfl (Or.inl rfl) (Or.inl rfl)) (pgs_cons (pg_name (i := 6) sc_law.nd rfl (Or.inr rfl) (Or.inl rfl)) (pgs_cons (pg_name (i := 7) sc_law.nd rfl (Or.inl rfl) (Or.inl rfl)) (pgs_cons (pg_name (i := 8) sc_law.nd rfl (Or.inl rfl) (Or.inl rfl)) (pgs_cons (pg_name (i := 9) sc_law.nd rfl (Or.inl rfl) (Or.inl rfl)) (pgs_cons (pg_name (i := 10) sc_law.nd rfl (Or.inl rfl) (Or.inl rfl)) pgs_nil))))))))
      (pss_cons (ps_for PassesOwn.never rfl (pi_range1 rfl (f_free_range W) (pa_cons (pe_op (op_addK (K := K) rfl) pe_int (pe_callG (ok__law_take W) hr rfl (f_glo__law_take W) (pa_cons (pv 1) (pa_cons pe_int pa_nil)))) pa_nil)) (pg_name (i := 11) sc_law.nd rfl (Or.inl rfl) (Or.inl rfl))
        (pss_cons (ps_par (i := 12) (j := 3) (by rfl) sc_law.nd rfl rfl (by decide) rfl rfl (pa_cons (pe_callG (ok__law_take W) hr rfl (f_glo__law_take W) (pa_cons (pv 1) (pa_cons pe_int pa_nil))) (pa_cons (pe_callG (ok__law_take W) hr rfl (f_glo__law_take W) (pa_cons (pv 1) (pa_cons pe_int pa_nil))) pa_nil)) (by rfl))
        (pss_cons (ps_setLc (i := 13) (own := [("k", 20)]) rfl sc_law.nd rfl rfl (sw_true rfl rfl rfl (by decide +kernel)) (pi_range1 rfl (f_free_range W) (pa_cons (pe_callG (ok__law_take W) hr rfl (f_glo__law_take W) (pa_cons (pv 1) (pa_cons pe_int pa_nil))) pa_nil)) (blkOk_by (own := [("k", 20)]) (N := ["script", "state", "first", "number", "content", "disk", "sectors", "waiting", "left", "rows", "cut", "turn", "kind", "made", "many", "one", "row", "due", "other", "told", "k"]) (sc := defScope s_law) (by decide +kernel)) (fun _ _ _ _ _ => (pg_name (i := 20) sc_law.nd rfl (Or.inl rfl) (Or.inr rfl))) (fun _ _ _ _ _ => pts_nil) (fun _ _ _ _ _ => (pe_tup (pa_cons (pe_op op_sub (pe_callG (ok__law_take W) hr rfl (f_glo__law_take W) (pa_cons (pv 1) (pa_cons pe_int pa_nil))) pe_int) (pa_cons (pe_op op_sub (pe_callG (ok__law_take W) hr rfl (f_glo__law_take W) (pa_cons (pv 1) (pa_cons pe_int pa_nil))) pe_int) pa_nil)))))
        (pss_cons (ps_if (pt_cmpR (op_eqK (K := K) rfl hv) (pv 12) pe_int (nomark _))
          (pss_cons (ps_set (i := 14) sc_law.nd rfl (Or.inl rfl) (pe_op (op_addK (K := K) rfl) pe_int (pe_callG (ok__law_take W) hr rfl (f_glo__law_take W) (pa_cons (pv 1) (pa_cons pe_int pa_nil)))))
          (pss_cons (ps_expr (pe_methG (f_cls_Disk W) (f_meth_Disk_cut_in W) nm_Disk_cut_in (ok_Disk_cut_in W) hr (pv 5) (pa_cons (pv 14) (pa_cons (pv 13) pa_nil))))
          (pss_cons (ps_if (pt_not (pt_val (pv 10)))
            (pss_one (ps_par (i := 8) (j := 9) (by rfl) sc_law.nd rfl rfl (by decide) rfl rfl (pa_cons (pv 14) (pa_cons (pe_callTy (cr_listK (K := K) rfl) (by rfl) (f_free_list W) (by decide +kernel) (pa_cons (pv 13) pa_nil)) pa_nil)) (by rfl)))
            pss_nil)
          (pss_one (ps_expr (pe_bm PySem.F.plainAttrs_list PySem.F.slot_list_append PySem.F.type_list_append mt_append (pv 13) (pa_cons (pe_tup (pa_cons pe_int (pa_cons pe_int pa_nil))) pa_nil)))))))
          (pss_one (ps_if (pt_cmpR (op_eqK (K := K) rfl hv) (pv 12) pe_int (nomark _))
            (pss_cons (ps_expr (pe_methG (f_cls_Disk W) (f_meth_Disk_crash W) nm_Disk_crash (ok_Disk_crash W) hr (pv 5) (pa_cons (pv 13) pa_nil)))
            (pss_cons (ps_expr (pe_callG (ok__law_crashed W) hr rfl (f_glo__law_crashed W) (pa_cons (pv 6) (pa_cons (pv 7) (pa_cons (pv 13) pa_nil)))))
            (pss_one (ps_set (i := 7) sc_law.nd rfl (Or.inl rfl) (pe_lst pa_nil)))))
            (pss_cons (ps_set (i := 4) sc_law.nd rfl (Or.inl rfl) (pe_op op_mulA (pe_lst (pa_cons (pe_op (op_addK (K := K) rfl) pe_int (pe_callG (ok__law_take W) hr rfl (f_glo__law_take W) (pa_cons (pv 1) (pa_cons pe_int pa_nil)))) pa_nil)) (pe_op (op_addK (K := K) rfl) pe_int (pe_callG (ok__law_take W) hr rfl (f_glo__law_take W) (pa_cons (pv 1) (pa_cons pe_int pa_nil))))))
            (pss_cons (ps_set (i := 4) sc_law.nd rfl (Or.inl rfl) (pe_op (op_addK (K := K) rfl) (pv 4) (pe_op op_mulA (pe_lst (pa_cons (pe_callG (ok__law_take W) hr rfl (f_glo__law_take W) (pa_cons (pv 1) (pa_cons pe_int pa_nil))) pa_nil)) (pe_op op_sub pe_int (pe_callB (cr_lenK (K := K) rfl) (by rfl) (f_free_len W) PySem.boot_len (pa_cons (pv 4) pa_nil))))))
            (pss_cons (ps_if (PW.pt (pw_and (pt_cmpR op_notN (pv 8) pe_non (nomark _)) (pw_and1 (pt_not (pt_val (pv 10))))))
              (pss_cons (ps_set (i := 8) sc_law.nd rfl (Or.inl rfl) (pe_op op_sub (pv 8) pe_int))
              (pss_one (ps_if (pt_cmpR (op_eqK (K := K) rfl hv) (pv 8) pe_int (nomark _))
                (pss_cons (ps_expr (pe_callG (ok__law_crashed W) hr rfl (f_glo__law_crashed W) (pa_cons (pv 6) (pa_cons (pv 7) (pa_cons (pv 9) pa_nil)))))
                (pss_one (ps_par (i := 7) (j := 10) (by rfl) sc_law.nd rfl rfl (by decide) rfl rfl (pa_cons (pe_lst pa_nil) (pa_cons pe_bl pa_nil)) (by rfl))))
                pss_nil)))
              pss_nil)
            (pss_one (ps_if (pt_cmpR op_lt (pv 12) pe_int (nomark _))
              (pss_cons (ps_expr (pe_methG (f_cls_Disk W) (f_meth_Disk_write W) nm_Disk_write (ok_Disk_write W) hr (pv 5) (pa_cons (pv 3) (pa_cons (pv 4) pa_nil))))
              (pss_cons (ps_set (i := 7) sc_law.nd rfl (Or.inl rfl) (pe_op (op_addK (K := K) rfl) (pv 7) (pe_ifExp (pt_not (pt_val (pv 10))) (pe_lst (pa_cons (pe_tup (pa_cons (pv 3) (pa_cons (pe_callTy (cr_listK (K := K) rfl) (by rfl) (f_free_list W) (by decide +kernel) (pa_cons (pv 4) pa_nil)) pa_nil))) pa_nil)) (pe_lst pa_nil))))
              (pss_one (ps_asg pe_int (pg_sub (pv 4) pe_int set_list)))))
              (pss_cons (ps_expr (pe_methG0 (f_cls_Disk W) (f_meth_Disk_sync W) nm_Disk_sync (ok_Disk_sync W) hr (pv 5)))
              (pss_cons (ps_for PassesOwn.never rfl (pi_list (pe_ifExp (pt_not (pt_val (pv 10))) (pv 7) (pe_lst pa_nil))) (pg_tupK (K := K) 2 rfl rfl (pgs_cons (pg_name (i := 15) sc_law.nd rfl (Or.inl rfl) (Or.inl rfl)) (pgs_cons (pg_name (i := 16) sc_law.nd rfl (Or.inl rfl) (Or.inl rfl)) pgs_nil)))
                (pss_one (ps_dput hu (pv 6) (pv 15) (pv 16) rfl)))
              (pss_one (ps_set (i := 7) sc_law.nd rfl (Or.inl rfl) (pe_ifExp (pt_val (pv 10)) (pv 7) (pe_lst pa_nil))))))))))))))
        (pss_cons (ps_if (pt_cmpR (op_neK (K := K) rfl hv) (pe_get (f_cls_Disk W) (f_no_Disk_is_cut W) lk_Disk_is_cut (pv 5)) (pv 10) (nomark _))
          (pss_one (ps_ret pe_bl))
          pss_nil)
        (pss_cons (ps_for PassesOwn.never rfl (pi_range1 rfl (f_free_range W) (pa_cons pe_int pa_nil)) (pg_name (i := 15) sc_law.nd rfl (Or.inl rfl) (Or.inl rfl))
          (pss_cons (ps_set (i := 17) sc_law.nd rfl (Or.inl rfl) (pe_dget2 hu (pv 6) (pv 15) (pe_op op_mulA (pe_lst (pa_cons pe_int pa_nil)) pe_int) ⟨rfl, rfl, rfl, rfl⟩))
          (pss_cons (ps_for PassesOwn.never rfl (pi_list (pv 7)) (pg_tupK (K := K) 2 rfl rfl (pgs_cons (pg_name (i := 18) sc_law.nd rfl (Or.inl rfl) (Or.inl rfl)) (pgs_cons (pg_name (i := 16) sc_law.nd rfl (Or.inl rfl) (Or.inl rfl)) pgs_nil)))
            (pss_one (ps_set (i := 17) sc_law.nd rfl (Or.inl rfl) (pe_ifExp (pt_cmpR (op_eqK (K := K) rfl hv) (pv 18) (pv 15) (nomark _)) (pv 16) (pv 17)))))
          (pss_cons (ps_set (i := 19) sc_law.nd rfl (Or.inl rfl) (pe_methG (f_cls_Disk W) (f_meth_Disk_read W) nm_Disk_read (ok_Disk_read W) hr (pv 5) (pa_cons (pv 15) pa_nil)))
          (pss_cons (ps_if (pt_cmpR (op_neK (K := K) rfl hv) (pv 19) (pv 17) (nomark _))
            (pss_one (ps_ret pe_bl))
            pss_nil)
          (pss_one (ps_asg pe_int (pg_sub (pv 19) pe_int set_list))))))))
        (pss_cons (ps_set (i := 19) sc_law.nd rfl (Or.inl rfl) (pe_methG0 (f_cls_Disk W) (f_meth_Disk_synced W) nm_Disk_synced (ok_Disk_synced W) hr (pv 5)))
        (pss_cons (ps_if (pt_cmpR (op_neK (K := K) rfl hv) (pv 19) (pe_lc (own := [("one", 15)]) rfl sc_law.nd (pi_list (pe_callB (cr_sortDI rfl) (by rfl) (f_free_sorted W) (by decide +kernel) (pa_cons (pv 6) pa_nil))) (blkOk_by (own := [("one", 15)]) (N := ["script", "state", "first", "number", "content", "disk", "sectors", "waiting", "left", "rows", "cut", "turn", "kind", "made", "many", "one", "row", "due", "other", "told", "k"]) (sc := defScope s_law) (by decide +kernel)) (fun _ _ _ _ _ => (pg_name (i := 15) sc_law.nd rfl (Or.inl rfl) (Or.inr rfl))) (fun _ _ _ _ _ => (pts_one (pt_cmpR (op_neK (K := K) rfl hv) (pe_dget hu (pv 6) (pv 15) (fun _ _ => rfl)) (pe_op op_mulA (pe_lst (pa_cons pe_int pa_nil)) pe_int) (nomark _)))) (fun _ _ _ _ _ => (pe_tup (pa_cons (pv 15) (pa_cons (pe_dget hu (pv 6) (pv 15) (fun _ _ => rfl)) pa_nil))))) (nomark _))
          (pss_one (ps_ret pe_bl))
          pss_nil)
        (pss_one (ps_for PassesOwn.never rfl (pi_list (pv 19)) (pg_tupK (K := K) 2 rfl rfl (pgs_cons (pg_name (i := 15) sc_law.nd rfl (Or.inl rfl) (Or.inl rfl)) (pgs_cons (pg_name (i := 4) sc_law.nd rfl (Or.inl rfl) (Or.inl rfl)) pgs_nil)))
          (pss_one (ps_asg pe_int (pg_sub (pv 4) pe_int set_list)))))))))))))
      (pss_one (ps_ret (pe_cmpR (op_eqK (K := K) rfl hv) (pe_methG0 (f_cls_Disk W) (f_meth_Disk_synced W) nm_Disk_synced (ok_Disk_synced W) hr (pe_makeG (f_mk_Disk W) (ok_Disk___init__ W) hr rfl (f_glo_Disk W) (pa_cons (pe_methG0 (f_cls_Disk W) (f_meth_Disk_synced W) nm_Disk_synced (ok_Disk_synced W) hr (pv 5)) pa_nil))) (pe_methG0 (f_cls_Disk W) (f_meth_Disk_synced W) nm_Disk_synced (ok_Disk_synced W) hr (pv 5)) (nomark _)))))))), ?_⟩
    try dsimp only [cxK, cxW, cxP]
    show (_ : TS) _ [some (.ref a), none, none, none, none, none, none, none, none, none, none, none, none, none, none, none, none, none, none, none, none] H
    walk_at "rd"
    refine ⟨a, ns, rfl, hS, hlen, fun st cl H1 stt nst ncl s1 => ?_⟩
    walk_at "rd"
    refine rd_join (Φ := fun v H' => ∃ (f : Addr) (xs : List V) (l : List (Int × List Int)), v = .ref f ∧ H' f = some (.lst xs) ∧ Paired (InR H') xs l ∧ StAt H' st cl ∧ (l = [] ∨ l = [(2, List.replicate 16 7)]) ∧ Same H H') (fun Q' hQ => ?_) (fun v H2 h => ?_)
    · refine rd_if ?_
      walk_at "rd"
      refine ⟨st, cl, 2, rfl, stt, by decide, by decide, fun v H2 v0 v1 stt2 ke => ?_⟩
      have s2 : Same H H2 := fun b o e => by
        rw [ke b (ne_of_none e nst) (ne_of_none e ncl)]
        exact s1 b o e
      walk_at "rd"
      refine rd_dec (fun e => ?_) (fun e => ?_)
      · walk_at "rd"
        intro q1 H3 n3
        walk_at "rd"
        refine rd_rep n3.at_ (by decide) (by decide) (by decide) fun q2 H4 n4 => ?_
        rw [rep_int] at n4
        walk_at "rd"
        intro t H5 n5
        walk_at "rd"
        intro f H6 n6
        refine hQ _ _ ⟨f, _, [(2, List.replicate 16 7)], rfl, n6.at_, .cons ⟨t, q2, rfl, n6.keep n5.at_, n6.keep (n5.keep n4.at_)⟩ .nil, stt2.keep fun b o _ e => n6.keep (n5.keep (n4.keep (n3.keep e))), .inr rfl, fun b o e => n6.keep (n5.keep (n4.keep (n3.keep (s2 b o e))))⟩
      · walk_at "rd"
        intro f H3 n3
        exact hQ _ _ ⟨f, [], [], rfl, n3.at_, .nil, stt2.keep fun b o _ e => n3.keep e, .inl rfl, fun b o e => n3.keep (s2 b o e)⟩
    · obtain ⟨f, xs, l, rfl, hf, pr, stt2, hl, s2⟩ := h
      walk_at "rd"
      intro p dx H3 md
      have hf3 : H3 f = _ := md.same _ _ hf
      refine ⟨p, dx, f, xs, l, rfl, md.at_, hf3, pmono pr fun _ _ z => by
        obtain ⟨t, b, e0, e1, e2⟩ := z
        exact ⟨t, b, e0, md.same _ _ e1, md.same _ _ e2⟩, by rcases hl with rfl | rfl <;> simp, fun G H4 dg sG kp ng => ⟨rfl, ?_⟩⟩
      have stt3 : StAt H3 st cl := stt2.keep fun b o _ e => md.same b o e
      obtain ⟨⟨sx, hst2⟩, ⟨cx, hcl2⟩⟩ := stt2.lst
      have stp : st ≠ p := ne_of_none hst2 md.nx
      have clp : cl ≠ p := ne_of_none hcl2 md.nx
      have stt4 : StAt H4 st cl := stt3.keep fun b o hb e => kp b o e (by rcases hb with rfl | rfl; exact stp; exact clp)
      have gno : ∀ b o, H3 b = some o → b ≠ p → G b = none := fun b o e hb => by
        cases q : G b with
        | none => rfl
        | some u =>
          rcases ng b (by rw [q]; intro z; cases z) with z | z
          · exact absurd z hb
          · rw [z] at e; cases e
      have gst : G st = none := gno _ _ (md.same _ _ hst2) stp
      have gcl : G cl = none := gno _ _ (md.same _ _ hcl2) clp
      have fp : f ≠ p := ne_of_none hf md.nx
      have hf4 : H4 f = some (.lst xs) := kp _ _ hf3 fp
      have pr4 : Paired (InR H4) xs l := pmono pr fun _ _ z => by
        obtain ⟨t, b, e0, e1, e2⟩ := z
        exact ⟨t, b, e0, kp _ _ (md.same _ _ e1) (ne_of_none e1 md.nx), kp _ _ (md.same _ _ e2) (ne_of_none e2 md.nx)⟩
      have s4 : ∀ b o, H2 b = some o → H4 b = some o := fun b o e => kp _ _ (md.same _ _ e) (ne_of_none e md.nx)
      walk_at "rd"
      refine rd_klcL (by walk_at "wp") (SqL.of hf4) fun L H5 n5 => ⟨fun i Hc => (∃ ps kvs0, Hc L = some (.lst (ps.map V.ref)) ∧ ps.length = i ∧ Paired (fun q (kv : Key × V) => Hc q = some (.tup [kV kv.1, kv.2])) ps kvs0 ∧ Paired (SecR (Nw H4 (fun b => b = L) Hc)) kvs0 (l.take i)) ∧ Same H4 Hc, ⟨⟨[], [], n5.at_, rfl, .nil, .nil⟩, n5.same⟩, fun i Hc _ h => SqL.of (h.2 _ _ hf4), fun i x Hc hx h => ?_, fun Hc h => ?_⟩
      · obtain ⟨⟨ps, kvs0, hL, pl, pp, pk⟩, sc⟩ := h
        obtain ⟨rr, hrr, t, b, rfl, et, ib⟩ := pget pr4 hx
        have et1 : Hc t = _ := sc _ _ et
        have ib1 : Hc b = _ := sc _ _ ib
        have il : i < l.length := (List.getElem?_eq_some_iff.mp hrr).1
        have l1 : l.length ≤ 1 := by rcases hl with rfl | rfl <;> simp
        walk_at "rd"
        intro q H6 n6
        walk_at "rd"
        intro t2 H7 n7
        refine rd_kacc (n7.keep (n6.keep hL)) (by rw [List.length_map]; omega) fun H8 w8 => ?_
        have qL : q ≠ L := (ne_of_none hL n6.nw).symm
        have tL : t2 ≠ L := (ne_of_none hL (n6.free n7.nw)).symm
        have nq : H4 q = none := Same.free sc n6.nw
        refine ⟨⟨ps ++ [t2], kvs0 ++ [(Sum.inl rr.1, V.ref q)], by rw [w8.at_, List.map_append]; rfl, by rw [List.length_append, pl]; rfl, ?_, ?_⟩, fun b o e => w8.keep (n7.keep (n6.keep (sc b o e))) (ne_of_none e n5.nw)⟩
        · exact (pmono pp fun q' kv z => w8.keep (n7.keep (n6.keep z)) (fun zz => by rw [zz, hL] at z; cases z)).snoc (w8.keep n7.at_ tL)
        · rw [take_snoc hrr]
          exact (pmono pk fun _ _ z => z.mono (nw_step fun b o h1 h2 h3 => ⟨h2, w8.keep (n7.keep (n6.keep h3)) h2⟩)).snoc ⟨rfl, q, rfl, nw_mk nq qL (w8.keep (n7.keep n6.at_) qL)⟩
      · obtain ⟨⟨ps, kvs0, hL, pl, pp, pk⟩, sc⟩ := h
        rw [List.take_of_length_le (by rw [pr4.length]; exact Nat.le_refl _)] at pk
        walk_at "rd"
        refine rd_dictP hL pp fun ds H6 n6 => ?_
        walk_at "rd"
        intro wl H7 n7
        walk_at "rd"
        intro rl H8 n8
        walk_at "rd"
        intro tt H9 n9
        have k9 : ∀ b o, Hc b = some o → H9 b = some o := fun b o e => n9.keep (n8.keep (n7.keep (n6.keep e)))
        have ds9 : H9 ds = _ := n9.keep (n8.keep (n7.keep n6.at_))
        have wl9 : H9 wl = _ := n9.keep (n8.keep n7.at_)
        have rl9 : H9 rl = _ := n9.keep n8.at_
        have tt9 := n9.at_
        have dsL : ds ≠ L := (ne_of_none hL n6.nw).symm
        have wlL : wl ≠ L := (ne_of_none hL (n6.free n7.nw)).symm
        have rlL : rl ≠ L := (ne_of_none hL (n6.free (n7.free n8.nw))).symm
        have wlds : wl ≠ ds := (ne_of_none n6.at_ n7.nw).symm
        have rlds : rl ≠ ds := (ne_of_none n6.at_ (n7.free n8.nw)).symm
        have nds : H4 ds = none := Same.free sc n6.nw
        have nwl : H4 wl = none := Same.free sc (n6.free n7.nw)
        have nrl : H4 rl = none := Same.free sc (n6.free (n7.free n8.nw))
        have li0 : LI (cD K) H9 st cl p ds wl rl (Dk.new l) (Dk.new l) G (Nw H4 (fun b => b = L ∨ b = ds) H9) (mergeK [] kvs0) [] [] := by
          obtain ⟨⟨sx4, hst4⟩, ⟨cx4, hcl4⟩⟩ := stt4.lst
          refine ⟨dg, fun b o e => k9 _ _ (sc _ _ (sG b o e)), stt4.keep fun b o _ e => k9 _ _ (sc _ _ e), gst, gcl, ?_, ds9, nw_same, ?_, ?_, nw_no (.inr rfl), fun b hb => ?_, ?_, nw_mk nwl (fun z => by rcases z with z | z; exact wlL z; exact wlds z) wl9, .nil, nw_mk nrl (fun z => by rcases z with z | z; exact rlL z; exact rlds z) rl9, .nil⟩
          · cases q : G ds with
            | none => rfl
            | some u => rw [sG _ _ q] at nds; cases nds
          · cases q : Nw H4 (fun b => b = L ∨ b = ds) H9 st with
            | none => rfl
            | some u => have := (nw_get q).1; rw [hst4] at this; cases this
          · cases q : Nw H4 (fun b => b = L ∨ b = ds) H9 cl with
            | none => rfl
            | some u => have := (nw_get q).1; rw [hcl4] at this; cases this
          · cases q : Nw H4 (fun b => b = L ∨ b = ds) H9 b with
            | none => exact absurd q hb
            | some u =>
              have h1 := (nw_get q).1
              refine .inl ?_
              cases q2 : G b with
              | none => rfl
              | some v => rw [sG _ _ q2] at h1; cases h1
          · refine merge_sec (pmono pk fun _ _ z => z.mono (nw_step fun b o h1 h2 h3 => ⟨fun z => ?_, k9 _ _ h3⟩)) .nil
            rcases z with z | z
            · exact h2 z
            · rw [z, n6.nw] at h3; cases h3
        have di0 : DI 0 (Dk.new l) := by
          rcases hl with rfl | rfl
          · exact ⟨(by intro r h; cases h), (by intro r h; cases h), List.nodup_nil, (by intro r h; cases h), (by intro r h; cases h), Nat.le_refl _, Nat.zero_le _, (by intro _ l h; cases h)⟩
          · exact ⟨(by intro r h; rw [List.mem_singleton.mp h]; rfl), (by intro r h; cases h), (by show [(2 : Int)].Nodup; simp), (by intro r h; rw [List.mem_singleton.mp h]; decide), (by intro r h; cases h), Nat.le_refl _, Nat.zero_le _, (by intro _ l h; cases h)⟩
        clear pk pp
        walk_at "rd"
        refine ⟨st, cl, 45, rfl, li0.stt, by decide, by decide, fun nt H10 v0 v1 stt10 e10 => ?_⟩
        have li1 := li0.take stt10 e10
        walk_at "rd"
        refine rd_kforR (n := (8 + nt).toNat) (by omega) (by omega) (LoopI (cD K) a st cl p ds) ⟨_, _, _, wl, rl, Dk.new l, G, _, _, _, _, _, _, _, _, _, _, _, _, _, _, rfl, li1, di0⟩ (fun i σ Hc hi h => ?_) (fun σ Hc h => ?_)
        · have i60 : i < 60 := by omega
          clear li1 li0 di0
          obtain ⟨x2, x3, x4, wl, rl, D, G, FL, kvs, ws, rs, x11, x12, x13, x14, x15, x16, x17, x18, x19, x20, rfl, li, di⟩ := h
          walk_at "rd"
          refine ⟨st, cl, 8, rfl, li.stt, by decide, by decide, fun kd Ha ka0 ka1 stta ea => ?_⟩
          have lia := li.take stta ea
          walk_at "rd"
          refine ⟨st, cl, 4, rfl, lia.stt, by decide, by decide, fun nb Hb nb0 nb1 sttb eb => ?_⟩
          have lib := lia.take sttb eb
          walk_at "rs"
          refine ⟨st, cl, 5, rfl, lib.stt, by decide, by decide, fun mn Hd mn0 mn1 sttd ed => ?_⟩
          have lid := lib.take sttd ed
          walk_at "rs"
          refine rd_klcR (n := mn.toNat) (by walk_at "wp") (by omega) (by omega) fun LM He ne_ => ?_
          have lie := lid.same ne_.same
          obtain ⟨⟨sy, hsty⟩, ⟨cy, hcly⟩⟩ := lid.stt.lst
          have LMst : LM ≠ st := (ne_of_none hsty ne_.nw).symm
          have LMcl : LM ≠ cl := (ne_of_none hcly ne_.nw).symm
          have LMds : LM ≠ ds := (ne_of_none lid.dsx ne_.nw).symm
          have LMG : G LM = none := by
            cases q : G LM with
            | none => rfl
            | some u => have := lid.sG _ _ q; rw [ne_.nw] at this; cases this
          have LMF : FL LM = none := by
            cases q : FL LM with
            | none => rfl
            | some u => have := lid.fl _ _ q; rw [ne_.nw] at this; cases this
          refine ⟨fun j Hj => LI (cD K) Hj st cl p ds wl rl D D G FL kvs ws rs ∧ ∃ acc rws, Hj LM = some (.lst acc) ∧ Paired (RowR Hj) acc rws ∧ rws.length = j, ⟨lie, [], [], ne_.at_, .nil, rfl⟩, fun j Hj hj h => ?_, fun Hj h => ?_⟩
          · obtain ⟨lj, acc, rws, hL, pr, lr⟩ := h
            walk_at "rs"
            refine ⟨st, cl, 4, rfl, lj.stt, by decide, by decide, fun v1 Hf va0 va1 sttf ef => ?_⟩
            have lf := lj.take sttf ef
            walk_at "rs"
            refine ⟨st, cl, 20, rfl, lf.stt, by decide, by decide, fun v2 Hg vb0 vb1 sttg eg => ?_⟩
            have lg := lf.take sttg eg
            walk_at "rs"
            intro t Hh nh
            have kt : ∀ b o, Hj b = some o → (∀ x, o ≠ .lst x) → Hg b = some o := fun b o e nl => by
              obtain ⟨⟨sz, hstz⟩, ⟨cz, hclz⟩⟩ := lj.stt.lst
              have b1 : b ≠ st := fun z => by rw [z, hstz] at e; exact nl _ (Option.some.inj e).symm
              have b2 : b ≠ cl := fun z => by rw [z, hclz] at e; exact nl _ (Option.some.inj e).symm
              rw [eg b b1 b2, ef b b1 b2]
              exact e
            have hL2 : Hg LM = some (.lst acc) := by rw [eg _ LMst LMcl, ef _ LMst LMcl]; exact hL
            have accl : acc.length = rws.length := pr.length
            refine rd_kacc (nh.keep hL2) (by omega) fun Hk wk => ?_
            have tLM : t ≠ LM := (ne_of_none hL2 nh.nw).symm
            refine ⟨(lg.same nh.same).wr wk LMG LMF LMst LMcl LMds, acc ++ [.ref t], rws ++ [(v1 - 1, v2 - 2)], wk.at_, (pmono pr fun v r z => ?_).snoc ⟨t, rfl, wk.keep nh.at_ tLM⟩, by rw [List.length_append, lr]; rfl⟩
            obtain ⟨t', e0, e1⟩ := z
            have e2 := nh.keep (kt _ _ e1 (by intro x z; cases z))
            exact ⟨t', e0, wk.keep e2 fun zz => by rw [zz] at e1; rw [hL] at e1; cases e1⟩
          · obtain ⟨lj, acc, rws, hL, pr, lr⟩ := h
            have lr4 : rws.length ≤ 4 := by omega
            walk_at "rs"
            refine rd_joinS (Φ := LoopI (cD K) a st cl p ds (i + 1)) (fun nx' hnx => ?_) (fun σ2 H2 h2 => ?_)
            · refine rd_ifS ?_
              walk_at "rs"
              refine rd_dec (fun e7 => ?_) (fun e7 => ?_)
              · walk_at "rs"
                refine ⟨st, cl, 6, rfl, lj.stt, by decide, by decide, fun mv Hf va0 va1 sttf ef => ?_⟩
                have lf := lj.take sttf ef
                have hLf : Hf LM = some (.lst acc) := by rw [ef _ LMst LMcl]; exact hL
                have prf : Paired (RowR Hf) acc rws := pmono pr fun v r z => by
                  obtain ⟨t, e0, e1⟩ := z
                  obtain ⟨⟨sz, hstz⟩, ⟨cz, hclz⟩⟩ := lj.stt.lst
                  exact ⟨t, e0, by rw [ef t (fun z => by rw [z, hstz] at e1; cases e1) (fun z => by rw [z, hclz] at e1; cases e1)]; exact e1⟩
                obtain ⟨F0, dx0, d0, w0, r0, kv0, ws0, rs0, dgi⟩ := id lf.dg
                have obf := (dgi.mono lf.sG).ob
                walk_at "rs"
                refine ⟨p, LM, 1 + mv, G, D, rws, acc, rfl, lf.dg, lf.sG, hLf, prf, fun G1 Hg dg1 st1 => ?_⟩
                have lg := lf.step dg1 st1
                have hLg : Hg LM = some (.lst acc) := st1.keep _ _ hLf LMG
                have LMG1 : G1 LM = none := step_no st1 hLf (by intro x z; cases z) LMG
                have prg : Paired (RowR Hg) acc rws := pmono prf fun v r z => by
                  obtain ⟨t, e0, e1⟩ := z
                  exact ⟨t, e0, st1.tups _ _ e1⟩
                walk_at "rs"
                have fin : ∀ (x14 : Option V) (wl' rl' : Addr) (FL' : Hp) (kvs' : List (Key × V)) (ws' rs' : List V) (E' : Dk) (Hh : Hp), E' = D.cutIn (1 + mv) rws → LI (cD K) Hh st cl p ds wl' rl' (D.cutIn (1 + mv) rws) E' G1 FL' kvs' ws' rs' → Hh LM = some (.lst acc) → FL' LM = none →
                    ∀ x2 x3 x4 x11 x12 x13 x15 x16 x17 x18 x19 x20 Ht Hq t, New Hh Ht t (.tup [.int 9, .int 9]) → Wr Ht Hq LM (.lst (acc ++ [.ref t])) →
                    LoopI (cD K) a st cl p ds (i + 1) [some (.ref a), some (.ref st), x2, x3, x4, some (.ref p), some (.ref ds), some (.ref wl'), some (lv E'.left), some (.ref rl'), some (.bl E'.cut), x11, x12, x13, x14, x15, x16, x17, x18, x19, x20] Hq := by
                  intro x14 wl' rl' FL' kvs' ws' rs' E' Hh eE lh hLh fLh x2 x3 x4 x11 x12 x13 x15 x16 x17 x18 x19 x20 Ht Hq t nt wt
                  subst eE
                  exact ⟨x2, x3, x4, wl', rl', _, G1, FL', kvs', ws', rs', x11, x12, x13, x14, x15, x16, x17, x18, x19, x20, rfl, (lh.same nt.same).wr wt LMG1 fLh LMst LMcl LMds, (di.cutIn (by omega) lr4).mono (Nat.le_succ _)⟩
                refine rd_ifS ?_
                walk_at "rs"
                cases hcut : D.cut with
                | true =>
                  refine iteF ?_
                  walk_at "rs"
                  intro t Ht nt
                  walk_at "rs"
                  refine rd_append (nt.keep hLg) (by have := pr.length; omega) fun Hq wq => ?_
                  walk_at "rs"
                  have e0 : D.cutIn (1 + mv) rws = D := by unfold Dk.cutIn; rw [if_pos hcut]
                  have := fin (some (.int (1 + mv))) wl rl FL kvs ws rs D Hg e0.symm (by rw [e0] at lg ⊢; exact lg) hLg LMF x2 (some (.int nb)) x4 (some (.int i)) (some (.int kd)) (some (.ref LM)) x15 x16 x17 x18 x19 x20 Ht Hq t nt wq
                  rw [hcut] at this
                  exact this
                | false =>
                  refine iteT ?_
                  walk_at "rs"
                  intro rl' Hh nh
                  walk_at "rs"
                  intro t Ht nt
                  walk_at "rs"
                  have hLh : Hh LM = some (.lst acc) := nh.keep hLg
                  refine rd_append (nt.keep hLh) (by have := pr.length; omega) fun Hq wq => ?_
                  walk_at "rs"
                  have e0 : D.cutIn (1 + mv) rws = { D with left := some (1 + mv), rows := rws } := by unfold Dk.cutIn; rw [if_neg (by rw [hcut]; exact Bool.false_ne_true)]
                  have lh := lg.same nh.same
                  have hst : ∀ b o, Hh b = some o → (∀ x, o ≠ .tup x) → b ≠ rl' → FL b = none → Fx FL Hh (fun b => b = rl' ∨ ∃ xs, Hh b = some (.tup xs)) b = none := fun b o e nl hr hf => fx_no hf fun z => by
                    rcases z with z | ⟨xs, z⟩
                    · exact hr z
                    · rw [e] at z; exact nl _ (Option.some.inj z)
                  obtain ⟨⟨sz, hstz⟩, ⟨cz, hclz⟩⟩ := lh.stt.lst
                  have rst : st ≠ rl' := by
                    obtain ⟨⟨sz2, hz2⟩, _⟩ := lg.stt.lst
                    exact ne_of_none hz2 nh.nw
                  have rcl : cl ≠ rl' := by
                    obtain ⟨_, ⟨sz2, hz2⟩⟩ := lg.stt.lst
                    exact ne_of_none hz2 nh.nw
                  have rds : ds ≠ rl' := ne_of_none lg.dsx nh.nw
                  have rLM : LM ≠ rl' := ne_of_none hLg nh.nw
                  have so := fx_old (H := Hh) (S := fun b => b = rl' ∨ ∃ xs, Hh b = some (.tup xs)) lh.fl
                  have lnew : LI (cD K) Hh st cl p ds wl rl' (D.cutIn (1 + mv) rws) { D with left := some (1 + mv), rows := rws } G1 (Fx FL Hh (fun b => b = rl' ∨ ∃ xs, Hh b = some (.tup xs))) kvs ws acc :=
                    lh.own lh.sG lh.stt lh.dsx fx_same (hst _ _ hstz (by intro x z; cases z) rst lh.fst) (hst _ _ hclz (by intro x z; cases z) rcl lh.fcl) (hst _ _ lh.dsx (by intro x z; cases z) rds lh.fds) (fun b hb => by
                      rcases fx_get hb with z | z | z
                      · exact lh.dj b z
                      · refine .inl ?_
                        rw [z]
                        cases q : G1 rl' with
                        | none => rfl
                        | some u => have := st1.own _ _ q; rw [nh.nw] at this; cases this
                      · exact .inr z) (pmono lh.sec fun _ _ z => z.mono so) (so _ _ lh.wlx) (pmono lh.wait fun _ _ z => z.mono so) (fx_new (.inl rfl) nh.at_) (pmono prg fun v r z => by
                        obtain ⟨t, e1, e2⟩ := z
                        have e3 := nh.keep e2
                        exact ⟨t, e1, fx_new (.inr ⟨_, e3⟩) e3⟩)
                  have := fin (some (.int (1 + mv))) wl rl' _ kvs ws acc { D with left := some (1 + mv), rows := rws } Hh e0.symm lnew hLh (hst _ _ hLh (by intro x z; cases z) rLM LMF) x2 (some (.int nb)) x4 (some (.int i)) (some (.int kd)) (some (.ref LM)) x15 x16 x17 x18 x19 x20 Ht Hq t nt wq
                  have e5 : ({ D with left := some (1 + mv), rows := rws } : Dk).cut = false := hcut
                  rw [e5] at this
                  exact this
              · walk_at "rs"
                refine rd_ifS ?_
                walk_at "rs"
                refine rd_dec (fun e6 => ?_) (fun e6 => ?_)
                · have prf : Paired (RowR Hj) acc rws := pr
                  obtain ⟨F0, dx0, d0, w0, r0, kv0, ws0, rs0, dgi⟩ := id lj.dg
                  have obf := (dgi.mono lj.sG).ob
                  have fine := di.fine (by omega)
                  walk_at "rs"
                  refine ⟨p, LM, G, D, rws, acc, rfl, lj.dg, lj.sG, fine, hL, prf, fun G1 Hg dg1 st1 => ?_⟩
                  have lg := lj.step dg1 st1
                  have hLg : Hg LM = some (.lst acc) := st1.keep _ _ hL LMG
                  have prg : Paired (RowR Hg) acc rws := pmono prf fun v r z => by
                    obtain ⟨t, e0, e1⟩ := z
                    exact ⟨t, e0, st1.tups _ _ e1⟩
                  walk_at "rs"
                  refine ⟨ds, wl, LM, kvs, ws, acc, D.sec, D.wait, rws, FL, rfl, lg.dsx, lg.fl, lg.fds, lg.sec, lg.fl _ _ lg.wlx, lg.wait, hLg, prg, fine.s16, fine.w16, fine.sl, fine.wl, fine.nl, fun kvs' Hh dsh prh keh => ?_⟩
                  walk_at "rs"
                  intro wl' Hi nwi
                  walk_at "rs"
                  obtain ⟨⟨sz, hstz⟩, ⟨cz, hclz⟩⟩ := lg.stt.lst
                  have kall : ∀ b o, Hg b = some o → b ≠ ds → Hi b = some o := fun b o e h => nwi.keep (keh b o e h)
                  have wds : wl' ≠ ds := (ne_of_none dsh nwi.nw).symm
                  have wst : wl' ≠ st := (ne_of_none (keh _ _ hstz lg.ds_st.1.symm) nwi.nw).symm
                  have wcl : wl' ≠ cl := (ne_of_none (keh _ _ hclz lg.ds_st.2.symm) nwi.nw).symm
                  have nH : Hg wl' = none := by
                    cases q : Hg wl' with
                    | none => rfl
                    | some o => have := keh _ _ q wds; rw [nwi.nw] at this; cases this
                  refine ⟨x2, some (.int nb), x4, wl', rl, D.crash rws, G1, Fn Hg FL Hi, kvs', [], rs, some (.int i), some (.int kd), some (.ref LM), x14, x15, x16, x17, x18, x19, x20, rfl, ?_, (di.crash rws).mono (Nat.le_succ _)⟩
                  refine lg.own (E' := D.crash rws) (fun b o e => ?_) (lg.stt.keep fun b o hb e => kall b o e (by rcases hb with rfl | rfl; exact lg.ds_st.1.symm; exact lg.ds_st.2.symm)) (nwi.keep dsh) (fn_same fun b o e => kall b o (lg.fl _ _ e) fun z => by rw [z, lg.fds] at e; cases e) ?_ ?_ ?_ (fun b hb => ?_) ?_ (fn_new nH nwi.at_) .nil (fn_old lg.fl _ _ lg.rlx) (pmono lg.rows fun _ _ z => z.mono (fn_old lg.fl))
                  · exact kall b o (lg.sG b o e) fun z => by rw [z, lg.gds] at e; cases e
                  · unfold Fn; rw [hstz]; exact lg.fst
                  · unfold Fn; rw [hclz]; exact lg.fcl
                  · unfold Fn; rw [lg.dsx]; exact lg.fds
                  · cases q : Fn Hg FL Hi b with
                    | none => exact absurd q hb
                    | some o =>
                      rcases fn_get q with ⟨z, _⟩ | z
                      · refine .inl ?_
                        cases q2 : G1 b with
                        | none => rfl
                        | some u => have := st1.own _ _ q2; rw [z] at this; cases this
                      · rcases lg.dj b (by rw [z]; intro zz; cases zz) with y | ⟨xs, y⟩
                        · exact .inl y
                        · exact .inr ⟨xs, kall _ _ y fun zz => by rw [zz, lg.dsx] at y; cases y⟩
                  · exact pmono prh fun _ _ z => z.mono (fn_step lg.fl fun b o _ h2 => nwi.keep h2)
                · walk_at "rs"
                  refine ⟨st, cl, 255, rfl, lj.stt, by decide, by decide, fun v1 Hf va0 va1 sttf ef => ?_⟩
                  have lf := lj.take sttf ef
                  clear lj hL pr
                  walk_at "rs"
                  intro q1 Hg ng
                  have lg := lf.same ng.same
                  obtain ⟨⟨sz, hstz⟩, ⟨cz, hclz⟩⟩ := lf.stt.lst
                  have q1st : q1 ≠ st := (ne_of_none hstz ng.nw).symm
                  have q1cl : q1 ≠ cl := (ne_of_none hclz ng.nw).symm
                  walk_at "rs"
                  refine ⟨st, cl, 15, rfl, lg.stt, by decide, by decide, fun v2 Hh vb0 vb1 stth eh => ?_⟩
                  have lh := lg.take stth eh
                  have hq1 : Hh q1 = some (.lst [.int (1 + v1)]) := by rw [eh _ q1st q1cl]; exact ng.at_
                  walk_at "rs"
                  refine rd_rep hq1 (by omega) (by omega) (by show 1 * _ ≤ _; rw [sizeLine_eq]; omega) fun q2 Hi ni => ?_
                  rw [rep_int] at ni
                  have lii := lh.same ni.same
                  obtain ⟨⟨sz, hstz⟩, ⟨cz, hclz⟩⟩ := lh.stt.lst
                  have q2st : q2 ≠ st := (ne_of_none hstz ni.nw).symm
                  have q2cl : q2 ≠ cl := (ne_of_none hclz ni.nw).symm
                  walk_at "rs"
                  refine ⟨st, cl, 3, rfl, lii.stt, by decide, by decide, fun v3 Hk vc0 vc1 sttk ek => ?_⟩
                  have lk := lii.take sttk ek
                  have hq2 : Hk q2 = some (.lst ((List.replicate (1 + v2).toNat (1 + v1)).map V.int)) := by rw [ek _ q2st q2cl]; exact ni.at_
                  walk_at "rs"
                  intro q3 Hl nl
                  have hq2l := nl.keep hq2
                  walk_at "rs"
                  have elen : (((List.replicate (1 + v2).toNat (1 + v1)).map V.int).length : Int) = 1 + v2 := by rw [List.length_map, List.length_replicate]; omega
                  rw [elen]
                  refine rd_rep nl.at_ (by omega) (by omega) (by show 1 * _ ≤ _; rw [sizeLine_eq]; omega) fun q4 Hm nm => ?_
                  rw [rep_int] at nm
                  refine rd_addL (nm.keep hq2l) nm.at_ (by rw [List.length_map, List.length_map, List.length_replicate, List.length_replicate, sizeLine_eq]; omega) fun q5 Hn nn => ?_
                  rw [← List.map_append] at nn
                  have ctl : (List.replicate (1 + v2).toNat (1 + v1) ++ List.replicate (16 - (1 + v2)).toNat v3).length = 16 := by rw [List.length_append, List.length_replicate, List.length_replicate]; omega
                  generalize List.replicate (1 + v2).toNat (1 + v1) ++ List.replicate (16 - (1 + v2)).toNat v3 = ct at nn ctl
                  have lmm := (lk.same nl.same).same nm.same
                  have ln := lmm.same nn.same
                  have hq5 := nn.at_
                  obtain ⟨⟨sz, hstz⟩, ⟨cz, hclz⟩⟩ := lmm.stt.lst
                  have q5st : q5 ≠ st := (ne_of_none hstz nn.nw).symm
                  have q5cl : q5 ≠ cl := (ne_of_none hclz nn.nw).symm
                  have q5ds : q5 ≠ ds := (ne_of_none lmm.dsx nn.nw).symm
                  have q5G : G q5 = none := by
                    cases q : G q5 with
                    | none => rfl
                    | some u => have := lmm.sG _ _ q; rw [nn.nw] at this; cases this
                  have q5F : FL q5 = none := by
                    cases q : FL q5 with
                    | none => rfl
                    | some u => have := lmm.fl _ _ q; rw [nn.nw] at this; cases this
                  clear lmm lk lii lh lg lf hq2l hq2 hq1
                  walk_at "rs"
                  refine rd_joinS (Φ := fun σ' H' => ∃ wl' FL' kvs' ws', σ' = [some (.ref a), some (.ref st), x2, some (.int nb), some (.ref q5), some (.ref p), some (.ref ds), some (.ref wl'), some (lv D.counts.left), some (.ref rl), some (.bl D.counts.cut), some (.int i), some (.int kd), some (.ref LM), x14, x15, x16, x17, x18, x19, x20] ∧
                    LI (cD K) H' st cl p ds wl' rl D D.counts G FL' kvs' ws' rs ∧ H' q5 = some (.lst (ct.map V.int)) ∧ FL' q5 = none) (fun nx2 hnx2 => ?_) (fun σ2 H2 h2 => ?_)
                  · clear hnx
                    refine rd_ifS ?_
                    walk_at "rs"
                    cases hl : D.left with
                    | none =>
                      refine iteF ?_
                      refine iteF ?_
                      walk_at "rs"
                      have e : D.counts = D := by unfold Dk.counts; rw [hl]
                      refine ⟨wl, FL, kvs, ws, by rw [e, hl], by rw [e]; exact ln, hq5, q5F⟩
                    | some l =>
                      refine iteT ?_
                      walk_at "rs"
                      cases hc : D.cut with
                      | true =>
                        refine iteF ?_
                        walk_at "rs"
                        have e : D.counts = D := by unfold Dk.counts; rw [hl]; simp only [hc, if_true]
                        refine ⟨wl, FL, kvs, ws, by rw [e, hl, hc], by rw [e]; exact ln, hq5, q5F⟩
                      | false =>
                        refine iteT ?_
                        have l1 := di.lf hc l hl
                        walk_at "rs"
                        rw [lv_some]
                        walk_at "rs"
                        refine rd_ifS ?_
                        walk_at "rs"
                        refine rd_dec (fun e0 => ?_) (fun e0 => ?_)
                        · have fine := di.fine (by omega)
                          have ec : D.counts = { ({ D with left := some (l - 1) } : Dk).crash D.rows with cut := true } := by
                            unfold Dk.counts
                            rw [hl]
                            simp only [hc, Bool.false_eq_true, if_false]
                            rw [if_pos (by omega)]
                          walk_at "rs"
                          refine ⟨ds, wl, rl, kvs, ws, rs, D.sec, D.wait, D.rows, FL, rfl, ln.dsx, ln.fl, ln.fds, ln.sec, ln.fl _ _ ln.wlx, ln.wait, ln.fl _ _ ln.rlx, pmono ln.rows fun _ _ z => z.mono ln.fl, fine.s16, fine.w16, fine.sl, fine.wl, fine.nl, fun kvs' Ho dsh prh keh => ?_⟩
                          walk_at "rs"
                          intro wl' Hp1 nwi
                          walk_at "rs"
                          obtain ⟨⟨sz, hstz⟩, ⟨cz, hclz⟩⟩ := ln.stt.lst
                          have kall : ∀ b o, Hn b = some o → b ≠ ds → Hp1 b = some o := fun b o e h => nwi.keep (keh b o e h)
                          have wds : wl' ≠ ds := (ne_of_none dsh nwi.nw).symm
                          have nH : Hn wl' = none := by
                            cases q : Hn wl' with
                            | none => rfl
                            | some o => have := keh _ _ q wds; rw [nwi.nw] at this; cases this
                          rw [ec]
                          refine ⟨wl', Fn Hn FL Hp1, kvs', [], rfl, ?_, kall _ _ hq5 q5ds, by unfold Fn; rw [hq5]; exact q5F⟩
                          refine ln.own (E' := { ({ D with left := some (l - 1) } : Dk).crash D.rows with cut := true }) (fun b o e => ?_) (ln.stt.keep fun b o hb e => kall b o e (by rcases hb with rfl | rfl; exact ln.ds_st.1.symm; exact ln.ds_st.2.symm)) (nwi.keep dsh) (fn_same fun b o e => kall b o (ln.fl _ _ e) fun z => by rw [z, ln.fds] at e; cases e) ?_ ?_ ?_ (fun b hb => ?_) ?_ (fn_new nH nwi.at_) .nil (fn_old ln.fl _ _ ln.rlx) (pmono ln.rows fun _ _ z => z.mono (fn_old ln.fl))
                          · exact kall b o (ln.sG b o e) fun z => by rw [z, ln.gds] at e; cases e
                          · unfold Fn; rw [hstz]; exact ln.fst
                          · unfold Fn; rw [hclz]; exact ln.fcl
                          · unfold Fn; rw [ln.dsx]; exact ln.fds
                          · cases q : Fn Hn FL Hp1 b with
                            | none => exact absurd q hb
                            | some o =>
                              rcases fn_get q with ⟨z, _⟩ | z
                              · refine .inl ?_
                                cases q2 : G b with
                                | none => rfl
                                | some u => have := ln.sG _ _ q2; rw [z] at this; cases this
                              · rcases ln.dj b (by rw [z]; intro zz; cases zz) with y | ⟨xs, y⟩
                                · exact .inl y
                                · exact .inr ⟨xs, kall _ _ y fun zz => by rw [zz, ln.dsx] at y; cases y⟩
                          · exact pmono prh fun _ _ z => z.mono (fn_step ln.fl fun b o _ h2 => nwi.keep h2)
                        · have ec : D.counts = { D with left := some (l - 1) } := by
                            unfold Dk.counts
                            rw [hl]
                            simp only [hc, Bool.false_eq_true, if_false]
                            rw [if_neg (by omega)]
                          walk_at "rs"
                          rw [ec]
                          refine ⟨wl, FL, kvs, ws, ?_, ?_, hq5, q5F⟩
                          · show _ = [some (V.ref a), some (.ref st), x2, some (.int nb), some (.ref q5), some (.ref p), some (.ref ds), some (.ref wl), some (.int (l - 1)), some (.ref rl), some (.bl D.cut), some (.int i), some (.int kd), some (.ref LM), x14, x15, x16, x17, x18, x19, x20]
                            rw [hc]
                          · exact ln.setW (E' := { D with left := some (l - 1) }) rfl rfl ln.wlx ln.wait
                  · obtain ⟨wl', FL', kvs', ws', rfl, l2, hq5', q5F'⟩ := h2
                    clear ln hq5 q5F nn
                    have fine := di.fine (by omega)
                    obtain ⟨F0, dx0, d0, w0, r0, kv0, ws0, rs0, dgi⟩ := id l2.dg
                    have obf := (dgi.mono l2.sG).ob
                    have dcounts := di.counts
                    walk_at "rs"
                    refine rd_ifS ?_
                    walk_at "rs"
                    refine rd_dec (fun e4 => ?_) (fun e4 => ?_)
                    · walk_at "rs"
                      refine ⟨p, q5, nb, ct, G, D, rfl, l2.dg, l2.sG, fine, hq5', q5G, fun G1 Hr dg1 st1 => ?_⟩
                      have l3 := l2.step dg1 st1
                      have hq6 : Hr q5 = some (.lst (ct.map V.int)) := st1.keep _ _ hq5' q5G
                      have q5G1 : G1 q5 = none := step_no st1 hq5' (by intro x z; cases z) q5G
                      have wlx := l3.fl _ _ l3.wlx
                      have wsl : ws'.length = D.counts.wait.length := l3.wait.length
                      have wsb : ws'.length ≤ 60 := by have := dcounts.wl; omega
                      have diw := di.write (n := nb) (c := ct) ⟨nb0, nb1⟩ ctl
                      walk_at "rs"
                      have ix0 : ixN (ct.map V.int).length 0 = some 0 := by
                        unfold ixN
                        rw [if_pos (Int.le_refl 0), if_pos (by rw [List.length_map, ctl]; decide)]
                        rfl
                      refine rd_if ?_
                      walk_at "rs"
                      cases hcut : D.counts.cut with
                      | true =>
                        have ew : D.write nb ct = D.counts := by unfold Dk.write; rw [if_pos hcut]
                        refine iteF ?_
                        walk_at "rs"
                        intro q6 Hs ns6
                        refine rd_addL (ns6.keep wlx) ns6.at_ (by rw [List.length_nil, sizeLine_eq]; omega) fun q7 Ht nt7 => ?_
                        rw [List.append_nil] at nt7
                        have hq7 := nt7.keep (ns6.keep hq6)
                        walk_at "rs"
                        refine rd_setL hq7 ix0 fun Hu wu => ?_
                        walk_at "rs"
                        have l4 := (l3.same ns6.same).same nt7.same
                        obtain ⟨⟨sz, hstz⟩, ⟨cz, hclz⟩⟩ := (l3.same ns6.same).stt.lst
                        have g7 : ∀ b, b = q7 → G1 b = none ∧ b ≠ st ∧ b ≠ cl ∧ b ≠ ds := fun b e => by
                          subst e
                          refine ⟨?_, (ne_of_none hstz nt7.nw).symm, (ne_of_none hclz nt7.nw).symm, (ne_of_none (l3.same ns6.same).dsx nt7.nw).symm⟩
                          cases q : G1 b with
                          | none => rfl
                          | some u => have := (l3.same ns6.same).sG _ _ q; rw [nt7.nw] at this; cases this
                        have l5 := l4.grow (fun b => b = q7) g7
                        have l6 := l5.setW (E' := D.counts) (wl' := q7) (ws' := ws') rfl rfl (fx_new rfl nt7.at_) l5.wait
                        have q57 : q5 ≠ q7 := ne_of_none (ns6.keep hq6) nt7.nw
                        have l7 := l6.wr wu q5G1 (fx_no q5F' q57) q5st q5cl q5ds
                        rw [ew] at l7 diw
                        exact ⟨x2, some (.int nb), some (.ref q5), q7, rl, D.counts, G1, _, kvs', ws', rs, some (.int i), some (.int kd), some (.ref LM), x14, x15, x16, x17, x18, x19, x20, by rw [hcut], l7, diw⟩
                      | false =>
                        have ew : D.write nb ct = { D.counts with wait := D.counts.wait ++ [(nb, ct)] } := by unfold Dk.write; rw [if_neg (by rw [hcut]; exact Bool.false_ne_true)]
                        refine iteT ?_
                        walk_at "rs"
                        intro q6 Hs ns6
                        walk_at "rs"
                        intro t6 Ht nt6
                        walk_at "rs"
                        intro q7 Hu nu7
                        refine rd_addL (nu7.keep (nt6.keep (ns6.keep wlx))) nu7.at_ (by rw [List.length_singleton, sizeLine_eq]; omega) fun q8 Hv nv8 => ?_
                        have hq8 := nv8.keep (nu7.keep (nt6.keep (ns6.keep hq6)))
                        walk_at "rs"
                        refine rd_setL hq8 ix0 fun Hw ww => ?_
                        walk_at "rs"
                        have l4 := (((l3.same ns6.same).same nt6.same).same nu7.same).same nv8.same
                        obtain ⟨⟨sz, hstz⟩, ⟨cz, hclz⟩⟩ := l3.stt.lst
                        have fresh : ∀ b, Hr b = none → G1 b = none ∧ b ≠ st ∧ b ≠ cl ∧ b ≠ ds := fun b e => by
                          refine ⟨?_, (ne_of_none hstz e).symm, (ne_of_none hclz e).symm, (ne_of_none l3.dsx e).symm⟩
                          cases q : G1 b with
                          | none => rfl
                          | some u => have := l3.sG _ _ q; rw [e] at this; cases this
                        have f6 : Hr q6 = none := ns6.nw
                        have f6t : Hr t6 = none := ns6.free nt6.nw
                        have f8 : Hr q8 = none := ns6.free (nt6.free (nu7.free nv8.nw))
                        have l5 := l4.grow (fun b => b = q6 ∨ b = t6 ∨ b = q8) fun b e => by
                          rcases e with rfl | rfl | rfl
                          · exact fresh _ f6
                          · exact fresh _ f6t
                          · exact fresh _ f8
                        have l6 := l5.setW (E' := { D.counts with wait := D.counts.wait ++ [(nb, ct)] }) (wl' := q8) (ws' := ws' ++ [.ref t6]) rfl rfl (fx_new (.inr (.inr rfl)) nv8.at_)
                          (l5.wait.snoc ⟨t6, q6, rfl, fx_new (.inr (.inl rfl)) (nv8.keep (nu7.keep nt6.at_)), fx_new (.inl rfl) (nv8.keep (nu7.keep (nt6.keep ns6.at_)))⟩)
                        have n5 : ∀ b, Hr b = none → q5 ≠ b := fun b e => ne_of_none hq6 e
                        have l7 := l6.wr ww q5G1 (fx_no q5F' fun z => by
                          rcases z with z | z | z
                          · exact n5 _ f6 z
                          · exact n5 _ f6t z
                          · exact n5 _ f8 z) q5st q5cl q5ds
                        rw [ew] at l7 diw
                        exact ⟨x2, some (.int nb), some (.ref q5), q8, rl, { D.counts with wait := D.counts.wait ++ [(nb, ct)] }, G1, _, kvs', _, rs, some (.int i), some (.int kd), some (.ref LM), x14, x15, x16, x17, x18, x19, x20, by rw [← hcut], l7, diw⟩
                    · walk_at "rs"
                      refine ⟨p, G, D, rfl, l2.dg, l2.sG, fine, fun G1 Hr dg1 st1 => ?_⟩
                      have l3 := l2.step dg1 st1
                      have wlx := l3.fl _ _ l3.wlx
                      have wsl : ws'.length = D.counts.wait.length := l3.wait.length
                      have wsb : ws'.length ≤ 60 := by have := dcounts.wl; omega
                      have dis := di.sync
                      walk_at "rs"
                      refine rd_if ?_
                      walk_at "rs"
                      cases hcut : D.counts.cut with
                      | true =>
                        have ew : D.sync = D.counts := by unfold Dk.sync; rw [if_pos hcut]
                        refine iteF ?_
                        walk_at "rs"
                        intro q6 Hs ns6
                        refine rd_kforL (SqL.of ns6.at_) (fun j σ Hc => σ = [some (.ref a), some (.ref st), x2, some (.int nb), some (.ref q5), some (.ref p), some (.ref ds), some (.ref wl'), some (lv D.counts.left), some (.ref rl), some (.bl true), some (.int i), some (.int kd), some (.ref LM), x14, x15, x16, x17, x18, x19, x20] ∧ Hc = Hs) ⟨rfl, rfl⟩ (fun j σ Hc _ h => ?_) (fun j x σ Hc hx h => ?_) (fun σ Hc h => ?_)
                        · rw [h.2]; exact SqL.of ns6.at_
                        · cases hx
                        · obtain ⟨rfl, rfl⟩ := h
                          walk_at "rs"
                          refine rd_if ?_
                          walk_at "rs"
                          refine iteT ?_
                          walk_at "rs"
                          have l4 := l3.same ns6.same
                          rw [ew] at l4 dis
                          exact ⟨x2, some (.int nb), some (.ref q5), wl', rl, D.counts, G1, _, kvs', ws', rs, some (.int i), some (.int kd), some (.ref LM), x14, x15, x16, x17, x18, x19, x20, by rw [hcut], l4, dis.mono (Nat.le_succ _)⟩
                      | false =>
                        have ew : D.sync = { D.counts with sec := syncS D.counts.sec D.counts.wait, wait := [] } := by unfold Dk.sync; rw [if_neg (by rw [hcut]; exact Bool.false_ne_true)]
                        refine iteT ?_
                        walk_at "rs"
                        have wd : wl' ≠ ds := ne_of wlx l3.dsx (by intro z; cases z)
                        refine rd_kforL (SqL.of wlx) (fun j σ Hc => ∃ y15 y16 kv, σ = [some (.ref a), some (.ref st), x2, some (.int nb), some (.ref q5), some (.ref p), some (.ref ds), some (.ref wl'), some (lv D.counts.left), some (.ref rl), some (.bl false), some (.int i), some (.int kd), some (.ref LM), x14, y15, y16, x17, x18, x19, x20] ∧
                          Hc ds = some (.dK kv) ∧ Paired (SecR FL') kv (syncS D.counts.sec (D.counts.wait.take j)) ∧ (∀ b o, Hr b = some o → b ≠ ds → Hc b = some o) ∧ kv.length ≤ D.counts.sec.length + j) ⟨_, _, kvs', rfl, l3.dsx, l3.sec, fun b o e _ => e, by rw [l3.sec.length]; omega⟩ (fun j σ Hc _ h => ?_) (fun j x σ Hc hx h => ?_) (fun σ Hc h => ?_)
                        · obtain ⟨_, _, _, _, _, _, kc, _⟩ := h
                          exact SqL.of (kc _ _ wlx wd)
                        · obtain ⟨y15, y16, kv, rfl, dc, prk, kc, kl⟩ := h
                          obtain ⟨q, hq, t, cc, rfl, et, ic⟩ := pget l3.wait hx
                          have et1 : Hc t = _ := kc _ _ (l3.fl _ _ et) (ne_of (l3.fl _ _ et) l3.dsx (by intro z; cases z))
                          have jl : j < D.counts.wait.length := (List.getElem?_eq_some_iff.mp hq).1
                          have secb := sec_few dcounts.nd dcounts.sk
                          walk_at "rs"
                          refine rd_dpo dc (by rw [sizeLine_eq]; omega) fun Hd wd2 => ?_
                          have es : syncS D.counts.sec (D.counts.wait.take (j + 1)) = putS (syncS D.counts.sec (D.counts.wait.take j)) q.1 q.2 := by
                            unfold syncS
                            rw [take_snoc hq, List.foldl_append]
                            rfl
                          refine ⟨_, _, _, rfl, wd2.at_, by rw [es]; exact sec_put ic prk, fun b o h1 h2 => wd2.keep (kc b o h1 h2) h2, ?_⟩
                          have : (putK kv (Sum.inl q.1) (V.ref cc)).length ≤ kv.length + 1 := by
                            unfold putK
                            split <;> simp
                          omega
                        · obtain ⟨y15, y16, kv, rfl, dc, prk, kc, kl⟩ := h
                          rw [wsl, List.take_length] at prk
                          walk_at "rs"
                          refine rd_if ?_
                          walk_at "rs"
                          refine iteF ?_
                          walk_at "rs"
                          intro q6 Hs ns6
                          walk_at "rs"
                          obtain ⟨⟨sz, hstz⟩, ⟨cz, hclz⟩⟩ := l3.stt.lst
                          have kall : ∀ b o, Hr b = some o → b ≠ ds → Hs b = some o := fun b o e h => ns6.keep (kc b o e h)
                          have q6ds : q6 ≠ ds := (ne_of_none dc ns6.nw).symm
                          have nH : Hr q6 = none := by
                            cases q : Hr q6 with
                            | none => rfl
                            | some o => have := kc _ _ q q6ds; rw [ns6.nw] at this; cases this
                          have l4 : LI (cD K) Hs st cl p ds q6 rl D.sync D.sync G1 (Fx FL' Hs (fun b => b = q6)) kv [] rs := by
                            have so : Same FL' (Fx FL' Hs (fun b => b = q6)) := fx_old fun b o e => kall b o (l3.fl b o e) fun z => by rw [z, l3.fds] at e; cases e
                            refine l3.own (E' := D.sync) (fun b o e => kall b o (l3.sG b o e) fun z => by rw [z, l3.gds] at e; cases e) (l3.stt.keep fun b o hb e => kall b o e (by rcases hb with rfl | rfl; exact l3.ds_st.1.symm; exact l3.ds_st.2.symm)) (ns6.keep dc) fx_same (fx_no l3.fst (ne_of_none hstz nH)) (fx_no l3.fcl (ne_of_none hclz nH)) (fx_no l3.fds q6ds.symm) (fun b hb => ?_) ?_ (fx_new rfl ns6.at_) ?_ (so _ _ l3.rlx) ?_
                            · rcases fx_get hb with z | z
                              · rcases l3.dj b z with y | ⟨xs, y⟩
                                · exact .inl y
                                · exact .inr ⟨xs, kall _ _ y fun zz => by rw [zz, l3.dsx] at y; cases y⟩
                              · refine .inl ?_
                                rw [z]
                                cases q : G1 q6 with
                                | none => rfl
                                | some u => have := l3.sG _ _ q; rw [nH] at this; cases this
                            · rw [ew]; exact pmono prk fun _ _ z => z.mono so
                            · rw [ew]; exact .nil
                            · rw [ew]; exact pmono l3.rows fun _ _ z => z.mono so
                          refine ⟨x2, some (.int nb), some (.ref q5), q6, rl, D.sync, G1, _, kv, [], rs, some (.int i), some (.int kd), some (.ref LM), x14, y15, y16, x17, x18, x19, x20, ?_, l4, dis.mono (Nat.le_succ _)⟩
                          have e1 : D.sync.left = D.counts.left := by rw [ew]
                          have e2 : D.sync.cut = false := by rw [ew]; exact hcut
                          rw [e1, e2]
            · obtain ⟨x2, x3, x4, wl, rl, D, G, FL, kvs, ws, rs, x11, x12, x13, x14, x15, x16, x17, x18, x19, x20, rfl, li, di⟩ := h2
              have fine := di.fine (by omega)
              obtain ⟨F0, dx0, d0, w0, r0, kv0, ws0, rs0, dgi⟩ := id li.dg
              have obf := (dgi.mono li.sG).ob
              have wlx := li.fl _ _ li.wlx
              walk_at "rd"
              refine rd_ndec (fun e => absurd rfl e) (fun _ => ?_)
              walk_at "rs"
              refine rd_kforR (n := 5) rfl (by decide) (fun j σ Hc => ∃ y15 y16 y17 y18 y19, σ = [some (.ref a), some (.ref st), x2, x3, x4, some (.ref p), some (.ref ds), some (.ref wl), some (lv D.left), some (.ref rl), some (.bl D.cut), x11, x12, x13, x14, y15, y16, y17, y18, y19, x20] ∧ Same H2 Hc) ⟨_, _, _, _, _, rfl, Same.refl _⟩ (fun j σ Hc hj h => ?_) (fun σ Hc h => ?_)
              · obtain ⟨y15, y16, y17, y18, y19, rfl, sc⟩ := h
                have lc := li.same sc
                walk_at "rs"
                refine rd_isD lc.dsx ?_
                walk_at "rs"
                intro q1 Hd n1
                walk_at "rs"
                refine rd_rep n1.at_ (by decide) (by decide) (by decide) fun q2 He n2 => ?_
                rw [blank_v] at n2
                have le_ := (lc.same n1.same).same n2.same
                refine rd_dgo le_.dsx ?_
                have sce : Same H2 He := fun b o e => n2.keep (n1.keep (sc b o e))
                obtain ⟨a7, va7, ia7⟩ : ∃ a7, (valV kvs (Sum.inl (j : Int))).getD (.ref q2) = .ref a7 ∧ IL He a7 (getS D.sec (j : Int)) := by
                  rcases sec_look le_.sec (j : Int) with ⟨e1, e2⟩ | ⟨a', c, e1, e2, i'⟩
                  · refine ⟨q2, by rw [e2]; rfl, ?_⟩
                    have e3 : getS D.sec (j : Int) = blank := by unfold getS; rw [e1]; rfl
                    rw [e3]; exact n2.at_
                  · refine ⟨a', by rw [e2]; rfl, ?_⟩
                    have e3 : getS D.sec (j : Int) = c := by unfold getS; rw [e1]; rfl
                    rw [e3]; exact le_.fl _ _ i'
                rw [va7]
                walk_at "rs"
                have wle := sce _ _ wlx
                refine rd_kforL (SqL.of wle) (fun m σ Hf => ∃ z16 z18 a8, σ = [some (.ref a), some (.ref st), x2, x3, x4, some (.ref p), some (.ref ds), some (.ref wl), some (lv D.left), some (.ref rl), some (.bl D.cut), x11, x12, x13, x14, some (.int j), z16, some (.ref a8), z18, y19, x20] ∧ Hf = He ∧ IL He a8 (readW (D.wait.take m) j (getS D.sec j))) ⟨_, _, a7, rfl, rfl, ia7⟩ (fun m σ Hf _ h => ?_) (fun m x σ Hf hx h => ?_) (fun σ Hf h => ?_)
                · obtain ⟨_, _, _, _, rfl, _⟩ := h
                  exact SqL.of wle
                · obtain ⟨z16, z18, a8, rfl, rfl, ia8⟩ := h
                  obtain ⟨q, hq, t, cc, rfl, et, ic⟩ := pget le_.wait hx
                  have et1 := le_.fl _ _ et
                  have ic1 := le_.fl _ _ ic
                  walk_at "rs"
                  refine rd_if ?_
                  walk_at "rs"
                  refine rd_dec (fun e => ?_) (fun e => ?_)
                  · walk_at "rs"
                    exact ⟨_, _, cc, rfl, rfl, by rw [readW_snoc hq, if_pos e]; exact ic1⟩
                  · walk_at "rs"
                    exact ⟨_, _, a8, rfl, rfl, by rw [readW_snoc hq, if_neg e]; exact ia8⟩
                · obtain ⟨z16, z18, a8, rfl, rfl, ia8⟩ := h
                  rw [le_.wait.length, List.take_length] at ia8
                  have obe := sce _ _ obf
                  walk_at "rs"
                  refine ⟨p, j, G, D, rfl, le_.dg, le_.sG, fine, fun a9 Hg na9 sg ia9 => ?_⟩
                  have ia8g := sg _ _ ia8
                  unfold IL at ia9
                  walk_at "rd"
                  refine rd_neL ia9 ia8g ?_
                  walk_at "rd"
                  refine rd_ndec (fun e => absurd rfl e) (fun _ => ?_)
                  walk_at "rs"
                  have r16 := read16 di.s16 di.w16 (j : Int)
                  refine rd_setL ia9 (j := 0) (by
                    unfold ixN
                    rw [if_pos (Int.le_refl 0), if_pos (by rw [List.length_map, r16]; decide)]
                    rfl) fun Hh wh => ?_
                  walk_at "rs"
                  exact ⟨_, _, _, _, _, rfl, fun b o e => wh.keep (sg _ _ (sce _ _ e)) (ne_of_none (sce _ _ e) na9)⟩
              · obtain ⟨y15, y16, y17, y18, y19, rfl, sc⟩ := h
                have lc := li.same sc
                have obc := sc _ _ obf
                walk_at "rs"
                refine ⟨p, G, D, rfl, lc.dg, lc.sG, fine, fun a10 xs Hd na10 sd ha10 pxs => ?_⟩
                have ld := lc.same sd
                walk_at "rs"
                refine rd_ifS ?_
                walk_at "rs"
                refine rd_sortDI ld.dsx (ks := D.sec.map (·.1)) (sec_keys ld.sec) (by rw [List.length_map]; exact fine.nk) fun ys l1 He hp hs ne1 => ?_
                obtain rfl := perm_sorted hp hs fine.nd
                have nlen : (nums D.sec).length < 64 := Nat.lt_of_le_of_lt (nums_len _) fine.nk
                have le1 := ld.same ne1.same
                refine rd_klcL (by walk_at "wp") (SqL.of ne1.at_) fun LA Hf nf => ⟨fun m Hg => (∃ acc, Hg LA = some (.lst acc) ∧ acc.length ≤ m ∧ Paired (fun v (rr : Int × List Int) => ∃ t b, v = V.ref t ∧ Hg t = some (.tup [.int rr.1, .ref b]) ∧ IL He b rr.2) acc (((((nums D.sec).map fun n => (n, getS D.sec n))).take m).filter fun rr => decide (rr.2 ≠ blank))) ∧ Same He Hg, ⟨⟨[], nf.at_, Nat.le_refl _, .nil⟩, nf.same⟩, fun m Hg _ h => SqL.of (h.2 _ _ ne1.at_), fun m x Hg hx h => ?_, fun Hg h => ?_⟩
                · obtain ⟨⟨acc, hl, la, pa⟩, sg⟩ := h
                  obtain ⟨k1, hk1, rfl⟩ : ∃ k1, (nums D.sec)[m]? = some k1 ∧ x = V.int k1 := by
                    rw [List.getElem?_map] at hx
                    cases e : (nums D.sec)[m]? with
                    | none => rw [e] at hx; cases hx
                    | some k1 => rw [e] at hx; exact ⟨k1, rfl, (Option.some.inj hx).symm⟩
                  have ml : m < (nums D.sec).length := (List.getElem?_eq_some_iff.mp hk1).1
                  obtain ⟨a1, c1, lk, vk, ia⟩ : ∃ a c, look D.sec k1 = some c ∧ valV kvs (Sum.inl k1) = some (.ref a) ∧ IL FL a c := by
                    rcases sec_look le1.sec k1 with ⟨e1, _⟩ | z
                    · have hmem : k1 ∈ D.sec.map (·.1) := (nums_mem D.sec k1).mp (List.mem_of_getElem? hk1)
                      obtain ⟨r0, hr0, er⟩ := List.mem_map.mp hmem
                      unfold look at e1
                      have := List.find?_eq_none.mp (Option.map_eq_none_iff.mp e1) r0 hr0
                      simp [er] at this
                    · exact z
                  have gs : getS D.sec k1 = c1 := by unfold getS; rw [lk]; rfl
                  have iae : IL He a1 c1 := le1.fl _ _ ia
                  have dsg := sg _ _ le1.dsx
                  have hrr : (((nums D.sec).map fun n => (n, getS D.sec n)))[m]? = some (k1, c1) := by rw [List.getElem?_map, hk1, ← gs]; rfl
                  have tk : ((((nums D.sec).map fun n => (n, getS D.sec n)).take (m + 1)).filter fun rr => decide (rr.2 ≠ blank)) = ((((nums D.sec).map fun n => (n, getS D.sec n)).take m).filter fun rr => decide (rr.2 ≠ blank)) ++ (if c1 = blank then [] else [(k1, c1)]) := by
                    rw [take_snoc hrr, List.filter_append]
                    congr 1
                    by_cases z : c1 = blank <;> simp [z]
                  walk_at "rs"
                  refine rd_dgv dsg vk ?_
                  walk_at "rs"
                  intro q0 Hh nh
                  walk_at "rs"
                  refine rd_rep nh.at_ (by decide) (by decide) (by decide) fun q1 Hi ni => ?_
                  rw [blank_v] at ni
                  have k5 : ∀ b o, Hg b = some o → Hi b = some o := fun b o e => ni.keep (nh.keep e)
                  refine rd_neL (k5 _ _ (sg _ _ iae)) ni.at_ ?_
                  walk_at "rs"
                  refine rd_ndec (fun e => ?_) (fun e => ?_)
                  · walk_at "rs"
                    refine rd_dgv (k5 _ _ dsg) vk ?_
                    walk_at "rs"
                    intro t Hk nk
                    refine rd_kacc (nk.keep (k5 _ _ hl)) (by omega) fun Hl wl1 => ?_
                    have tLA : t ≠ LA := (ne_of_none (k5 _ _ hl) nk.nw).symm
                    refine ⟨⟨_, wl1.at_, by rw [List.length_append]; simp; omega, ?_⟩, fun b o e => wl1.keep (nk.keep (k5 _ _ (sg _ _ e))) (ne_of_none e nf.nw)⟩
                    rw [tk, if_neg e]
                    refine (pmono pa fun v rr z => ?_).snoc ⟨t, a1, rfl, wl1.keep nk.at_ tLA, iae⟩
                    obtain ⟨t', b', e0, e1, e2⟩ := z
                    exact ⟨t', b', e0, wl1.keep (nk.keep (k5 _ _ e1)) (fun zz => by rw [zz, hl] at e1; cases e1), e2⟩
                  · refine ⟨⟨acc, k5 _ _ hl, by omega, ?_⟩, fun b o e => k5 _ _ (sg b o e)⟩
                    rw [tk, if_pos e, List.append_nil]
                    exact pmono pa fun v rr z => by
                      obtain ⟨t', b', e0, e1, e2⟩ := z
                      exact ⟨t', b', e0, k5 _ _ e1, e2⟩
                · obtain ⟨⟨acc, hl, la, pa⟩, sg⟩ := h
                  have e1 : ((nums D.sec).map V.int).length = ((nums D.sec).map fun n => (n, getS D.sec n)).length := by rw [List.length_map, List.length_map]
                  rw [e1, List.take_length] at pa
                  have sdg : Same Hd Hg := fun b o e => sg _ _ (ne1.keep e)
                  refine rd_neD (d := dRows (synced D.sec)) (e := dRows (synced D.sec)) (dp_rows (sdg _ _ ha10) (pmono pxs fun v r z => by
                    obtain ⟨t, b, e0, e1, e2, _⟩ := z
                    exact ⟨t, b, e0, sdg _ _ e1, sdg _ _ e2⟩)) (dp_rows hl (pmono pa fun v r z => by
                    obtain ⟨t, b, e0, e1, e2⟩ := z
                    exact ⟨t, b, e0, e1, sg _ _ e2⟩)) (shaped_rows _) (shaped_rows _) ?_
                  rw [eqv_rows']
                  walk_at "rs"
                  refine iteF ?_
                  walk_at "rs"
                  have hta := sdg _ _ ha10
                  have base_ : ∀ v ∈ xs, ∃ (t b : Addr) (m : Int), v = V.ref t ∧ Hg t = some (.tup [.int m, .ref b]) ∧ H2 b = none ∧ ∃ ns : List Int, Hg b = some (.lst (ns.map V.int)) ∧ ns.length = 16 := fun v hv => by
                    obtain ⟨i0, hi0, e0⟩ := List.getElem_of_mem hv
                    obtain ⟨rr, hrr, t, b, e1, e2, e3, e4, e5⟩ := pget pxs (List.getElem?_eq_some_iff.mpr ⟨hi0, e0⟩)
                    exact ⟨t, b, rr.1, e1, sdg _ _ e2, Same.free sc e5, rr.2, sdg _ _ e3, (synced_mem (List.mem_of_getElem? hrr) di.s16).1⟩
                  refine rd_kforL (SqL.of hta) (fun m σ Hh => ∃ z4 z15, σ = [some (.ref a), some (.ref st), x2, x3, z4, some (.ref p), some (.ref ds), some (.ref wl), some (lv D.left), some (.ref rl), some (.bl D.cut), x11, x12, x13, x14, z15, y16, y17, y18, some (.ref a10), x20] ∧ Same H2 Hh ∧ Hh a10 = some (.lst xs) ∧
                    ∀ v ∈ xs, ∃ (t b : Addr) (m : Int), v = V.ref t ∧ Hh t = some (.tup [.int m, .ref b]) ∧ H2 b = none ∧ ∃ ns : List Int, Hh b = some (.lst (ns.map V.int)) ∧ ns.length = 16) ⟨_, _, rfl, fun b o e => sdg _ _ (sd _ _ (sc _ _ e)), hta, base_⟩ (fun m σ Hh _ h => ?_) (fun m x σ Hh hx h => ?_) (fun σ Hh h => ?_)
                  · obtain ⟨_, _, _, _, h3, _⟩ := h
                    exact SqL.of h3
                  · obtain ⟨z4, z15, rfl, sh, h3, hall⟩ := h
                    have hm := List.mem_of_getElem? hx
                    obtain ⟨t, b, m1, rfl, et, nb, ns', hb, hn16⟩ := hall _ hm
                    walk_at "rs"
                    refine rd_setL hb (j := 3) (by
                      unfold ixN
                      rw [if_pos (by decide), if_pos (by rw [List.length_map, hn16]; decide)]
                      rfl) fun Hi wi => ?_
                    have hba : a10 ≠ b := fun e => by
                      rw [e, hb] at h3
                      have h4 := Option.some.inj h3
                      injection h4 with h5
                      rw [← h5] at hm
                      obtain ⟨y, _, hy⟩ := List.mem_map.mp hm
                      cases hy
                    refine ⟨_, _, rfl, fun c o e => wi.keep (sh c o e) (ne_of_none e nb), wi.keep h3 hba, fun v hv => ?_⟩
                    obtain ⟨t', b', m', e0, e1, e2, ns2, e3, e4⟩ := hall v hv
                    refine ⟨t', b', m', e0, wi.keep e1 (fun z => by rw [z, hb] at e1; cases e1), e2, ?_⟩
                    by_cases hbb : b' = b
                    · exact ⟨ns'.set 3 99, by rw [hbb, wi.at_, List.map_set], by rw [List.length_set]; exact hn16⟩
                    · exact ⟨ns2, wi.keep e3 hbb, e4⟩
                  · obtain ⟨z4, z15, rfl, sh, h3, hall⟩ := h
                    exact ⟨x2, x3, z4, wl, rl, D, G, FL, kvs, ws, rs, x11, x12, x13, x14, z15, y16, y17, y18, some (.ref a10), x20, rfl, li.same sh, di⟩
        · obtain ⟨x2, x3, x4, wl, rl, D, G, FL, kvs, ws, rs, x11, x12, x13, x14, x15, x16, x17, x18, x19, x20, rfl, li, di⟩ := h
          have fine := di.fine (by omega)
          obtain ⟨F0, dx0, d0, w0, r0, kv0, ws0, rs0, dgi⟩ := id li.dg
          have obf := (dgi.mono li.sG).ob
          walk_at "rs"
          refine ⟨p, G, D, rfl, li.dg, li.sG, fine, fun a1 xs1 Ha na1 sa ha1 px1 => ?_⟩
          have la := li.same sa
          have l16 : ∀ r ∈ synced D.sec, r.2.length = 16 := fun r hr => (synced_mem hr di.s16).1
          have lk4 : ∀ r ∈ synced D.sec, 0 ≤ r.1 ∧ r.1 < 4 := fun r hr => by
            obtain ⟨r0, h0, e0⟩ := List.mem_map.mp (synced_mem hr di.s16).2
            rw [← e0]
            exact di.sk r0 h0
          have lnd := sorted_nodup (synced_sorted D.sec)
          have llen := sec_few lnd lk4
          walk_at "rs"
          intro x dx Hb mb
          refine ⟨x, dx, a1, xs1, synced D.sec, rfl, mb.at_, mb.same _ _ ha1, pmono px1 fun v r z => by
            obtain ⟨t, b, e0, e1, e2, _⟩ := z
            exact ⟨t, b, e0, mb.same _ _ e1, mb.same _ _ e2⟩, by omega, fun G2 Hc dg2 sG2 kp2 ng2 => ⟨rfl, ?_⟩⟩
          have sac : Same Ha Hc := fun b o e => kp2 _ _ (mb.same _ _ e) (ne_of_none e mb.nx)
          obtain ⟨F1, dx1, d1, w1, r1, kv1, ws1, rs1, dgi2⟩ := id dg2
          have obx := (dgi2.mono sG2).ob
          have esy : syncS [] (synced D.sec) = synced D.sec := by rw [syncS_nd _ _ (by simpa using lnd)]; rfl
          have fine2 : Fine (Dk.new (synced D.sec)) := by
            refine ⟨(fun r hr => ?_), (fun r hr => by cases hr), ?_, ?_, Nat.zero_le _, (by show ([] : List Int).length < 64; decide), ?_, Nat.zero_le _⟩
            · have hr : r ∈ syncS [] (synced D.sec) := hr
              rw [esy] at hr; exact l16 r hr
            · show ((syncS [] (synced D.sec)).map (·.1)).Nodup
              rw [esy]; exact lnd
            · show (syncS [] (synced D.sec)).length ≤ 100000
              rw [esy]; omega
            · show (syncS [] (synced D.sec)).length < 64
              rw [esy]; omega
          walk_at "rs"
          refine ⟨x, G2, Dk.new (synced D.sec), rfl, dg2, sG2, fine2, fun a2 xs2 Hd na2 sd2 ha2 px2 => ?_⟩
          have ld := la.same (sac.trans sd2)
          have obd := sd2 _ _ (sac _ _ (sa _ _ obf))
          walk_at "rs"
          refine ⟨p, G, D, rfl, ld.dg, ld.sG, fine, fun a3 xs3 He na3 se ha3 px3 => ?_⟩
          refine rd_eqD (d := dRows (synced D.sec)) (e := dRows (synced D.sec)) (dp_rows (se _ _ ha2) ?_) (dp_rows ha3 (pmono px3 fun v r z => by
            obtain ⟨t, b, e0, e1, e2, _⟩ := z
            exact ⟨t, b, e0, e1, e2⟩)) (shaped_rows _) (shaped_rows _) ?_
          · have e9 : synced (Dk.new (synced D.sec)).sec = synced D.sec := synced_again D.sec
            rw [e9] at px2
            exact pmono px2 fun v r z => by
              obtain ⟨t, b, e0, e1, e2, _⟩ := z
              exact ⟨t, b, e0, se _ _ e1, se _ _ e2⟩
          · rw [eqv_rows']
            exact k _
end
end K51
namespace K51
open PySem PySem.Spec PyProof.Rows L2 He Sb
theorem facts {P : Program} {w : World} {K : PySem.W.Frag} {h : Heap} {mg : Str → Option Value} {f : Addr} (KX : K.In h) (G : h.Ns mainGlobals mg) (hfa : mg ("law" : Str) = some (.ref f)) (c : He.SaysD fa fn K) :
    ∃ fd : FuncData, (∀ (s : Shared) (v : Value), BindsTo s fd ⟨[v], []⟩ [("script", v)]) ∧ ∀ base : Heap, K.In base → base.Ns mainGlobals mg → FnOk P w K mg base CX0 6 f fd ["script"] (spLaw K) := by
  have W : Wd K mg := ⟨c, h, KX, G⟩
  obtain ⟨fd, F⟩ := c.def_ 3 (d := d_law) rfl
  cases hfa.symm.trans (f_glo_law W)
  have b := FunD.bindsA (ps := ["script"]) F fun _ _ _ _ _ _ us hl => match us, hl with | [_], _ => rfl
  refine ⟨fd, fun s v => b s [v] rfl, fun base _ _ => (ok_law (P := P) (w := w) (base := base) W).fo fd ?_⟩
  obtain ⟨oc, od, dV, kV, doc, pm, an, cdv, ct, osl, _, lk, _⟩ := F.ex
  exact ⟨oc, od, osl, lk⟩
end K51
open PySem PySem.W PySem.Calls PyProof.Rows
theorem PySem.Challenge.cw_stonestairs_k51_disks_torn_in_any_order_holds : PySem.Challenge.rw_stonestairs_k51_disks_torn_in_any_order.Holds := by
  w_on; o_law
  refine HandSHeadRun.head_any (r := OpenLaw.row PySem.Challenge.rw_stonestairs_k51_disks_torn_in_any_order) (q := view (OpenLaw.row PySem.Challenge.rw_stonestairs_k51_disks_torn_in_any_order).prog [7]) (H := K51.hk) (ob := K51.ob) (M := 3000) (loose := ["SECTOR", "Disk", "_law_state", "_law_take", "_law_crashed"]) (d := HandSHeadRun.topDef (OpenLaw.row PySem.Challenge.rw_stonestairs_k51_disks_torn_in_any_order).prog 7) (kwd := []) K51.ob_eq
    (by kernel_rfl) (fun s => by kernel_rfl) K51.run (by kernel_rfl) (by kernel_rfl) (by kernel_rfl) (by rfl) (by first | assumption | decide +kernel) (by decide +kernel) ⟨rfl, rfl, rfl, rfl, rfl, by decide +kernel⟩ ?hw ?hc
  case hw => w_witness2
  case hc =>
    refine L2.walk_ofE (l := PySem.Challenge.rw_stonestairs_k51_disks_torn_in_any_order) (n := 63) (k := 6) (x := "script") (CX := L2.CX0) rfl (by decide) (by kernel_rfl) ⟨rfl, by decide, by decide⟩ ?F (fun _ _ _ _ z => z)
    intro w mg fa h Y G hmg0
    obtain ⟨K, KX, c⟩ := Y
    have hmg : mg ("law" : PySem.Str) = some (.ref fa) := by
      have e : (HandSHeadRun.topDef (OpenLaw.row PySem.Challenge.rw_stonestairs_k51_disks_torn_in_any_order).prog 7).name = ("law" : PySem.Str) := by kernel_rfl
      rw [← e]
      exact hmg0
    obtain ⟨fd, hb, hF⟩ := K51.facts (P := (PySem.Challenge.rw_stonestairs_k51_disks_torn_in_any_order).prog) (w := w) KX G hmg c
    exact ⟨K, fd, K51.spLaw K, KX, hb, fun H a ns hl _ hS => ⟨a, ns, rfl, hS, hl, fun _ => rfl⟩, hF⟩
