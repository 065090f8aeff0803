import PyProof.Rows.All
import Wide.All
import OpenK.AllK
import Wide.FinOn
import KE.KExcSuper
import HandS.ForMost
import HandS.Exc
import HandS.ExcOwn
import HandS.ExcInit
import HandS.ExcIs
import HandS.ExcField
import HandS.TryOnly
import HandS.WordsExc
import HandS.Lambda
import HandS.EndTab
import HandS.Star
import HandS.MethStar
import HandS.Property
import HandS.DictComp
import HandS.More
import HandS.Flow
import HandS.Style
import HandS.Wide
import HandS.Defaults
import HandS.RaiseMore
import HandS.Strs
import HandS.IsInst
import HandS.TupAny
import HandS.CallLocal
import HandS.Walk
import HandS.SetFor
import HandS.ExcValue
import HandS.HeadHook4
import HandS.Head2
import HandS.HeadWalk
import PySem.Challenge.RW_calltakers_k65_places_seen
set_option Elab.async false
set_option linter.all false
set_option maxRecDepth 100000
set_option maxHeartbeats 4000000
namespace Z
open PySem PySem.Spec PyProof.Rows L2

/-- a def's contract where nothing is being shown (no repr runs around it) -/
structure GOk (γ : Bool) (P : Program) (w : World) (K : PySem.W.Frag) (mg : Str → Option Value) (base : Heap) (k : Nat) (f : Addr) (fd : FuncData) (ps : List Str) (sp : Sp) : Prop where
  len : ∀ vs H Q E, sp vs H Q E → vs.length = ps.length
  run : ∀ (A : Around) (outer : List Env) (s : Shared) (H : Hp) (args : Args) (us : List Value) (vs : List V) (Q : VK) (E : XK),
    (γ = true → A.guards = some []) → Room k A → Env0 P w K mg base A outer s H → BindsTo s fd args (ps.zip us) → Vals vs us → sp vs H Q E →
    codeAny (model P w) A (.call (.ref f) args) (CR (L2.CX P w) outer P w H s Q E) s
section
variable {γ : Bool} {P : Program} {w : World} {K : PySem.W.Frag} {mg : Str → Option Value} {base : Heap}
theorem GOk.of {γ : Bool} {k : Nat} {f : Addr} {fd : FuncData} {ps : List Str} {sp : Sp} (F : FnOk P w K mg base (L2.CX P w) k f fd ps sp) : GOk γ P w K mg base k f fd ps sp :=
  ⟨F.len, fun A outer s H args us vs Q E _ hr he hb hv hs => F.run A outer s H args us vs Q E hr he hb hv hs⟩
theorem GOk.mono {j k : Nat} {f : Addr} {fd : FuncData} {ps : List Str} {sp : Sp} (F : GOk γ P w K mg base j f fd ps sp) (h : j ≤ k) : GOk γ P w K mg base k f fd ps sp :=
  ⟨F.len, fun A outer s H args us vs Q E hg hr => F.run A outer s H args us vs Q E hg (hr.mono h)⟩
/-- a def by its body -/
theorem g_of {x qual : Str} {st : Stmt} {f : Addr} {fd : FuncData} {N ps : List Str} {k : Nat} {sp : Sp} (F : Fun K x qual st f fd) (S : FnScope N ps (defScope st)) (len : ∀ vs H Q E, sp vs H Q E → vs.length = ps.length)
    (hbody : ∀ (cdv : Value) (A : Around) (outer : List Env) (s : Shared) (H : Hp) (vs : List V) (Q : VK) (E : XK), (γ = true → A.guards = some []) → Room k (A.deeper (envOfC qual (defScope st) s.heap.objs.size f cdv)) → sp vs H Q E →
      ∃ t, PSs (cxOf (L2.CX P w) P w K mg base N qual (defScope st) f cdv A outer s H E) (defBody st) t ∧ t { nx := fun _ H' => Q .non H', rt := Q } (L2.start N vs) H) : GOk γ P w K mg base (k + 1) f fd ps sp := by
  obtain ⟨oc, od, kV, doc, pm, an, cdv, ct, osl, rfl, lk, hcd⟩ := F.ex
  refine ⟨len, fun A outer s H args us vs Q E hg hr e0 hb r hsp => ?_⟩
  exact LamX.run_ofS lk hcd S hr e0 hb r (len _ _ _ _ hsp) fun hr' => hbody cdv A outer s H vs Q E hg hr' hsp
end
theorem guards_deeper (A : Around) (env : Env) : (A.deeper env).guards = A.guards := rfl

/-- a def of the module by its name -/
structure GD (γ : Bool) (P : Program) (w : World) (K : PySem.W.Frag) (mg : Str → Option Value) (base : Heap) (x : Str) (ps : List Str) (k : Nat) (sp : Sp) : Prop where
  ex : ∃ (f : Addr) (fd : FuncData), mg x = some (.ref f) ∧ PySem.W.keepIn K (.ref f) = true ∧ Binds K fd ps [] ∧ GOk γ P w K mg base k f fd ps sp

section
variable {γ : Bool} {X : Cx} {x : Str} {ps : List Str} {k : Nat} {sp : Sp} {E : XK} {p pos : Pos} {e : Expr} {es : List Expr} {t : TA}
theorem run_g {f : Addr} {fd : FuncData} {pins : List (Addr × Obj)} {σ : L2.St} {H : Hp} {s : Shared} {Q : VK} {us : List Value} {vs : List V} (F : GOk γ X.prog X.w X.K X.mg X.base k f fd ps sp) (hgd : γ = true → X.A.guards = some []) (hr : Room k X.A) (hb : Binds X.K fd ps []) (hx : Passes (L2.CX X.prog X.w) X E)
    (I : Inv X pins σ H s) (r : Vals vs us) (h : sp vs H Q E) : wpAny (model X.prog X.w) X.A (call (.ref f) us) (EP X pins σ Q) X.xe s := by
  have hl : us.length = ps.length := by rw [← r.length]; exact F.len _ _ _ _ h
  have hbb := hb s us I.kIn (by rw [List.append_nil]; exact hl)
  rw [List.append_nil] at hbb
  refine wpAny_call (codeAny_mono (F.run X.A X.stack s H ⟨us, []⟩ us vs Q E hgd hr I.env0 hbb r h) fun res s2 hq => ?_)
  cases res with
  | error er => exact hx pins σ H s er s2 I hq
  | ok fl =>
    cases fl with
    | ret u => exact I.after hq
    | next => exact (show False from hq).elim
    | brk => exact (show False from hq).elim
    | cont => exact (show False from hq).elim
theorem pe_g (F : GD γ X.prog X.w X.K X.mg X.base x ps k sp) (hgd : γ = true → X.A.guards = some []) (hr : Room k X.A) (hg : Gl X x) (hx : Passes (L2.CX X.prog X.w) X E) (ha : PA X (e :: es) t)
    (hdb : (x == ("__debug__" : Str)) = false := by decide) (he : starEach (e :: es) X.env = (false, eval e X.env) :: starEach es X.env := by rfl) (hpl : (backTo pos (starEach es X.env)).any (·.1) = false := by rfl) :
    PE X (.Call (.Name x p) (e :: es) [] pos) (tCall sp [] E t) := by
  obtain ⟨f, fd, hm, hk, hb, G⟩ := F.ex
  refine ⟨fun pins s σ H Q I h => ?_⟩
  refine wpAny_Call_Name_kw (ld_glob I hg hm ?_ hdb)
  refine PySem.W.callWith_K (h₀ := X.base) I.ok.mod.kin hk (thn (ha.run pos pins s σ H _ I h) fun us s1 ⟨vs, H1, I1, r, q⟩ => ⟨I1.kIn, ?_⟩) he hpl
  refine run_g G hgd hr hb hx I1 r ?_
  have q' : sp (vs ++ []) H1 Q E := q
  rw [List.append_nil] at q'
  exact q'
end
end Z

/-! ### reading, step by step -/
namespace Z
open PySem PySem.Spec PyProof.Rows L2
section
variable {t u : TS} {ta tb td ty tv te : TE} {tA tB' : TT} {tx tr : TA} {g : TG} {D : Ends} {σ : L2.St} {H : Hp} {Q : VK} {Qb : Bool → Hp → Prop} {Ql : List V → Hp → Prop} {r : R2} {i : Nat} {v x y : V} {b : Bool} {z z' : Str} {a : Addr} {kvs : List (L2.Key × V)}
theorem rd_seq (h : t { D with nx := u D } σ H) : tSeq t u D σ H := h
theorem rd_cut (Mid : L2.St → Hp → Prop) (h : t { D with nx := Mid } σ H) (h2 : ∀ σ' H', Mid σ' H' → u D σ' H') : C8.tCut t u D σ H := ⟨Mid, h, h2⟩
theorem rd_ifs (h : tA σ H fun b H1 => if b = true then t D σ H1 else u D σ H1) : tIfS tA t u D σ H := h
theorem rd_next (h : D.nx σ H) : tNext D σ H := h
theorem rd_and (h : tA σ H fun c H1 => if c = true then tB' σ H1 Qb else Qb false H1) : tAnd tA tB' σ H Qb := h
theorem rd_or (h : tA σ H fun c H1 => if c = true then Qb true H1 else tB' σ H1 Qb) : tOr tA tB' σ H Qb := h
theorem rd_not (h : tA σ H fun c H1 => Qb (!c) H1) : tNot tA σ H Qb := h
theorem rd_test (h : te σ H fun x H' => ∃ k, x = .bl k ∧ Qb k H') : tTest te σ H Qb := h
theorem rd_tb (h : te σ H fun x H' => ∃ k, x = .bl k ∧ Qb k H') : tB te σ H Qb := h
theorem rd_bl {P : Bool → Prop} (h : P b) : ∃ k, V.bl b = .bl k ∧ P k := ⟨b, rfl, h⟩
theorem rd_op (h : ta σ H fun x H1 => tb σ H1 fun y H2 => r x y H2 Q) : tOp r ta tb σ H Q := h
theorem rd_c (h : Q v H) : tC v σ H Q := h
theorem rd_var (e : σ[i]? = some (some v)) (h : Q v H) : tVar i σ H Q := ⟨v, e, h⟩
theorem rd_asg (h : te σ H fun x H1 => g x σ H1 D.nx) : tAsg te g D σ H := h
theorem rd_gname {Qs : L2.St → Hp → Prop} (h : Qs (σ.set i (some v)) H) : gName i v σ H Qs := h
theorem rd_ret (h : te σ H D.rt) : tRet te D σ H := h
theorem rd_retn (h : D.rt .non H) : tRetN D σ H := h
theorem rd_drop (h : te σ H fun _ H1 => D.nx σ H1) : tDrop te D σ H := h
theorem rd_nil (h : Ql [] H) : tNil σ H Ql := h
theorem rd_cons (h : ta σ H fun x H1 => tr σ H1 fun xs H2 => Ql (x :: xs) H2) : tCons ta tr σ H Ql := h
theorem rd_cb {rr : List V → Hp → VK → Prop} (h : tx σ H fun vs H1 => rr vs H1 Q) : tCB rr tx σ H Q := h
theorem rd_call {sp : Sp} {dvs : List V} {E : XK} (h : tx σ H fun vs H1 => sp (vs ++ dvs) H1 Q E) : tCall sp dvs E tx σ H Q := h
theorem rd_dget0 (h : td σ H fun x H1 => ty σ H1 fun y H2 => ∃ a v, x = .ref a ∧ DGet H2 a y (some v) ∧ Q v H2) : tDGet td ty σ H Q := h
theorem rd_dget1 {P : V → Prop} (e : H a = some (.dK kvs)) (hv : valV kvs (.inr z) = some v) (h : P v) : ∃ a' v', V.ref a = .ref a' ∧ DGet H a' (.str z) (some v') ∧ P v' :=
  ⟨a, v, rfl, by rw [← hv]; exact DGet.k (k := Sum.inr z) e, h⟩
theorem rd_dput0 (h : tv σ H fun v H1 => td σ H1 fun x H2 => ty σ H2 fun y H3 => ∃ a H4, x = .ref a ∧ DPut H3 a y v H4 ∧ D.nx σ H4) : sDPut td ty tv D σ H := h
theorem rd_dput1 {Qs : Hp → Prop} (e : H a = some (.dK kvs)) (hl : kvs.length < sizeLine) (h : Qs (upd H a (.dK (putK kvs (.inr z) v)))) : ∃ a' H4, V.ref a = .ref a' ∧ DPut H a' (.str z) v H4 ∧ Qs H4 :=
  ⟨a, _, rfl, DPut.k (k := Sum.inr z) e hl, h⟩
theorem rd_eqi {i j : Int} (h : Q (.bl (decide (i = j))) H) : rEq (.int i) (.int j) H Q := ⟨rfl, (show decide (V.int i = V.int j) = decide (i = j) by simp) ▸ h⟩
theorem rd_eqs (h : Q (.bl (decide (z = z'))) H) : rEq (.str z) (.str z') H Q := ⟨rfl, (show decide (V.str z = V.str z') = decide (z = z') by simp) ▸ h⟩
theorem rd_nei {i j : Int} (h : Q (.bl (!decide (i = j))) H) : rNe (.int i) (.int j) H Q := ⟨rfl, (show decide (V.int i = V.int j) = decide (i = j) by simp) ▸ h⟩
theorem rd_nes (h : Q (.bl (!decide (z = z'))) H) : rNe (.str z) (.str z') H Q := ⟨rfl, (show decide (V.str z = V.str z') = decide (z = z') by simp) ▸ h⟩
theorem rd_i {C : Int → Int → Prop} {f : Int → Int → V} {i j : Int} (c : C i j) (h : Q (f i j) H) : rI C f (.int i) (.int j) H Q := ⟨i, j, rfl, rfl, c, h⟩
theorem rd_i0 {f : Int → Int → V} {i j : Int} (h : Q (f i j) H) : rI0 f (.int i) (.int j) H Q := ⟨i, j, rfl, rfl, h⟩
theorem rd_lst (hl : tx σ H fun xs H1 => xs.length ≤ sizeLine ∧ ∀ p, H1 p = none → Q (.ref p) (upd H1 p (.lst xs))) : tLst tx σ H Q := hl
theorem rd_tup (hl : tx σ H fun xs H1 => xs.length ≤ sizeLine ∧ ∀ p, H1 p = none → Q (.ref p) (upd H1 p (.tup xs))) : tTup tx σ H Q := hl
theorem rd_ifx (h : tA σ H fun c H1 => if c = true then ta σ H1 Q else tb σ H1 Q) : tIf tA ta tb σ H Q := h
theorem rd_bm {K : PySem.W.Frag} {T : String} {rr : V → List V → Hp → VK → Prop} (h : te σ H fun x H1 => tyV K T x H1 ∧ tx σ H1 fun xs H2 => rr x xs H2 Q) : tBM K T rr te tx σ H Q := h
theorem rd_bm0 {K : PySem.W.Frag} {T : String} {rr : V → List V → Hp → VK → Prop} (h : te σ H fun x H1 => tyV K T x H1 ∧ rr x [] H1 Q) : tBM0 K T rr te σ H Q := h
theorem ty_list {K : PySem.W.Frag} {xs : List V} (h : H a = some (.lst xs)) : tyV K "list" (.ref a) H := .inl ⟨rfl, _, .inl (.inl h)⟩
theorem rd_append {xs : List V} (e : H a = some (.lst xs)) (hl : xs.length < sizeLine) (h : Q .non (upd H a (.lst (xs ++ [v])))) : rAppend (.ref a) [v] H Q := ⟨a, xs, v, rfl, rfl, e, hl, h⟩
theorem rd_popAt {xs : List V} {i : Int} {k : Nat} (e : H a = some (.lst xs)) (h0 : 0 ≤ i) (hk : i = (k : Int)) (hb : k < 1000000) (hv : xs[k]? = some v) (h : Q v (upd H a (.lst (xs.eraseIdx k)))) : rPopAt (.ref a) [.int i] H Q := by
  have hl : k < xs.length := (List.getElem?_eq_some_iff.mp hv).1
  refine ⟨a, xs, i, k, v, rfl, rfl, e, by omega, by omega, ?_, hv, h⟩
  unfold seqIndex?
  subst hk
  simp
  omega
theorem rd_ite {c : Prop} [Decidable c] {A B : Prop} (h1 : c → A) (h2 : ¬ c → B) : if decide c = true then A else B := by
  by_cases h : c
  · rw [if_pos (decide_eq_true h)]; exact h1 h
  · rw [if_neg (by simpa using h)]; exact h2 h
theorem rd_iten {c : Prop} [Decidable c] {A B : Prop} (h1 : ¬ c → A) (h2 : c → B) : if (!decide c) = true then A else B := by
  by_cases h : c
  · rw [if_neg (by simpa using h)]; exact h2 h
  · rw [if_pos (by simpa using h)]; exact h1 h
theorem rd_iteb {b : Bool} {A B : Prop} (h1 : b = true → A) (h2 : b = false → B) : if b = true then A else B := by
  cases b with
  | true => exact (if_pos rfl).symm ▸ h1 rfl
  | false => rw [if_neg Bool.false_ne_true]; exact h2 rfl
end

/-! ### heaps -/
/-- tuples, tables, what only a fact is known of: never written -/
def isFix : HO → Bool
  | .tup _ => true
  | .tbl _ => true
  | .ext _ => true
  | _ => false
def isTbl : HO → Bool
  | .tbl _ => true
  | _ => false
/-- nothing is tracked there but a table of code objects, perhaps -/
def Nw (H : Hp) (a : Addr) : Prop := ∀ o, H a = some o → isTbl o = true
theorem Nw.of {H : Hp} {a : Addr} (h : H a = none) : Nw H a := fun o e => by rw [h] at e; cases e
theorem Nw.ne {H : Hp} {a b : Addr} {o : HO} (n : Nw H b) (h : H a = some o) (t : isTbl o = false) : a ≠ b := fun e => by
  rw [e] at h
  rw [n _ h] at t
  cases t
theorem Nw.upd {H : Hp} {a b : Addr} {o : HO} (n : Nw (L2.upd H a o) b) (h : H a = none) : Nw H b := fun u e => by
  by_cases q : b = a
  · rw [q, h] at e; cases e
  · exact n u (by rw [upd_ne q]; exact e)
section
variable {Λ : List (Addr × Str)}
/-- all but what stands at S is as it was (tables of code objects grow); tuples stay in any case; what is free now was free; the tables of Λ stay right -/
def Fr (Λ : List (Addr × Str)) (S : List Addr) (H H' : Hp) : Prop := (∀ a o, H a = some o → a ∉ S → isTbl o = false → H' a = some o) ∧ (∀ a, Nw H' a → Nw H a) ∧ (∀ a xs, H a = some (.tup xs) → H' a = some (.tup xs)) ∧ (LamX.Tabs Λ H → LamX.Tabs Λ H')
theorem Fr.at {S : List Addr} {H H' : Hp} {a : Addr} {o : HO} (f : Fr Λ S H H') (h : H a = some o) (n : a ∉ S) (t : isTbl o = false) : H' a = some o := f.1 a o h n t
theorem Fr.tup {S : List Addr} {H H' : Hp} {a : Addr} {xs : List V} (f : Fr Λ S H H') (h : H a = some (.tup xs)) : H' a = some (.tup xs) := f.2.2.1 a xs h
theorem Fr.tabs {S : List Addr} {H H' : Hp} (f : Fr Λ S H H') (h : LamX.Tabs Λ H) : LamX.Tabs Λ H' := f.2.2.2 h
theorem Fr.free {S : List Addr} {H H' : Hp} {a : Addr} (f : Fr Λ S H H') (h : Nw H' a) : Nw H a := f.2.1 a h
theorem Fr.refl (S : List Addr) (H : Hp) : Fr Λ S H H := ⟨fun _ _ h _ _ => h, fun _ h => h, fun _ _ h => h, id⟩
theorem Fr.trans {S : List Addr} {H H1 H2 : Hp} (f : Fr Λ S H H1) (g : Fr Λ S H1 H2) : Fr Λ S H H2 := ⟨fun a o h n t => g.1 a o (f.1 a o h n t) n t, fun a h => f.2.1 a (g.2.1 a h), fun a xs h => g.2.2.1 a xs (f.2.2.1 a xs h), fun h => g.tabs (f.tabs h)⟩
theorem Fr.mono {S S' : List Addr} {H H' : Hp} (f : Fr Λ S H H') (h : ∀ a ∈ S, a ∈ S') : Fr Λ S' H H' := ⟨fun a o e n t => f.1 a o e (fun z => n (h a z)) t, f.2⟩
/-- behind f a part g that changes what S names, or what was made since -/
theorem Fr.step {S S' : List Addr} {H H1 H2 : Hp} (g : Fr Λ S' H1 H2) (f : Fr Λ S H H1) (h : ∀ a ∈ S', a ∈ S ∨ Nw H a) : Fr Λ S H H2 :=
  ⟨fun a o e n t => g.1 a o (f.1 a o e n t) (fun z => (h a z).elim n fun q => q.ne e t rfl) t, fun a e => f.2.1 a (g.2.1 a e), fun a xs e => g.2.2.1 a xs (f.2.2.1 a xs e), fun h => g.tabs (f.tabs h)⟩
theorem tabs_upd {H : Hp} {a : Addr} {o o0 : HO} (e : H a = some o0) (nt : isFix o0 = false) (h : LamX.Tabs Λ H) : LamX.Tabs Λ (L2.upd H a o) := fun p hp => by
  obtain ⟨ps, h1, h2, h3⟩ := h p hp
  have ne : ∀ b u, H b = some u → isFix u = true → b ≠ a := fun b u hb hu z => by
    rw [z, e] at hb
    cases hb
    rw [nt] at hu
    cases hu
  refine ⟨ps, by rw [upd_ne (ne _ _ h1 rfl)]; exact h1, h2, fun pos cv hc => ?_⟩
  obtain ⟨c, e1, e2⟩ := h3 pos cv hc
  exact ⟨c, e1, by rw [upd_ne (ne _ _ e2 rfl)]; exact e2⟩
theorem Fr.upd {S : List Addr} {H H' : Hp} {a : Addr} {o o0 : HO} (f : Fr Λ S H H') (m : a ∈ S ∨ Nw H a) (e : H' a = some o0) (nt : isFix o0 = false) (no : isTbl o = false := by rfl) : Fr Λ S H (L2.upd H' a o) :=
  ⟨fun b u h n t => (by
    have nb : b ≠ a := fun z => m.elim (fun m => n (by rw [z]; exact m)) fun m => m.ne h t z
    rw [upd_ne nb]; exact f.1 b u h n t), fun b h => f.2.1 b (fun u q => (by
    by_cases z : b = a
    · have w := h o (by rw [z, upd_same])
      rw [no] at w
      cases w
    · exact h u (by rw [upd_ne z]; exact q))), fun b xs h => (by
    have h2 := f.2.2.1 b xs h
    have nb : b ≠ a := fun z => (by
      rw [z, e] at h2
      cases h2
      cases nt)
    rw [upd_ne nb]; exact h2), fun h => tabs_upd e nt (f.tabs h)⟩
theorem Fr.new {S : List Addr} {H H' : Hp} {p : Addr} {o : HO} (f : Fr Λ S H H') (hp : H' p = none) : Fr Λ S H (L2.upd H' p o) :=
  ⟨fun b u h n t => by rw [upd_ne (ne_of_none (f.1 b u h n t) hp)]; exact f.1 b u h n t, fun b h => f.2.1 b (h.upd hp), fun b xs h => by rw [upd_ne (ne_of_none (f.2.2.1 b xs h) hp)]; exact f.2.2.1 b xs h, fun h => (f.tabs h).ext fun b u e => by rw [upd_ne (ne_of_none e hp)]; exact e⟩
/-- what keeps all but tables, and the tables right -/
theorem Fr.extN {S : List Addr} {H H1 : Hp} (e : LamX.ExtN H H1) (t : LamX.Tabs Λ H1) : Fr Λ S H H1 :=
  ⟨fun a o h _ nt => e a o h (fun ps z => (by rw [z] at nt; cases nt)), fun a n o h => (by
    cases q : isTbl o with
    | true => rfl
    | false =>
      have w := n o (e a o h (fun ps z => (by rw [z] at q; cases q)))
      exact absurd (w.symm.trans q) (by decide)), fun a xs h => e a _ h (fun ps z => (by cases z)), fun _ => t⟩
end
theorem ms_in {a : Addr} {S : List Addr} {P : Prop} (h : a ∈ S) : a ∈ S ∨ P := .inl h
theorem sub_nil {S : List Addr} {H : Hp} : ∀ a ∈ ([] : List Addr), a ∈ S ∨ Nw H a := fun _ z => nomatch z
theorem sub_cons {S S' : List Addr} {H : Hp} {b : Addr} (h : b ∈ S ∨ Nw H b) (h' : ∀ a ∈ S', a ∈ S ∨ Nw H a) : ∀ a ∈ b :: S', a ∈ S ∨ Nw H a := fun a z => by
  rcases List.mem_cons.mp z with e | z
  · rw [e]; exact h
  · exact h' a z
theorem lt_ok {n : Nat} (h : n ≤ 100000) : n < sizeLine := Nat.lt_of_le_of_lt h (by decide)
theorem le_ok {n : Nat} (h : n ≤ 100000) : n ≤ sizeLine := Nat.le_trans h (by decide)
theorem nm_cons {a b : Addr} {l : List Addr} (h : a ≠ b) (h' : a ∉ l) : a ∉ b :: l := fun z => (List.mem_cons.mp z).elim h h'
theorem nm_nil {a : Addr} : a ∉ ([] : List Addr) := fun z => nomatch z
theorem ne_nw {H : Hp} {a p : Addr} {o : HO} (hp : Nw H p) (h : H a = some o) (t : isTbl o = false) : a ≠ p := hp.ne h t
theorem ne_new {H : Hp} {a p : Addr} {o : HO} (hp : H p = none) (h : H a = some o) : a ≠ p := ne_of_none h hp
theorem ne_sym {a b : Addr} (h : a ≠ b) : b ≠ a := fun e => h e.symm
end Z

/-! ### == and != with an empty list, an empty tuple -/
namespace Z
open PySem PySem.Spec PyProof.Rows L2 PySem.SeqAt
section
variable {X : Cx}
def rNil (K : PySem.W.Frag) (neg : Bool) : R2 := fun x y H Q => ∃ p q xs, x = V.ref p ∧ y = V.ref q ∧ SqL K H p xs ∧ SqL K H q [] ∧ Q (.bl (if neg then !xs.isEmpty else xs.isEmpty)) H
def rNilT (K : PySem.W.Frag) (neg : Bool) : R2 := fun x y H Q => ∃ p q xs, x = V.ref p ∧ y = V.ref q ∧ SqT K H p xs ∧ SqT K H q [] ∧ Q (.bl (if neg then !xs.isEmpty else xs.isEmpty)) H
theorem nil_items {its : List Value} (r : Vals [] its) : its = [] := by cases r; rfl
theorem op_eqNil (hu : X.A.units < cLine) : OpR X (compareOp .Eq) (rNil X.K false) := by
  intro pins s σ H x y v u Q I rx ry h
  obtain ⟨p, q, xs, rfl, rfl, hp, hq, k⟩ := h
  obtain rfl : v = Value.ref p := rx
  obtain rfl : u = Value.ref q := ry
  obtain ⟨its, r1, l1, _⟩ := I.list hp
  obtain ⟨its2, r2, l2, _⟩ := I.list hq
  obtain rfl := nil_items r2
  have hlen := r1.length
  cases xs with
  | nil =>
    obtain rfl := nil_items r1
    exact eq_listAt (e := fun _ => true) l1.isList l2.isList rfl hu (fun j h1 _ => absurd h1 (by simp)) ⟨.bl true, H, I, rfl, k⟩
  | cons z zs =>
    refine eq_list_lengthsAt l1.isList l2.isList ?_ hu ⟨.bl false, H, I, rfl, k⟩
    have : its ≠ [] := by intro e; subst e; cases hlen
    simpa using this
theorem op_neNil (hu : X.A.units < cLine) : OpR X (compareOp .NotEq) (rNil X.K true) := by
  intro pins s σ H x y v u Q I rx ry h
  obtain ⟨p, q, xs, rfl, rfl, hp, hq, k⟩ := h
  obtain rfl : v = Value.ref p := rx
  obtain rfl : u = Value.ref q := ry
  obtain ⟨its, r1, l1, _⟩ := I.list hp
  obtain ⟨its2, r2, l2, _⟩ := I.list hq
  obtain rfl := nil_items r2
  have hlen := r1.length
  cases xs with
  | nil =>
    obtain rfl := nil_items r1
    exact RcNeAt.lists (e := fun _ => true) l1.isList l2.isList rfl hu (fun j h1 _ => absurd h1 (by simp)) X.prog X.w X.xe _ ⟨.bl false, H, I, rfl, k⟩
  | cons z zs =>
    refine RcNeAt.lists_lengths l1.isList l2.isList ?_ hu X.prog X.w X.xe _ ⟨.bl true, H, I, rfl, k⟩
    have : its ≠ [] := by intro e; subst e; cases hlen
    simpa using this
theorem op_eqNilT (hu : X.A.units < cLine) : OpR X (compareOp .Eq) (rNilT X.K false) := by
  intro pins s σ H x y v u Q I rx ry h
  obtain ⟨p, q, xs, rfl, rfl, hp, hq, k⟩ := h
  obtain rfl : v = Value.ref p := rx
  obtain rfl : u = Value.ref q := ry
  obtain ⟨its, r1, l1, _⟩ := I.tuple hp
  obtain ⟨its2, r2, l2, _⟩ := I.tuple hq
  obtain rfl := nil_items r2
  have hlen := r1.length
  refine eq_tupleAt (e := fun _ => true) (show s.heap.IsTuple p its.toArray from l1) (show s.heap.IsTuple q ([] : List Value).toArray from l2) hu (fun j _ h1 => absurd h1 (by simp)) ⟨.bl xs.isEmpty, H, I, ?_, k⟩
  cases xs with
  | nil =>
    obtain rfl := nil_items r1
    rfl
  | cons z zs =>
    have : its ≠ [] := by intro e; subst e; cases hlen
    show Value.bool _ = Value.bool false
    congr 1
    simpa using this
theorem op_neNilT (hu : X.A.units < cLine) : OpR X (compareOp .NotEq) (rNilT X.K true) := by
  intro pins s σ H x y v u Q I rx ry h
  obtain ⟨p, q, xs, rfl, rfl, hp, hq, k⟩ := h
  obtain rfl : v = Value.ref p := rx
  obtain rfl : u = Value.ref q := ry
  obtain ⟨its, r1, l1, _⟩ := I.tuple hp
  obtain ⟨its2, r2, l2, _⟩ := I.tuple hq
  obtain rfl := nil_items r2
  have hlen := r1.length
  refine RcNeAt.tuples (e := fun _ => true) (show s.heap.IsTuple p its.toArray from l1) (show s.heap.IsTuple q ([] : List Value).toArray from l2) hu (fun j _ h1 => absurd h1 (by simp)) X.prog X.w X.xe _ ⟨.bl (!xs.isEmpty), H, I, ?_, k⟩
  cases xs with
  | nil =>
    obtain rfl := nil_items r1
    rfl
  | cons z zs =>
    have : its ≠ [] := by intro e; subst e; cases hlen
    show Value.bool _ = Value.bool true
    congr 1
    simpa using this
end
section
variable {tx : TA} {te : TE} {σ : L2.St} {H : Hp} {Q : VK} {a b : Addr} {xs : List V} {v : V}
theorem rd_nil2 {K : PySem.W.Frag} {n : Bool} (e : H a = some (.lst xs)) (e2 : H b = some (.lst [])) (h : Q (.bl (if n then !xs.isEmpty else xs.isEmpty)) H) : rNil K n (.ref a) (.ref b) H Q := ⟨a, b, xs, rfl, rfl, .inl (.inl e), .inl (.inl e2), h⟩
theorem rd_nil2T {K : PySem.W.Frag} {n : Bool} (e : H a = some (.tup xs)) (e2 : H b = some (.tup [])) (h : Q (.bl (if n then !xs.isEmpty else xs.isEmpty)) H) : rNilT K n (.ref a) (.ref b) H Q := ⟨a, b, xs, rfl, rfl, .inl (.inl e), .inl (.inl e2), h⟩
theorem rd_int1 {P : Int → Prop} {R : Prop} {i : Int} (h : P i) : (∃ i', [V.int i] = [V.int i'] ∧ P i') ∨ R := .inl ⟨i, rfl, h⟩
theorem rd_size {n : Nat} {R : Prop} (hl : n ≤ sizeLine) (h : R) : n ≤ sizeLine ∧ R := ⟨hl, h⟩
theorem rd_tylist {K : PySem.W.Frag} {R : Prop} (e : H a = some (.lst xs)) (h : R) : tyV K "list" (.ref a) H ∧ R := ⟨ty_list e, h⟩
theorem rd_emptyf {A B : Prop} {xs : List V} (h1 : xs = [] → A) (h2 : xs ≠ [] → B) : if xs.isEmpty = true then A else B := by
  cases xs with
  | nil => exact (if_pos rfl).symm ▸ h1 rfl
  | cons y ys => rw [if_neg (by simp)]; exact h2 (by simp)
theorem rd_emptyt {A B : Prop} {xs : List V} (h1 : xs ≠ [] → A) (h2 : xs = [] → B) : if (if true then !xs.isEmpty else xs.isEmpty) = true then A else B := by
  cases xs with
  | nil => rw [if_neg (by simp)]; exact h2 rfl
  | cons y ys => rw [if_pos (by simp)]; exact h1 (by simp)
end
end Z

namespace Z
open PySem PySem.Spec PyProof.Rows L2
section
variable {t u tb' : TS} {ta tb td ty tv te tl tk : TE} {tA tB' tt : TT} {tx tr : TA} {g : TG} {D : Ends} {σ : L2.St} {H : Hp} {Q : VK} {Qb : Bool → Hp → Prop} {Ql : List V → Hp → Prop} {r : R2} {i : Nat} {v x y : V} {b : Bool} {z z' f : Str} {a C dx : Addr} {kvs : List (L2.Key × V)} {fs : List (Str × V)} {xs : List V} {K : PySem.W.Frag} {wi : TI} {vs : List Nat} {Ri : It → Hp → Prop}
theorem rd_un {ru : V → Hp → VK → Prop} (h : ta σ H fun x H1 => ru x H1 Q) : tUn ru ta σ H Q := h
theorem rd_u {fu : Int → V} {j : Int} (h : Q (fu j) H) : rU fu (.int j) H Q := ⟨j, rfl, h⟩
theorem rd_for (h : wi σ H fun J H1 => ∃ W : Nat → Nat → L2.St → Hp → Prop, (∃ m, W 0 m σ H1) ∧ ∀ i m σ H, W i m σ H →
  (J.stop i H ∧ D.nx σ H) ∨ (J.go i H ∧ ∃ N : L2.St → Hp → Prop, (∀ σ' H', N σ' H' → ∃ m', m' < m ∧ W (i + 1) m' σ' H') ∧ ∀ x H', J.yld i H x H' → g x σ H' fun σ2 H2 => tb' { D with nx := N, ct := N, bk := D.nx } σ2 H2)) : tFor wi g tb' D σ H := h
theorem rd_lc (h : wi σ H fun J H1 => ∀ D, H1 D = none → ∃ W : Nat → Nat → Hp → Prop, (∃ m, W 0 m (upd H1 D (.lst []))) ∧ ∀ i m H, W i m H →
  (J.stop i H ∧ Q (.ref D) H) ∨ (J.go i H ∧ ∃ Nx : Hp → Prop, (∀ H', Nx H' → ∃ m', m' < m ∧ W (i + 1) m' H') ∧ ∀ x H', J.yld i H x H' → g x (wipe σ vs) H' fun σ2 H2 => wipe σ2 vs = wipe σ vs ∧ tt σ2 H2 fun b H3 =>
    if b = true then te σ2 H3 fun y H4 => ∃ acc, H4 D = some (.lst acc) ∧ acc.length < sizeLine ∧ Nx (upd H4 D (.lst (acc ++ [y]))) else Nx H3)) : tLc wi g tt te vs σ H Q := h
theorem rd_ilist (h : tl σ H fun x H1 => ∃ a, x = .ref a ∧ (∃ xs, SqL K H1 a xs) ∧ Ri (Itl K a) H1) : iList K tl σ H Ri := h
theorem rd_itup (h : tl σ H fun x H1 => ∃ a, x = .ref a ∧ (∃ xs, SqT K H1 a xs) ∧ Ri (Itt K a) H1) : iTup K tl σ H Ri := h
theorem rd_istr (h : te σ H fun v H1 => ∃ x, v = .str x ∧ Ri (Its x) H1) : iStr te σ H Ri := h
theorem rd_irng1 (h : tx σ H fun vs H1 => ∃ j : Int, vs = [.int j] ∧ -(2 ^ 62) ≤ j ∧ j < 2 ^ 62 ∧ Ri (Itr 0 j.toNat) H1) : iRng1 tx σ H Ri := h
theorem rd_yes (h : Qb true H) : tYes σ H Qb := h
theorem rd_ixl {j : Int} (e : H a = some (.lst xs)) (hv : atI xs j = some v) (h : Q v H) : rIxL K (.ref a) (.int j) H Q := ⟨a, xs, j, v, rfl, rfl, SqL.of e, hv, h⟩
theorem rd_ixt {j : Int} (e : H a = some (.tup xs)) (hv : atI xs j = some v) (h : Q v H) : rIxT K (.ref a) (.int j) H Q := ⟨a, xs, j, v, rfl, rfl, SqT.of e, hv, h⟩
theorem rd_len {P : Nat → Prop} (e : H a = some (.lst xs)) (h : P xs.length) : ∃ x n, [V.ref a] = [x] ∧ LenV K x H n ∧ P n := ⟨.ref a, _, rfl, .inl ⟨xs, SqL.of e, rfl⟩, h⟩
theorem rd_lens {P : Nat → Prop} (e : H a = some (.lst xs)) (h : P xs.length) : ∃ p ys, [V.ref a] = [.ref p] ∧ (SqL K H p ys ∨ SqT K H p ys) ∧ P ys.length := ⟨a, xs, rfl, .inl (SqL.of e), h⟩
theorem rd_lent {P : Nat → Prop} (e : H a = some (.tup xs)) (h : P xs.length) : ∃ p ys, [V.ref a] = [.ref p] ∧ (SqL K H p ys ∨ SqT K H p ys) ∧ P ys.length := ⟨a, xs, rfl, .inr (SqT.of e), h⟩
theorem rd_lstof {P : List V → Prop} (e : H a = some (.lst xs)) (h : P xs) : ∃ p ys, [V.ref a] = [.ref p] ∧ (SqL K H p ys ∨ SqT K H p ys) ∧ P ys := ⟨a, xs, rfl, .inl (SqL.of e), h⟩
theorem rd_tupof {P : List V → Prop} {P2 : Addr → Prop} (e : H a = some (.lst xs)) (h : P xs) : ∃ p ys, [V.ref a] = [.ref p] ∧ ((SqL K H p ys ∧ P ys) ∨ (SqT K H p ys ∧ P2 p)) := ⟨a, xs, rfl, .inl ⟨SqL.of e, h⟩⟩
theorem rd_sfld0 (h : tv σ H fun y H1 => ta σ H1 fun x H2 => ∃ a C dx fs, x = .ref a ∧ H2 a = some (.ins C dx fs) ∧ Cls K C ∧ NoAttr K C f ∧ fs.length < 1000 ∧ D.nx σ (upd H2 a (.ins C dx (putF f y fs)))) : sFld K ta tv f D σ H := h
theorem rd_sfld1 {Qs : Hp → Prop} (e : H a = some (.ins C dx fs)) (c : Cls K C) (n : NoAttr K C f) (hl : fs.length < 1000) (h : Qs (upd H a (.ins C dx (putF f v fs)))) :
    ∃ a' C' dx' fs', V.ref a = .ref a' ∧ H a' = some (.ins C' dx' fs') ∧ Cls K C' ∧ NoAttr K C' f ∧ fs'.length < 1000 ∧ Qs (upd H a' (.ins C' dx' (putF f v fs'))) := ⟨a, C, dx, fs, rfl, e, c, n, hl, h⟩
theorem rd_fld0 (h : ta σ H fun x H1 => ∃ a C dx fs v, x = .ref a ∧ H1 a = some (.ins C dx fs) ∧ Cls K C ∧ NoAttr K C f ∧ fs.lookup f = some v ∧ Q v H1) : tFld K ta f σ H Q := h
theorem rd_fld1 {P : V → Prop} (e : H a = some (.ins C dx fs)) (c : Cls K C) (n : NoAttr K C f) (hv : fs.lookup f = some v) (h : P v) :
    ∃ a' C' dx' fs' v', V.ref a = .ref a' ∧ H a' = some (.ins C' dx' fs') ∧ Cls K C' ∧ NoAttr K C' f ∧ fs'.lookup f = some v' ∧ P v' := ⟨a, C, dx, fs, v, rfl, e, c, n, hv, h⟩
theorem rd_din (h : ty σ H fun y H1 => td σ H1 fun x H2 => ∃ a o, x = .ref a ∧ DGet H2 a y o ∧ Q (.bl o.isSome) H2) : tDIn ty td σ H Q := h
theorem rd_dnotin (h : ty σ H fun y H1 => td σ H1 fun x H2 => ∃ a o, x = .ref a ∧ DGet H2 a y o ∧ Q (.bl (!o.isSome)) H2) : tDNotIn ty td σ H Q := h
theorem rd_din1 {P : Option V → Prop} (e : H a = some (.dK kvs)) (h : P (valV kvs (.inr z))) : ∃ a' o, V.ref a = .ref a' ∧ DGet H a' (.str z) o ∧ P o := ⟨a, _, rfl, DGet.k (k := Sum.inr z) e, h⟩
theorem rd_isn (h : ta σ H fun x H1 => Q (.bl (decide (x = .non))) H1) : tIsN ta σ H Q := h
theorem rd_notn (h : ta σ H fun x H1 => Q (.bl (!decide (x = .non))) H1) : tNotN ta σ H Q := h
theorem rd_par {j : Nat} (h : tx σ H fun vs H1 => ∃ v w, vs = [v, w] ∧ D.nx ((σ.set i (some v)).set j (some w)) H1) : tPar i j tx D σ H := h
theorem rd_par1 {w : V} {P : V → V → Prop} (h : P v w) : ∃ v' w', [v, w] = [v', w'] ∧ P v' w' := ⟨v, w, rfl, h⟩
theorem rd_gtup {n : Nat} {gs : TGs} {Qs : L2.St → Hp → Prop} (e : H a = some (.tup xs)) (hn : xs.length = n) (h : gs xs σ H Qs) : gTup K n gs (.ref a) σ H Qs := ⟨a, xs, rfl, SqT.of e, hn, h⟩
theorem rd_gnil {Qs : L2.St → Hp → Prop} (h : Qs σ H) : gNil [] σ H Qs := ⟨rfl, h⟩
theorem rd_gcons {gs : TGs} {Qs : L2.St → Hp → Prop} {w : List V} (h : g v σ H fun σ' H' => gs w σ' H' Qs) : gCons g gs (v :: w) σ H Qs := ⟨v, w, rfl, h⟩
theorem rd_chain {r' : R2} {tc : TE} (h : ta σ H fun x H1 => tb σ H1 fun y H2 => r x y H2 fun z H3 => ∃ k, z = .bl k ∧ (if k = true then tc σ H3 fun w' H4 => r' y w' H4 Q else Q (.bl false) H3)) : tChain r r' ta tb tc σ H Q := h
theorem rd_andv (h : ta σ H fun x H1 => ∃ c, x = .bl c ∧ if c = true then tb σ H1 Q else Q (.bl false) H1) : tAndV ta tb σ H Q := h
theorem rd_orv (h : ta σ H fun x H1 => ∃ c, x = .bl c ∧ if c = true then Q (.bl true) H1 else tb σ H1 Q) : tOrV ta tb σ H Q := h
theorem rd_notv (h : ta σ H fun x H1 => ∃ c, x = .bl c ∧ Q (.bl (!c)) H1) : tNotV ta σ H Q := h
theorem rd_catl {zs : List V} {a' : Addr} (e : H a = some (.lst xs)) (e' : H a' = some (.lst zs)) (hl : xs.length + zs.length ≤ sizeLine) (h : ∀ p, H p = none → Q (.ref p) (upd H p (.lst (xs ++ zs)))) : rCat (.ref a) (.ref a') H Q := ⟨a, a', xs, zs, rfl, rfl, e, e', hl, h⟩
theorem rd_meth {Cc : Addr} {m : Str} {sp : Sp} {dvs : List V} {E : XK} (h : ta σ H fun x H1 => ∃ a dx fs, x = .ref a ∧ H1 a = some (.ins Cc dx fs) ∧ fs.lookup m = none ∧ tx σ H1 fun vs H2 => sp (x :: (vs ++ dvs)) H2 Q E) : tMeth Cc m sp dvs E ta tx σ H Q := h
theorem rd_meth1 {m : Str} {P : Prop} (e : H a = some (.ins C dx fs)) (hv : fs.lookup m = none) (h : P) : ∃ a' dx' fs', V.ref a = .ref a' ∧ H a' = some (.ins C dx' fs') ∧ fs'.lookup m = none ∧ P := ⟨a, dx, fs, rfl, e, hv, h⟩
theorem rd_addstr {s1 s2 : Str} (hl : s1.length + s2.length ≤ sizeLine) {Q : VK} (h : Q (.str (s1 ++ s2)) H) : ∃ i j, V.str s1 = .str i ∧ V.str s2 = .str j ∧ i.length + j.length ≤ sizeLine ∧ Q (.str (i ++ j)) H := ⟨s1, s2, rfl, rfl, hl, h⟩
theorem rd_while (h : ∃ W : Nat → L2.St → Hp → Prop, (∃ m, W m σ H) ∧ ∀ m σ H, W m σ H → tA σ H fun b H1 => if b = true then ∃ N : L2.St → Hp → Prop, (∀ σ' H', N σ' H' → ∃ m', m' < m ∧ W m' σ' H') ∧ tb' { D with nx := N, ct := N, bk := D.nx } σ H1 else D.nx σ H1) : tWhile tA tb' D σ H := h
end
end Z

/-! ### loops and comprehensions: what the iterable stands for, an invariant -/
namespace Z
open PySem PySem.Spec PyProof.Rows L2
section
variable {tb : TS} {te : TE} {tt : TT} {g : TG} {D : Ends} {σ : L2.St} {H : Hp} {Q : VK} {vs : List Nat} {K : PySem.W.Frag} {a : Addr} {xs : List V}
/-- what a for is to show of an iterable -/
def ForG (g : TG) (tb : TS) (D : Ends) (σ : L2.St) (J : It) (H : Hp) : Prop := ∃ W : Nat → Nat → L2.St → Hp → Prop, (∃ m, W 0 m σ H) ∧ ∀ i m σ H, W i m σ H →
  (J.stop i H ∧ D.nx σ H) ∨ (J.go i H ∧ ∃ N : L2.St → Hp → Prop, (∀ σ' H', N σ' H' → ∃ m', m' < m ∧ W (i + 1) m' σ' H') ∧ ∀ x H', J.yld i H x H' → g x σ H' fun σ2 H2 => tb { D with nx := N, ct := N, bk := D.nx } σ2 H2)
def LcG (g : TG) (tt : TT) (te : TE) (vs : List Nat) (σ : L2.St) (Q : VK) (J : It) (H1 : Hp) : Prop := ∀ D, H1 D = none → ∃ W : Nat → Nat → Hp → Prop, (∃ m, W 0 m (L2.upd H1 D (.lst []))) ∧ ∀ i m H, W i m H →
  (J.stop i H ∧ Q (.ref D) H) ∨ (J.go i H ∧ ∃ Nx : Hp → Prop, (∀ H', Nx H' → ∃ m', m' < m ∧ W (i + 1) m' H') ∧ ∀ x H', J.yld i H x H' → g x (wipe σ vs) H' fun σ2 H2 => wipe σ2 vs = wipe σ vs ∧ tt σ2 H2 fun b H3 =>
    if b = true then te σ2 H3 fun y H4 => ∃ acc, H4 D = some (.lst acc) ∧ acc.length < sizeLine ∧ Nx (L2.upd H4 D (.lst (acc ++ [y]))) else Nx H3)
theorem rd_for' {wi : TI} (h : wi σ H (ForG g tb D σ)) : tFor wi g tb D σ H := h
theorem rd_lc' {wi : TI} (h : wi σ H (LcG g tt te vs σ Q)) : tLc wi g tt te vs σ H Q := h
theorem rd_forl (e : H a = some (.lst xs)) (Pv : Nat → L2.St → Hp → Prop) (h0 : Pv 0 σ H) (hG : ∀ i σ H', Pv i σ H' → H' a = some (.lst xs))
    (hs : ∀ i x σ H', i < xs.length → xs[i]? = some x → Pv i σ H' → g x σ H' fun σ2 H2 => tb { D with nx := Pv (i + 1), ct := Pv (i + 1), bk := D.nx } σ2 H2) (hd : ∀ σ H', Pv xs.length σ H' → D.nx σ H') :
    ∃ a', V.ref a = .ref a' ∧ (∃ xs, SqL K H a' xs) ∧ ForG g tb D σ (Itl K a') H :=
  ⟨a, rfl, ⟨xs, SqL.of e⟩, for_it walk_list Pv h0 (fun i σ H' _ p => SqL.of (hG i σ H' p)) (fun i x σ H1 H2 hi p y => by
    obtain ⟨rfl, hx⟩ := y
    exact hs i x σ _ hi hx p) hd⟩
theorem rd_fort (e : H a = some (.tup xs)) (Pv : Nat → L2.St → Hp → Prop) (h0 : Pv 0 σ H) (hG : ∀ i σ H', Pv i σ H' → H' a = some (.tup xs))
    (hs : ∀ i x σ H', i < xs.length → xs[i]? = some x → Pv i σ H' → g x σ H' fun σ2 H2 => tb { D with nx := Pv (i + 1), ct := Pv (i + 1), bk := D.nx } σ2 H2) (hd : ∀ σ H', Pv xs.length σ H' → D.nx σ H') :
    ∃ a', V.ref a = .ref a' ∧ (∃ xs, SqT K H a' xs) ∧ ForG g tb D σ (Itt K a') H :=
  ⟨a, rfl, ⟨xs, SqT.of e⟩, for_it walk_tup Pv h0 (fun i σ H' _ p => SqT.of (hG i σ H' p)) (fun i x σ H1 H2 hi p y => by
    obtain ⟨rfl, hx⟩ := y
    exact hs i x σ _ hi hx p) hd⟩
theorem rd_forr {j : Int} {n : Nat} (hj : j = (n : Int)) (hn : n ≤ 1000000) (Pv : Nat → L2.St → Hp → Prop) (h0 : Pv 0 σ H)
    (hs : ∀ i σ H', i < n → Pv i σ H' → g (.int (i : Int)) σ H' fun σ2 H2 => tb { D with nx := Pv (i + 1), ct := Pv (i + 1), bk := D.nx } σ2 H2) (hd : ∀ σ H', Pv n σ H' → D.nx σ H') :
    ∃ j' : Int, [V.int j] = [.int j'] ∧ -(2 ^ 62) ≤ j' ∧ j' < 2 ^ 62 ∧ ForG g tb D σ (Itr 0 j'.toNat) H := by
  subst hj
  refine ⟨_, rfl, by omega, by omega, ?_⟩
  rw [Int.toNat_natCast]
  exact for_it walk_range Pv h0 (fun _ _ _ _ _ => True.intro) (fun i x σ H1 H2 hi p y => by
    obtain ⟨rfl, rfl⟩ := y
    have q := hs i σ _ hi p
    rw [← Int.zero_add (i : Int)] at q
    exact q) hd
theorem rd_fors {z : Str} (Pv : Nat → L2.St → Hp → Prop) (h0 : Pv 0 σ H)
    (hs : ∀ i c σ H', z.cps[i]? = some c → Pv i σ H' → g (.str ⟨#[c]⟩) σ H' fun σ2 H2 => tb { D with nx := Pv (i + 1), ct := Pv (i + 1), bk := D.nx } σ2 H2) (hd : ∀ σ H', Pv z.cps.size σ H' → D.nx σ H') :
    ∃ x, V.str z = .str x ∧ ForG g tb D σ (Its x) H :=
  ⟨z, rfl, for_it walk_str Pv h0 (fun _ _ _ _ _ => True.intro) (fun i x σ H1 H2 hi p y => by
    obtain ⟨rfl, c, hc, rfl⟩ := y
    exact hs i c σ _ hc p) hd⟩
theorem rd_lcl (e : H a = some (.lst xs)) (h : ∀ D, H D = none → ∃ Pv : Nat → Hp → Prop, Pv 0 (L2.upd H D (.lst [])) ∧ (∀ i H', Pv i H' → H' a = some (.lst xs)) ∧
    (∀ i x H', i < xs.length → xs[i]? = some x → Pv i H' → g x (wipe σ vs) H' fun σ2 H2 => wipe σ2 vs = wipe σ vs ∧ tt σ2 H2 fun b H3 => if b = true then te σ2 H3 fun y H4 => ∃ acc, H4 D = some (.lst acc) ∧ acc.length < sizeLine ∧ Pv (i + 1) (L2.upd H4 D (.lst (acc ++ [y]))) else Pv (i + 1) H3) ∧
    ∀ H', Pv xs.length H' → Q (.ref D) H') : ∃ a', V.ref a = .ref a' ∧ (∃ xs, SqL K H a' xs) ∧ LcG g tt te vs σ Q (Itl K a') H :=
  ⟨a, rfl, ⟨xs, SqL.of e⟩, fun D hD => by
    obtain ⟨Pv, h0, hG, hs, hd⟩ := h D hD
    exact lc_it walk_list Pv h0 (fun i H' _ p => SqL.of (hG i H' p)) (fun i x H1 H2 hi p y => by
      obtain ⟨rfl, hx⟩ := y
      exact hs i x _ hi hx p) hd⟩
theorem rd_lct (e : H a = some (.tup xs)) (h : ∀ D, H D = none → ∃ Pv : Nat → Hp → Prop, Pv 0 (L2.upd H D (.lst [])) ∧ (∀ i H', Pv i H' → H' a = some (.tup xs)) ∧
    (∀ i x H', i < xs.length → xs[i]? = some x → Pv i H' → g x (wipe σ vs) H' fun σ2 H2 => wipe σ2 vs = wipe σ vs ∧ tt σ2 H2 fun b H3 => if b = true then te σ2 H3 fun y H4 => ∃ acc, H4 D = some (.lst acc) ∧ acc.length < sizeLine ∧ Pv (i + 1) (L2.upd H4 D (.lst (acc ++ [y]))) else Pv (i + 1) H3) ∧
    ∀ H', Pv xs.length H' → Q (.ref D) H') : ∃ a', V.ref a = .ref a' ∧ (∃ xs, SqT K H a' xs) ∧ LcG g tt te vs σ Q (Itt K a') H :=
  ⟨a, rfl, ⟨xs, SqT.of e⟩, fun D hD => by
    obtain ⟨Pv, h0, hG, hs, hd⟩ := h D hD
    exact lc_it walk_tup Pv h0 (fun i H' _ p => SqT.of (hG i H' p)) (fun i x H1 H2 hi p y => by
      obtain ⟨rfl, hx⟩ := y
      exact hs i x _ hi hx p) hd⟩
theorem rd_lcr {j : Int} {n : Nat} (hj : j = (n : Int)) (hn : n ≤ 1000000) (h : ∀ D, H D = none → ∃ Pv : Nat → Hp → Prop, Pv 0 (L2.upd H D (.lst [])) ∧
    (∀ i H', i < n → Pv i H' → g (.int (i : Int)) (wipe σ vs) H' fun σ2 H2 => wipe σ2 vs = wipe σ vs ∧ tt σ2 H2 fun b H3 => if b = true then te σ2 H3 fun y H4 => ∃ acc, H4 D = some (.lst acc) ∧ acc.length < sizeLine ∧ Pv (i + 1) (L2.upd H4 D (.lst (acc ++ [y]))) else Pv (i + 1) H3) ∧
    ∀ H', Pv n H' → Q (.ref D) H') : ∃ j' : Int, [V.int j] = [.int j'] ∧ -(2 ^ 62) ≤ j' ∧ j' < 2 ^ 62 ∧ LcG g tt te vs σ Q (Itr 0 j'.toNat) H := by
  subst hj
  refine ⟨_, rfl, by omega, by omega, fun D hD => ?_⟩
  rw [Int.toNat_natCast]
  obtain ⟨Pv, h0, hs, hd⟩ := h D hD
  exact lc_it walk_range Pv h0 (fun _ _ _ _ => True.intro) (fun i x H1 H2 hi p y => by
    obtain ⟨rfl, rfl⟩ := y
    have q := hs i _ hi p
    rw [← Int.zero_add (i : Int)] at q
    exact q) hd
theorem rd_lcs {z : Str} (h : ∀ D, H D = none → ∃ Pv : Nat → Hp → Prop, Pv 0 (L2.upd H D (.lst [])) ∧
    (∀ i c H', z.cps[i]? = some c → Pv i H' → g (.str ⟨#[c]⟩) (wipe σ vs) H' fun σ2 H2 => wipe σ2 vs = wipe σ vs ∧ tt σ2 H2 fun b H3 => if b = true then te σ2 H3 fun y H4 => ∃ acc, H4 D = some (.lst acc) ∧ acc.length < sizeLine ∧ Pv (i + 1) (L2.upd H4 D (.lst (acc ++ [y]))) else Pv (i + 1) H3) ∧
    ∀ H', Pv z.cps.size H' → Q (.ref D) H') : ∃ x, V.str z = .str x ∧ LcG g tt te vs σ Q (Its x) H :=
  ⟨z, rfl, fun D hD => by
    obtain ⟨Pv, h0, hs, hd⟩ := h D hD
    exact lc_it walk_str Pv h0 (fun _ _ _ _ => True.intro) (fun i x H1 H2 hi p y => by
      obtain ⟨rfl, c, hc, rfl⟩ := y
      exact hs i c _ hc p) hd⟩
end
end Z

section
local macro_rules | `(tactic| walk_at "ne") => `(tactic| first
  | assumption
  | (refine Z.ne_sym ?_; assumption)
  | (refine' Z.ne_new ?ka ?kb; (case ka => assumption); (case kb => walk_at "h"))
  | (refine' Z.ne_sym (Z.ne_new ?ka ?kb); (case ka => assumption); (case kb => walk_at "h"))
  | ((with_reducible refine' Z.ne_nw ?ka ?kb ?kc); (case ka => assumption); (case kb => walk_at "h"); (case kc => rfl))
  | ((with_reducible refine' Z.ne_sym (Z.ne_nw ?ka ?kb ?kc)); (case ka => assumption); (case kb => walk_at "h"); (case kc => rfl))
  | exact L2.ne_of (by assumption) (by assumption) (by intro z; cases z)
  | exact Z.ne_sym (L2.ne_of (by assumption) (by assumption) (by intro z; cases z)))
local macro_rules | `(tactic| walk_at "nm") => `(tactic| first
  | exact Z.nm_nil
  | exact Z.nm_cons (by walk_at "ne") (by walk_at "nm"))
local macro_rules | `(tactic| walk_at "h") => `(tactic| first
  | assumption
  | exact L2.upd_same
  | ((with_reducible refine' Eq.trans (L2.upd_ne ?ka) ?kb); (case ka => walk_at "ne"); (case kb => walk_at "h"))
  | ((with_reducible refine' Z.Fr.at ?ka ?kb ?kc ?kd); (case ka => assumption); (case kb => walk_at "h"); (case kc => walk_at "nm"); (case kd => rfl))
  | ((with_reducible refine' Z.Fr.tup ?ka ?kb); (case ka => assumption); (case kb => walk_at "h")))
local macro_rules | `(tactic| walk_at "free") => `(tactic| first
  | assumption
  | exact Z.Nw.of (by assumption)
  | ((with_reducible refine' Z.Fr.free ?ka ?kb); (case ka => assumption); (case kb => walk_at "free")))
local macro_rules | `(tactic| walk_at "ms") => `(tactic| first
  | exact Or.inl List.mem_cons_self
  | exact Or.inl (List.mem_cons_of_mem _ List.mem_cons_self)
  | (left; simp; done)
  | (right; walk_at "free"))
local macro_rules | `(tactic| walk_at "sub") => `(tactic| first
  | exact Z.sub_nil
  | ((with_reducible refine' Z.sub_cons ?ka ?kb); (case ka => walk_at "ms"); (case kb => walk_at "sub")))
local macro_rules | `(tactic| walk_at "fr") => `(tactic| first
  | assumption
  | exact Z.Fr.refl _ _
  | ((with_reducible refine' Z.Fr.new ?ka ?kb); (case kb => assumption); (case ka => walk_at "fr"))
  | ((with_reducible refine' Z.Fr.upd ?ka ?kb ?kc ?kd ?ke); (case kb => walk_at "ms"); (case kc => walk_at "h"); (case kd => rfl); (case ke => rfl); (case ka => walk_at "fr"))
  | ((with_reducible refine' Z.Fr.step ?ka ?kb ?kc); (case ka => assumption); (case kb => walk_at "fr"); (case kc => walk_at "sub")))
local macro_rules | `(tactic| walk_at "dt") => `(tactic| first
  | assumption
  | (refine Z.DT.new ?_ (by assumption); walk_at "dt")
  | (refine Z.DTs.new ?_ (by assumption); walk_at "dt")
  | (refine' Z.DT.wr ?ka ?kb ?kc; (case kb => walk_at "h"); (case kc => rfl); (case ka => walk_at "dt"))
  | (refine' Z.DTs.wr ?ka ?kb ?kc; (case kb => walk_at "h"); (case kc => rfl); (case ka => walk_at "dt"))
  | (refine' Z.DT.fr ?ka ?kb; (case kb => assumption); (case ka => walk_at "dt"))
  | (refine' Z.DTs.fr ?ka ?kb; (case kb => assumption); (case ka => walk_at "dt")))
local macro_rules | `(tactic| walk_at "len") => `(tactic| first
  | exact Z.lt_ok (Nat.le_of_ble_eq_true (by with_unfolding_all rfl))
  | exact Z.le_ok (Nat.le_of_ble_eq_true (by with_unfolding_all rfl))
  | (apply Z.lt_ok; (try simp only [List.length_append, List.length_cons, List.length_nil, List.length_map, List.length_set, List.length_eraseIdx] at *); omega)
  | (apply Z.le_ok; (try simp only [List.length_append, List.length_cons, List.length_nil, List.length_map, List.length_set, List.length_eraseIdx] at *); omega))
local macro_rules | `(tactic| walk_at "r") => `(tactic| first
  | (with_reducible refine Z.rd_seq ?_)
  | (with_reducible refine Z.rd_asg ?_)
  | (with_reducible refine Z.rd_gname ?_)
  | (with_reducible refine Z.rd_ifs ?_)
  | (with_reducible refine Z.rd_next ?_)
  | (with_reducible refine Z.rd_and ?_)
  | (with_reducible refine Z.rd_or ?_)
  | (with_reducible refine Z.rd_not ?_)
  | (with_reducible refine Z.rd_test ?_)
  | (with_reducible refine Z.rd_tb ?_)
  | (with_reducible refine Z.rd_bl ?_)
  | (with_reducible refine Z.rd_op ?_)
  | (with_reducible refine Z.rd_c ?_)
  | ((with_reducible refine' Z.rd_var ?ka ?_); (case ka => with_unfolding_all rfl))
  | (with_reducible refine Z.rd_ret ?_)
  | (with_reducible refine Z.rd_retn ?_)
  | (with_reducible refine Z.rd_drop ?_)
  | (with_reducible refine Z.rd_nil ?_)
  | (with_reducible refine Z.rd_cons ?_)
  | (with_reducible refine Z.rd_cb ?_)
  | (with_reducible refine Z.rd_call ?_)
  | (with_reducible refine Z.rd_dget0 ?_)
  | ((with_reducible refine' Z.rd_dget1 ?ka ?kb ?_); (case ka => walk_at "h"); (case kb => with_unfolding_all rfl))
  | (with_reducible refine Z.rd_dput0 ?_)
  | ((with_reducible refine' Z.rd_dput1 ?ka ?kb ?_); (case ka => walk_at "h"); (case kb => walk_at "len"))
  | (with_reducible refine Z.rd_eqi ?_)
  | (with_reducible refine Z.rd_eqs ?_)
  | (with_reducible refine Z.rd_nei ?_)
  | (with_reducible refine Z.rd_nes ?_)
  | (with_reducible refine Z.rd_i0 ?_)
  | (with_reducible refine Z.rd_lst ?_)
  | (with_reducible refine Z.rd_tup ?_)
  | (with_reducible refine Z.rd_ifx ?_)
  | (with_reducible refine Z.rd_bm ?_)
  | (with_reducible refine Z.rd_bm0 ?_)
  | ((with_reducible refine' Z.rd_nil2 ?ka ?kb ?_); (case ka => walk_at "h"); (case kb => walk_at "h"))
  | ((with_reducible refine' Z.rd_nil2T ?ka ?kb ?_); (case ka => walk_at "h"); (case kb => walk_at "h"))
  | (with_reducible refine Z.rd_int1 ?_)
  | ((with_reducible refine' Z.rd_size ?ka ?_); (case ka => walk_at "len"))
  | ((with_reducible refine' Z.rd_tylist ?ka ?_); (case ka => walk_at "h"))
  | ((with_reducible refine' Z.rd_i ?ka ?_); (case ka => walk_at "num"))
  | ((with_reducible refine' Z.rd_append ?ka ?kb ?_); (case ka => walk_at "h"); (case kb => walk_at "len"))
  | (with_reducible refine Z.rd_for' ?_)
  | (with_reducible refine Z.rd_lc' ?_)
  | (with_reducible refine Z.rd_un ?_)
  | (with_reducible refine Z.rd_gm ?_)
  | (with_reducible refine Z.rd_xk ?_)
  | (with_reducible refine Z.rd_stard ?_)
  | ((with_reducible refine' Z.rd_stard1 ?ka ?_); (case ka => walk_at "h"))
  | (with_reducible refine Z.rd_star ?_)
  | ((with_reducible refine' Z.rd_star1 ?ka ?_); (case ka => walk_at "h"))
  | (with_reducible refine Z.rd_dc' ?_)
  | (with_reducible refine Z.rd_dnew ?_)
  | (with_reducible refine Z.rd_dpop ?_)
  | ((with_reducible refine' Z.rd_isd ?ka ?_); (case ka => walk_at "h"))
  | (with_reducible refine Z.rd_fldaug ?_)
  | (with_reducible refine Z.rd_ilt ?_)
  | (with_reducible refine Z.rd_mko ?_)
  | (with_reducible refine Z.rd_gk ?_)
  | (with_reducible refine Z.rd_gp ?_)
  | ((with_reducible refine' Z.rd_ins1 ?ka ?_); (case ka => walk_at "h"))
  | (with_reducible refine Z.rd_disp ?_)
  | (with_reducible refine Z.rd_pnil ?_)
  | (with_reducible refine Z.rd_pcons ?_)
  | (with_reducible refine Z.rd_m1 ?_)
  | (with_reducible refine Z.rd_isstr ?_)
  | (with_reducible refine Z.rd_sl ?_)
  | (with_reducible refine Z.rd_nopart ?_)
  | (with_reducible refine Z.rd_part ?_)
  | (with_reducible refine Z.rd_part1 ?_)
  | (with_reducible refine Z.rd_u ?_)
  | (with_reducible refine Z.rd_ilist ?_)
  | (with_reducible refine Z.rd_itup ?_)
  | (with_reducible refine Z.rd_istr ?_)
  | (with_reducible refine Z.rd_irng1 ?_)
  | (with_reducible refine Z.rd_yes ?_)
  | (with_reducible refine Z.rd_sfld0 ?_)
  | (with_reducible refine Z.rd_fld0 ?_)
  | (with_reducible refine Z.rd_din ?_)
  | (with_reducible refine Z.rd_dnotin ?_)
  | (with_reducible refine Z.rd_isn ?_)
  | (with_reducible refine Z.rd_notn ?_)
  | (with_reducible refine Z.rd_par ?_)
  | (with_reducible refine Z.rd_par1 ?_)
  | (with_reducible refine Z.rd_gnil ?_)
  | (with_reducible refine Z.rd_gcons ?_)
  | (with_reducible refine Z.rd_chain ?_)
  | (with_reducible refine Z.rd_andv ?_)
  | (with_reducible refine Z.rd_orv ?_)
  | (with_reducible refine Z.rd_notv ?_)
  | (with_reducible refine Z.rd_meth ?_)
  | (with_reducible refine Z.rd_while ?_)
  | ((with_reducible refine' Z.rd_ixl ?ka ?kb ?_); (case ka => walk_at "h"); (case kb => walk_at "ati"))
  | ((with_reducible refine' Z.rd_ixt ?ka ?kb ?_); (case ka => walk_at "h"); (case kb => walk_at "ati"))
  | ((with_reducible refine' Z.rd_len ?ka ?_); (case ka => walk_at "h"))
  | ((with_reducible refine' Z.rd_lens ?ka ?_); (case ka => walk_at "h"))
  | ((with_reducible refine' Z.rd_lent ?ka ?_); (case ka => walk_at "h"))
  | ((with_reducible refine' Z.rd_lstof ?ka ?_); (case ka => walk_at "h"))
  | ((with_reducible refine' Z.rd_tupof ?ka ?_); (case ka => walk_at "h"))
  | ((with_reducible refine' Z.rd_sfld1 ?ka ?kb ?kc ?kd ?_); (case ka => walk_at "h"); (case kb => assumption); (case kc => assumption); (case kd => (first | (with_unfolding_all decide) | exact Nat.le_of_ble_eq_true (by with_unfolding_all rfl))))
  | ((with_reducible refine' Z.rd_fld1 ?ka ?kb ?kc ?kd ?_); (case ka => walk_at "h"); (case kb => assumption); (case kc => assumption); (case kd => with_unfolding_all rfl))
  | ((with_reducible refine' Z.rd_din1 ?ka ?_); (case ka => walk_at "h"))
  | ((with_reducible refine' Z.rd_gtup ?ka ?kb ?_); (case ka => walk_at "h"); (case kb => with_unfolding_all rfl))
  | ((with_reducible refine' Z.rd_catl ?ka ?kb ?kc ?_); (case ka => walk_at "h"); (case kb => walk_at "h"); (case kc => walk_at "len"))
  | ((with_reducible refine' Z.rd_meth1 ?ka ?kb ?_); (case ka => walk_at "h"); (case kb => with_unfolding_all rfl))
  | ((with_reducible refine' Z.rd_addstr ?ka ?_); (case ka => walk_at "len")))
local macro_rules | `(tactic| walk_at "ati") => `(tactic| first
  | assumption
  | (with_unfolding_all rfl)
  | exact L2.atI_nat (by assumption)
  | exact L2.atI_nat (by with_unfolding_all rfl)
  | exact L2.atI_last _ _)
local macro_rules | `(tactic| walk_at "rr") => `(tactic| repeat (walk_at "r"))
local macro_rules | `(tactic| walk_at "num") => `(tactic| first
  | (with_unfolding_all decide)
  | (show (_ : Int) ≠ 0; omega)
  | (show (_ : Int) ≠ 0 ∧ _ < 1073741824; exact ⟨by omega, by omega⟩)
  | (show (0 : Int) ≤ _ ∧ _ ≤ (1000000 : Int) ∧ _; exact ⟨by decide, by decide, by omega⟩)
  | (show (-(2 ^ 64) < (_ : Int) ∧ _ < 2 ^ 64) ∨ _; (first | (left; exact ⟨by omega, by omega⟩) | (right; exact ⟨by omega, by omega⟩)))
  | omega)
/-! ### data: none, bools, ints, texts and tuples of them, by tuples that are tracked -/
namespace Z
open PySem PySem.Spec PyProof.Rows L2
mutual
inductive DT (H : Hp) : V → PyData → Prop
  | non : DT H .non .none
  | bl (b : Bool) : DT H (.bl b) (.bool b)
  | int (i : Int) : DT H (.int i) (.int i)
  | str (x : Str) : DT H (.str x) (.str x)
  | tup {a : Addr} {xs : List V} {ds : List PyData} : H a = some (.tup xs) → DTs H xs ds → DT H (.ref a) (.tuple ds)
inductive DTs (H : Hp) : List V → List PyData → Prop
  | nil : DTs H [] []
  | cons {v : V} {vs : List V} {d : PyData} {ds : List PyData} : DT H v d → DTs H vs ds → DTs H (v :: vs) (d :: ds)
end
mutual
theorem DT.keep {H H' : Hp} (k : ∀ a xs, H a = some (.tup xs) → H' a = some (.tup xs)) : ∀ (d : PyData) (v : V), DT H v d → DT H' v d
  | .none, _, h => by cases h; exact .non
  | .bool _, _, h => by cases h; exact .bl _
  | .int _, _, h => by cases h; exact .int _
  | .str _, _, h => by cases h; exact .str _
  | .list _, _, h => by cases h
  | .tuple ds, _, h => by
    cases h with
    | tup e t => exact .tup (k _ _ e) (DTs.keep k ds _ t)
  | .dict _, _, h => by cases h
theorem DTs.keep {H H' : Hp} (k : ∀ a xs, H a = some (.tup xs) → H' a = some (.tup xs)) : ∀ (ds : List PyData) (vs : List V), DTs H vs ds → DTs H' vs ds
  | [], _, h => by cases h; exact .nil
  | d :: ds, _, h => by
    cases h with
    | cons a b => exact .cons (DT.keep k d _ a) (DTs.keep k ds _ b)
end
theorem DT.fr {Λ : List (Addr × Str)} {S : List Addr} {H H' : Hp} {v : V} {d : PyData} (h : DT H v d) (f : Fr Λ S H H') : DT H' v d := DT.keep f.2.2.1 d v h
theorem DTs.fr {Λ : List (Addr × Str)} {S : List Addr} {H H' : Hp} {v : List V} {d : List PyData} (h : DTs H v d) (f : Fr Λ S H H') : DTs H' v d := DTs.keep f.2.2.1 d v h
mutual
theorem DT.dp {K : PySem.W.Frag} {H : Hp} : ∀ (d : PyData) (v : V), DT H v d → Dp K H v d
  | .none, _, h => by cases h; exact .non
  | .bool _, _, h => by cases h; exact .bl _
  | .int _, _, h => by cases h; exact .int _
  | .str _, _, h => by cases h; exact .str _
  | .list _, _, h => by cases h
  | .tuple ds, _, h => by
    cases h with
    | tup e t => exact .tup (SqT.of e) (DTs.dp ds _ t)
  | .dict _, _, h => by cases h
theorem DTs.dp {K : PySem.W.Frag} {H : Hp} : ∀ (ds : List PyData) (vs : List V), DTs H vs ds → DpAll K H vs ds
  | [], _, h => by cases h; exact .nil
  | d :: ds, _, h => by
    cases h with
    | cons a b => exact .cons (DT.dp d _ a) (DTs.dp ds _ b)
end
theorem DTs.snoc {H : Hp} : ∀ {vs : List V} {ds : List PyData} {v : V} {d : PyData}, DTs H vs ds → DT H v d → DTs H (vs ++ [v]) (ds ++ [d])
  | _, _, _, _, .nil, h => .cons h .nil
  | _, _, _, _, .cons a b, h => .cons a (DTs.snoc b h)
theorem DTs.length {H : Hp} : ∀ {vs : List V} {ds : List PyData}, DTs H vs ds → vs.length = ds.length
  | _, _, .nil => rfl
  | _, _, .cons _ b => by rw [List.length_cons, List.length_cons, DTs.length b]
theorem DT.new {H : Hp} {v : V} {d : PyData} {p : Addr} {o : HO} (h : DT H v d) (hp : H p = none) : DT (L2.upd H p o) v d := h.fr ((Fr.refl (Λ := []) [] H).new hp)
theorem DTs.new {H : Hp} {v : List V} {d : List PyData} {p : Addr} {o : HO} (h : DTs H v d) (hp : H p = none) : DTs (L2.upd H p o) v d := h.fr ((Fr.refl (Λ := []) [] H).new hp)
theorem DT.wr {H : Hp} {v : V} {d : PyData} {a : Addr} {o o0 : HO} (h : DT H v d) (e : H a = some o0) (nt : isFix o0 = false) (no : isTbl o = false := by rfl) : DT (L2.upd H a o) v d := h.fr ((Fr.refl (Λ := []) [a] H).upd (.inl List.mem_cons_self) e nt no)
theorem DTs.wr {H : Hp} {v : List V} {d : List PyData} {a : Addr} {o o0 : HO} (h : DTs H v d) (e : H a = some o0) (nt : isFix o0 = false) (no : isTbl o = false := by rfl) : DTs (L2.upd H a o) v d := h.fr ((Fr.refl (Λ := []) [a] H).upd (.inl List.mem_cons_self) e nt no)
theorem DTs.at {H : Hp} : ∀ {vs : List V} {ds : List PyData}, DTs H vs ds → ∀ {i : Nat} {v : V}, vs[i]? = some v → ∃ d, d ∈ ds ∧ DT H v d
  | _, _, .nil, _, _, h => by simp at h
  | _, _, .cons a b, 0, v, h => by
    simp at h
    subst h
    exact ⟨_, List.mem_cons_self, a⟩
  | _, _, .cons a b, i + 1, v, h => by
    obtain ⟨d, h1, h2⟩ := DTs.at b (i := i) (v := v) (by simpa using h)
    exact ⟨d, List.mem_cons_of_mem _ h1, h2⟩
end Z

end
section
local macro_rules | `(tactic| walk_at "ne") => `(tactic| first
  | assumption
  | (refine Z.ne_sym ?_; assumption)
  | (refine' Z.ne_new ?ka ?kb; (case ka => assumption); (case kb => walk_at "h"))
  | (refine' Z.ne_sym (Z.ne_new ?ka ?kb); (case ka => assumption); (case kb => walk_at "h"))
  | ((with_reducible refine' Z.ne_nw ?ka ?kb ?kc); (case ka => assumption); (case kb => walk_at "h"); (case kc => rfl))
  | ((with_reducible refine' Z.ne_sym (Z.ne_nw ?ka ?kb ?kc)); (case ka => assumption); (case kb => walk_at "h"); (case kc => rfl))
  | exact L2.ne_of (by assumption) (by assumption) (by intro z; cases z)
  | exact Z.ne_sym (L2.ne_of (by assumption) (by assumption) (by intro z; cases z)))
local macro_rules | `(tactic| walk_at "nm") => `(tactic| first
  | exact Z.nm_nil
  | exact Z.nm_cons (by walk_at "ne") (by walk_at "nm"))
local macro_rules | `(tactic| walk_at "h") => `(tactic| first
  | assumption
  | exact L2.upd_same
  | ((with_reducible refine' Eq.trans (L2.upd_ne ?ka) ?kb); (case ka => walk_at "ne"); (case kb => walk_at "h"))
  | ((with_reducible refine' Z.Fr.at ?ka ?kb ?kc ?kd); (case ka => assumption); (case kb => walk_at "h"); (case kc => walk_at "nm"); (case kd => rfl))
  | ((with_reducible refine' Z.Fr.tup ?ka ?kb); (case ka => assumption); (case kb => walk_at "h")))
local macro_rules | `(tactic| walk_at "free") => `(tactic| first
  | assumption
  | exact Z.Nw.of (by assumption)
  | ((with_reducible refine' Z.Fr.free ?ka ?kb); (case ka => assumption); (case kb => walk_at "free")))
local macro_rules | `(tactic| walk_at "ms") => `(tactic| first
  | exact Or.inl List.mem_cons_self
  | exact Or.inl (List.mem_cons_of_mem _ List.mem_cons_self)
  | (left; simp; done)
  | (right; walk_at "free"))
local macro_rules | `(tactic| walk_at "sub") => `(tactic| first
  | exact Z.sub_nil
  | ((with_reducible refine' Z.sub_cons ?ka ?kb); (case ka => walk_at "ms"); (case kb => walk_at "sub")))
local macro_rules | `(tactic| walk_at "fr") => `(tactic| first
  | assumption
  | exact Z.Fr.refl _ _
  | ((with_reducible refine' Z.Fr.new ?ka ?kb); (case kb => assumption); (case ka => walk_at "fr"))
  | ((with_reducible refine' Z.Fr.upd ?ka ?kb ?kc ?kd ?ke); (case kb => walk_at "ms"); (case kc => walk_at "h"); (case kd => rfl); (case ke => rfl); (case ka => walk_at "fr"))
  | ((with_reducible refine' Z.Fr.step ?ka ?kb ?kc); (case ka => assumption); (case kb => walk_at "fr"); (case kc => walk_at "sub")))
local macro_rules | `(tactic| walk_at "dt") => `(tactic| first
  | assumption
  | (refine Z.DT.new ?_ (by assumption); walk_at "dt")
  | (refine Z.DTs.new ?_ (by assumption); walk_at "dt")
  | (refine' Z.DT.wr ?ka ?kb ?kc; (case kb => walk_at "h"); (case kc => rfl); (case ka => walk_at "dt"))
  | (refine' Z.DTs.wr ?ka ?kb ?kc; (case kb => walk_at "h"); (case kc => rfl); (case ka => walk_at "dt"))
  | (refine' Z.DT.fr ?ka ?kb; (case kb => assumption); (case ka => walk_at "dt"))
  | (refine' Z.DTs.fr ?ka ?kb; (case kb => assumption); (case ka => walk_at "dt")))
local macro_rules | `(tactic| walk_at "len") => `(tactic| first
  | exact Z.lt_ok (Nat.le_of_ble_eq_true (by with_unfolding_all rfl))
  | exact Z.le_ok (Nat.le_of_ble_eq_true (by with_unfolding_all rfl))
  | (apply Z.lt_ok; (try simp only [List.length_append, List.length_cons, List.length_nil, List.length_map, List.length_set, List.length_eraseIdx] at *); omega)
  | (apply Z.le_ok; (try simp only [List.length_append, List.length_cons, List.length_nil, List.length_map, List.length_set, List.length_eraseIdx] at *); omega))
local macro_rules | `(tactic| walk_at "r") => `(tactic| first
  | (with_reducible refine Z.rd_seq ?_)
  | (with_reducible refine Z.rd_asg ?_)
  | (with_reducible refine Z.rd_gname ?_)
  | (with_reducible refine Z.rd_ifs ?_)
  | (with_reducible refine Z.rd_next ?_)
  | (with_reducible refine Z.rd_and ?_)
  | (with_reducible refine Z.rd_or ?_)
  | (with_reducible refine Z.rd_not ?_)
  | (with_reducible refine Z.rd_test ?_)
  | (with_reducible refine Z.rd_tb ?_)
  | (with_reducible refine Z.rd_bl ?_)
  | (with_reducible refine Z.rd_op ?_)
  | (with_reducible refine Z.rd_c ?_)
  | ((with_reducible refine' Z.rd_var ?ka ?_); (case ka => with_unfolding_all rfl))
  | (with_reducible refine Z.rd_ret ?_)
  | (with_reducible refine Z.rd_retn ?_)
  | (with_reducible refine Z.rd_drop ?_)
  | (with_reducible refine Z.rd_nil ?_)
  | (with_reducible refine Z.rd_cons ?_)
  | (with_reducible refine Z.rd_cb ?_)
  | (with_reducible refine Z.rd_call ?_)
  | (with_reducible refine Z.rd_dget0 ?_)
  | ((with_reducible refine' Z.rd_dget1 ?ka ?kb ?_); (case ka => walk_at "h"); (case kb => with_unfolding_all rfl))
  | (with_reducible refine Z.rd_dput0 ?_)
  | ((with_reducible refine' Z.rd_dput1 ?ka ?kb ?_); (case ka => walk_at "h"); (case kb => walk_at "len"))
  | (with_reducible refine Z.rd_eqi ?_)
  | (with_reducible refine Z.rd_eqs ?_)
  | (with_reducible refine Z.rd_nei ?_)
  | (with_reducible refine Z.rd_nes ?_)
  | (with_reducible refine Z.rd_i0 ?_)
  | (with_reducible refine Z.rd_lst ?_)
  | (with_reducible refine Z.rd_tup ?_)
  | (with_reducible refine Z.rd_ifx ?_)
  | (with_reducible refine Z.rd_bm ?_)
  | (with_reducible refine Z.rd_bm0 ?_)
  | ((with_reducible refine' Z.rd_nil2 ?ka ?kb ?_); (case ka => walk_at "h"); (case kb => walk_at "h"))
  | ((with_reducible refine' Z.rd_nil2T ?ka ?kb ?_); (case ka => walk_at "h"); (case kb => walk_at "h"))
  | (with_reducible refine Z.rd_int1 ?_)
  | ((with_reducible refine' Z.rd_size ?ka ?_); (case ka => walk_at "len"))
  | ((with_reducible refine' Z.rd_tylist ?ka ?_); (case ka => walk_at "h"))
  | ((with_reducible refine' Z.rd_i ?ka ?_); (case ka => walk_at "num"))
  | ((with_reducible refine' Z.rd_append ?ka ?kb ?_); (case ka => walk_at "h"); (case kb => walk_at "len"))
  | (with_reducible refine Z.rd_for' ?_)
  | (with_reducible refine Z.rd_lc' ?_)
  | (with_reducible refine Z.rd_un ?_)
  | (with_reducible refine Z.rd_gm ?_)
  | (with_reducible refine Z.rd_xk ?_)
  | (with_reducible refine Z.rd_stard ?_)
  | ((with_reducible refine' Z.rd_stard1 ?ka ?_); (case ka => walk_at "h"))
  | (with_reducible refine Z.rd_star ?_)
  | ((with_reducible refine' Z.rd_star1 ?ka ?_); (case ka => walk_at "h"))
  | (with_reducible refine Z.rd_dc' ?_)
  | (with_reducible refine Z.rd_dnew ?_)
  | (with_reducible refine Z.rd_dpop ?_)
  | ((with_reducible refine' Z.rd_isd ?ka ?_); (case ka => walk_at "h"))
  | (with_reducible refine Z.rd_fldaug ?_)
  | (with_reducible refine Z.rd_ilt ?_)
  | (with_reducible refine Z.rd_mko ?_)
  | (with_reducible refine Z.rd_gk ?_)
  | (with_reducible refine Z.rd_gp ?_)
  | ((with_reducible refine' Z.rd_ins1 ?ka ?_); (case ka => walk_at "h"))
  | (with_reducible refine Z.rd_disp ?_)
  | (with_reducible refine Z.rd_pnil ?_)
  | (with_reducible refine Z.rd_pcons ?_)
  | (with_reducible refine Z.rd_m1 ?_)
  | (with_reducible refine Z.rd_isstr ?_)
  | (with_reducible refine Z.rd_sl ?_)
  | (with_reducible refine Z.rd_nopart ?_)
  | (with_reducible refine Z.rd_part ?_)
  | (with_reducible refine Z.rd_part1 ?_)
  | (with_reducible refine Z.rd_u ?_)
  | (with_reducible refine Z.rd_ilist ?_)
  | (with_reducible refine Z.rd_itup ?_)
  | (with_reducible refine Z.rd_istr ?_)
  | (with_reducible refine Z.rd_irng1 ?_)
  | (with_reducible refine Z.rd_yes ?_)
  | (with_reducible refine Z.rd_sfld0 ?_)
  | (with_reducible refine Z.rd_fld0 ?_)
  | (with_reducible refine Z.rd_din ?_)
  | (with_reducible refine Z.rd_dnotin ?_)
  | (with_reducible refine Z.rd_isn ?_)
  | (with_reducible refine Z.rd_notn ?_)
  | (with_reducible refine Z.rd_par ?_)
  | (with_reducible refine Z.rd_par1 ?_)
  | (with_reducible refine Z.rd_gnil ?_)
  | (with_reducible refine Z.rd_gcons ?_)
  | (with_reducible refine Z.rd_chain ?_)
  | (with_reducible refine Z.rd_andv ?_)
  | (with_reducible refine Z.rd_orv ?_)
  | (with_reducible refine Z.rd_notv ?_)
  | (with_reducible refine Z.rd_meth ?_)
  | (with_reducible refine Z.rd_while ?_)
  | ((with_reducible refine' Z.rd_ixl ?ka ?kb ?_); (case ka => walk_at "h"); (case kb => walk_at "ati"))
  | ((with_reducible refine' Z.rd_ixt ?ka ?kb ?_); (case ka => walk_at "h"); (case kb => walk_at "ati"))
  | ((with_reducible refine' Z.rd_len ?ka ?_); (case ka => walk_at "h"))
  | ((with_reducible refine' Z.rd_lens ?ka ?_); (case ka => walk_at "h"))
  | ((with_reducible refine' Z.rd_lent ?ka ?_); (case ka => walk_at "h"))
  | ((with_reducible refine' Z.rd_lstof ?ka ?_); (case ka => walk_at "h"))
  | ((with_reducible refine' Z.rd_tupof ?ka ?_); (case ka => walk_at "h"))
  | ((with_reducible refine' Z.rd_sfld1 ?ka ?kb ?kc ?kd ?_); (case ka => walk_at "h"); (case kb => assumption); (case kc => assumption); (case kd => (first | (with_unfolding_all decide) | exact Nat.le_of_ble_eq_true (by with_unfolding_all rfl))))
  | ((with_reducible refine' Z.rd_fld1 ?ka ?kb ?kc ?kd ?_); (case ka => walk_at "h"); (case kb => assumption); (case kc => assumption); (case kd => with_unfolding_all rfl))
  | ((with_reducible refine' Z.rd_din1 ?ka ?_); (case ka => walk_at "h"))
  | ((with_reducible refine' Z.rd_gtup ?ka ?kb ?_); (case ka => walk_at "h"); (case kb => with_unfolding_all rfl))
  | ((with_reducible refine' Z.rd_catl ?ka ?kb ?kc ?_); (case ka => walk_at "h"); (case kb => walk_at "h"); (case kc => walk_at "len"))
  | ((with_reducible refine' Z.rd_meth1 ?ka ?kb ?_); (case ka => walk_at "h"); (case kb => with_unfolding_all rfl))
  | ((with_reducible refine' Z.rd_addstr ?ka ?_); (case ka => walk_at "len")))
local macro_rules | `(tactic| walk_at "ati") => `(tactic| first
  | assumption
  | (with_unfolding_all rfl)
  | exact L2.atI_nat (by assumption)
  | exact L2.atI_nat (by with_unfolding_all rfl)
  | exact L2.atI_last _ _)
local macro_rules | `(tactic| walk_at "rr") => `(tactic| repeat (walk_at "r"))
local macro_rules | `(tactic| walk_at "num") => `(tactic| first
  | (with_unfolding_all decide)
  | (show (_ : Int) ≠ 0; omega)
  | (show (_ : Int) ≠ 0 ∧ _ < 1073741824; exact ⟨by omega, by omega⟩)
  | (show (0 : Int) ≤ _ ∧ _ ≤ (1000000 : Int) ∧ _; exact ⟨by decide, by decide, by omega⟩)
  | (show (-(2 ^ 64) < (_ : Int) ∧ _ < 2 ^ 64) ∨ _; (first | (left; exact ⟨by omega, by omega⟩) | (right; exact ⟨by omega, by omega⟩)))
  | omega)
/-! ### names: one to eight small letters, two words left out -/
namespace Z
open PySem PySem.Spec PyProof.Rows L2
def cl (x : Str) : List Nat := x.cps.toList
theorem str_eq {x y : Str} (h : cl x = cl y) : x = y := by
  obtain ⟨a⟩ := x
  obtain ⟨b⟩ := y
  unfold cl at h
  congr 1
  exact Array.toList_inj.mp h
def lowB (c : Nat) : Bool := decide (97 ≤ c) && decide (c ≤ 122)
def wdB (x : Str) : Bool := decide (1 ≤ (cl x).length) && decide ((cl x).length ≤ 8) && (cl x).all lowB
def nmB (x : Str) : Bool := wdB x && !decide (x = "self") && !decide (x = "path")
theorem wdB_of {x : Str} (h1 : 1 ≤ (cl x).length) (h2 : (cl x).length ≤ 8) (h3 : ∀ c ∈ cl x, lowB c = true) : wdB x = true := by
  unfold wdB
  rw [decide_eq_true h1, decide_eq_true h2]
  simpa using h3
theorem wdB_le {x : Str} (h : wdB x = true) : 1 ≤ (cl x).length ∧ (cl x).length ≤ 8 ∧ ∀ c ∈ cl x, lowB c = true := by
  unfold wdB at h
  simp only [Bool.and_eq_true, decide_eq_true_eq, List.all_eq_true] at h
  exact ⟨h.1.1, h.1.2, h.2⟩
theorem nmB_of {x : Str} (h : wdB x = true) (h1 : x ≠ "self") (h2 : x ≠ "path") : nmB x = true := by
  unfold nmB
  rw [h, decide_eq_false h1, decide_eq_false h2]
  rfl
theorem nmB_wd {x : Str} (h : nmB x = true) : wdB x = true := by
  unfold nmB at h
  simp only [Bool.and_eq_true] at h
  exact h.1.1
theorem nmB_ne {x : Str} (h : nmB x = true) : x ≠ "self" ∧ x ≠ "path" := by
  unfold nmB at h
  simp only [Bool.and_eq_true, Bool.not_eq_true', decide_eq_false_iff_not] at h
  exact ⟨h.1.2, h.2⟩
abbrev abc : Str := "abcdefghijklmnopqrstuvwxyz"
theorem abc_cl : cl abc = [97, 98, 99, 100, 101, 102, 103, 104, 105, 106, 107, 108, 109, 110, 111, 112, 113, 114, 115, 116, 117, 118, 119, 120, 121, 122] := by decide +kernel
theorem abc_mem {c : Nat} : c ∈ cl abc ↔ lowB c = true := by
  rw [abc_cl]
  unfold lowB
  simp only [List.mem_cons, List.not_mem_nil, or_false, Bool.and_eq_true, decide_eq_true_eq]
  omega
theorem one_wd {c : Nat} (h : lowB c = true) : wdB ⟨#[c]⟩ = true := wdB_of (by simp [cl]) (by simp [cl]) (by simpa [cl] using h)
theorem self_len : (cl "self").length = 4 := by decide +kernel
theorem path_len : (cl "path").length = 4 := by decide +kernel
theorem one_nm {c : Nat} (h : lowB c = true) : nmB ⟨#[c]⟩ = true := nmB_of (one_wd h) (fun e => by
  have := congrArg (fun x => (cl x).length) e
  simp only [self_len] at this
  simp [cl] at this) (fun e => by
  have := congrArg (fun x => (cl x).length) e
  simp only [path_len] at this
  simp [cl] at this)
theorem inV_str {x : Str} {ys : List Str} : inV (.str x) (ys.map V.str) = decide (x ∈ ys) := by
  unfold inV
  rw [Bool.eq_iff_iff, List.any_eq_true, decide_eq_true_eq]
  constructor
  · rintro ⟨v, hv, e⟩
    obtain ⟨y, hy, rfl⟩ := List.mem_map.mp hv
    have : y = x := by simpa [eqV] using e
    rw [← this]; exact hy
  · intro h
    exact ⟨.str x, List.mem_map.mpr ⟨x, h, rfl⟩, by simp [eqV]⟩
theorem flat_strs (ys : List Str) : (ys.map V.str).all flatV = true := by
  rw [List.all_eq_true]
  intro v hv
  obtain ⟨y, _, rfl⟩ := List.mem_map.mp hv
  rfl
theorem nodup_sub {α : Type} [DecidableEq α] : ∀ {l m : List α}, l.Nodup → (∀ x ∈ l, x ∈ m) → l.length ≤ m.length
  | [], _, _, _ => Nat.zero_le _
  | a :: l, m, nd, h => by
    have ha : a ∈ m := h a List.mem_cons_self
    have nd' := List.nodup_cons.mp nd
    have := nodup_sub (l := l) (m := m.erase a) nd'.2 fun x hx => (List.mem_erase_of_ne (fun e => nd'.1 (by rw [← e]; exact hx))).mpr (h x (List.mem_cons_of_mem _ hx))
    rw [List.length_erase_of_mem ha] at this
    have hp : 0 < m.length := List.length_pos_of_mem ha
    rw [List.length_cons]
    omega
theorem join0 : ∀ cs : List Nat, cl (Str.join "" (cs.map fun c => (⟨#[c]⟩ : Str))) = cs
  | [] => rfl
  | [c] => rfl
  | c :: d :: r => by
    have ih := join0 (d :: r)
    show cl ((⟨#[c]⟩ : Str) ++ ("" : Str) ++ Str.join "" ((d :: r).map fun c => (⟨#[c]⟩ : Str))) = _
    unfold cl at ih ⊢
    show ((#[c] ++ (#[] : Array Nat)) ++ (Str.join "" ((d :: r).map fun c => (⟨#[c]⟩ : Str))).cps).toList = _
    rw [Array.toList_append, ih]
    rfl
theorem join1 (cs : List Nat) : cl (Txt.join "" (cs.map fun c => (⟨#[c]⟩ : Str))) = cs := (congrArg cl (StrLaws.glued_eq_join "" _)).trans (join0 cs)
theorem ones_sum (cs : List Nat) : (((cs.map fun c => (⟨#[c]⟩ : Str)).map fun x => x.length).sum) = cs.length := by
  induction cs with
  | nil => rfl
  | cons c r ih =>
    rw [List.map_cons, List.map_cons, List.sum_cons, ih, List.length_cons]
    show 1 + _ = _
    omega
theorem cut8 (x : Str) : cl (cutS x none (some 8)) = (cl x).take 8 := by
  unfold cutS cl
  simp only [HT.sIx]
  show List.take (min (8 : Int).toNat x.cps.size - 0) (List.drop 0 x.cps.toList) = _
  rw [List.drop_zero, Nat.sub_zero]
  have : (8 : Int).toNat = 8 := rfl
  rw [this, ← Array.length_toList, ← List.take_take, List.take_length]
theorem cl_app (x y : Str) : cl (x ++ y) = cl x ++ cl y := by
  show ((x.cps ++ y.cps) : Array Nat).toList = _
  rw [Array.toList_append]; rfl
theorem cl_len (x : Str) : x.length = (cl x).length := by
  show x.cps.size = _
  unfold cl
  rw [Array.length_toList]
theorem cut_wd {x : Str} {c : Nat} (h : wdB x = true) (hc : lowB c = true) : wdB (cutS (x ++ ⟨#[c]⟩) none (some 8)) = true := by
  obtain ⟨h1, h2, h3⟩ := wdB_le h
  have e : cl (cutS (x ++ ⟨#[c]⟩) none (some 8)) = (cl x ++ [c]).take 8 := by
    rw [cut8, cl_app]; rfl
  refine wdB_of (by rw [e, List.length_take, List.length_append, List.length_singleton]; omega) (by rw [e, List.length_take]; omega) fun d hd => ?_
  rw [e] at hd
  rcases List.mem_append.mp (List.mem_of_mem_take hd) with hd | hd
  · exact h3 d hd
  · rw [List.mem_singleton.mp hd]; exact hc
theorem join_wd {cs : List Nat} (h1 : 1 ≤ cs.length) (h2 : cs.length ≤ 8) (h3 : ∀ c ∈ cs, lowB c = true) : wdB (Txt.join "" (cs.map fun c => (⟨#[c]⟩ : Str))) = true :=
  wdB_of (by rw [join1]; exact h1) (by rw [join1]; exact h2) (by rw [join1]; exact h3)
/-- the first letter that is no name so far -/
theorem letter_free {ns : List Str} (h : ns.length < 26) : ∃ c ∈ cl abc, (⟨#[c]⟩ : Str) ∉ ns := by
  refine Classical.byContradiction fun hn => ?_
  have hall : ∀ x ∈ (cl abc).map (fun c => (⟨#[c]⟩ : Str)), x ∈ ns := fun x hx => by
    obtain ⟨c, hc, rfl⟩ := List.mem_map.mp hx
    exact Classical.byContradiction fun h => hn ⟨c, hc, h⟩
  have nd : ((cl abc).map (fun c => (⟨#[c]⟩ : Str))).Nodup := by
    rw [abc_cl]
    decide
  have := nodup_sub nd hall
  rw [List.length_map] at this
  have : (cl abc).length = 26 := by rw [abc_cl]; rfl
  omega
end Z

end
section
local macro_rules | `(tactic| walk_at "ne") => `(tactic| first
  | assumption
  | (refine Z.ne_sym ?_; assumption)
  | (refine' Z.ne_new ?ka ?kb; (case ka => assumption); (case kb => walk_at "h"))
  | (refine' Z.ne_sym (Z.ne_new ?ka ?kb); (case ka => assumption); (case kb => walk_at "h"))
  | ((with_reducible refine' Z.ne_nw ?ka ?kb ?kc); (case ka => assumption); (case kb => walk_at "h"); (case kc => rfl))
  | ((with_reducible refine' Z.ne_sym (Z.ne_nw ?ka ?kb ?kc)); (case ka => assumption); (case kb => walk_at "h"); (case kc => rfl))
  | exact L2.ne_of (by assumption) (by assumption) (by intro z; cases z)
  | exact Z.ne_sym (L2.ne_of (by assumption) (by assumption) (by intro z; cases z)))
local macro_rules | `(tactic| walk_at "nm") => `(tactic| first
  | exact Z.nm_nil
  | exact Z.nm_cons (by walk_at "ne") (by walk_at "nm"))
local macro_rules | `(tactic| walk_at "h") => `(tactic| first
  | assumption
  | exact L2.upd_same
  | ((with_reducible refine' Eq.trans (L2.upd_ne ?ka) ?kb); (case ka => walk_at "ne"); (case kb => walk_at "h"))
  | ((with_reducible refine' Z.Fr.at ?ka ?kb ?kc ?kd); (case ka => assumption); (case kb => walk_at "h"); (case kc => walk_at "nm"); (case kd => rfl))
  | ((with_reducible refine' Z.Fr.tup ?ka ?kb); (case ka => assumption); (case kb => walk_at "h")))
local macro_rules | `(tactic| walk_at "free") => `(tactic| first
  | assumption
  | exact Z.Nw.of (by assumption)
  | ((with_reducible refine' Z.Fr.free ?ka ?kb); (case ka => assumption); (case kb => walk_at "free")))
local macro_rules | `(tactic| walk_at "ms") => `(tactic| first
  | exact Or.inl List.mem_cons_self
  | exact Or.inl (List.mem_cons_of_mem _ List.mem_cons_self)
  | (left; simp; done)
  | (right; walk_at "free"))
local macro_rules | `(tactic| walk_at "sub") => `(tactic| first
  | exact Z.sub_nil
  | ((with_reducible refine' Z.sub_cons ?ka ?kb); (case ka => walk_at "ms"); (case kb => walk_at "sub")))
local macro_rules | `(tactic| walk_at "fr") => `(tactic| first
  | assumption
  | exact Z.Fr.refl _ _
  | ((with_reducible refine' Z.Fr.new ?ka ?kb); (case kb => assumption); (case ka => walk_at "fr"))
  | ((with_reducible refine' Z.Fr.upd ?ka ?kb ?kc ?kd ?ke); (case kb => walk_at "ms"); (case kc => walk_at "h"); (case kd => rfl); (case ke => rfl); (case ka => walk_at "fr"))
  | ((with_reducible refine' Z.Fr.step ?ka ?kb ?kc); (case ka => assumption); (case kb => walk_at "fr"); (case kc => walk_at "sub")))
local macro_rules | `(tactic| walk_at "dt") => `(tactic| first
  | assumption
  | (refine Z.DT.new ?_ (by assumption); walk_at "dt")
  | (refine Z.DTs.new ?_ (by assumption); walk_at "dt")
  | (refine' Z.DT.wr ?ka ?kb ?kc; (case kb => walk_at "h"); (case kc => rfl); (case ka => walk_at "dt"))
  | (refine' Z.DTs.wr ?ka ?kb ?kc; (case kb => walk_at "h"); (case kc => rfl); (case ka => walk_at "dt"))
  | (refine' Z.DT.fr ?ka ?kb; (case kb => assumption); (case ka => walk_at "dt"))
  | (refine' Z.DTs.fr ?ka ?kb; (case kb => assumption); (case ka => walk_at "dt")))
local macro_rules | `(tactic| walk_at "len") => `(tactic| first
  | exact Z.lt_ok (Nat.le_of_ble_eq_true (by with_unfolding_all rfl))
  | exact Z.le_ok (Nat.le_of_ble_eq_true (by with_unfolding_all rfl))
  | (apply Z.lt_ok; (try simp only [List.length_append, List.length_cons, List.length_nil, List.length_map, List.length_set, List.length_eraseIdx] at *); omega)
  | (apply Z.le_ok; (try simp only [List.length_append, List.length_cons, List.length_nil, List.length_map, List.length_set, List.length_eraseIdx] at *); omega))
local macro_rules | `(tactic| walk_at "r") => `(tactic| first
  | (with_reducible refine Z.rd_seq ?_)
  | (with_reducible refine Z.rd_asg ?_)
  | (with_reducible refine Z.rd_gname ?_)
  | (with_reducible refine Z.rd_ifs ?_)
  | (with_reducible refine Z.rd_next ?_)
  | (with_reducible refine Z.rd_and ?_)
  | (with_reducible refine Z.rd_or ?_)
  | (with_reducible refine Z.rd_not ?_)
  | (with_reducible refine Z.rd_test ?_)
  | (with_reducible refine Z.rd_tb ?_)
  | (with_reducible refine Z.rd_bl ?_)
  | (with_reducible refine Z.rd_op ?_)
  | (with_reducible refine Z.rd_c ?_)
  | ((with_reducible refine' Z.rd_var ?ka ?_); (case ka => with_unfolding_all rfl))
  | (with_reducible refine Z.rd_ret ?_)
  | (with_reducible refine Z.rd_retn ?_)
  | (with_reducible refine Z.rd_drop ?_)
  | (with_reducible refine Z.rd_nil ?_)
  | (with_reducible refine Z.rd_cons ?_)
  | (with_reducible refine Z.rd_cb ?_)
  | (with_reducible refine Z.rd_call ?_)
  | (with_reducible refine Z.rd_dget0 ?_)
  | ((with_reducible refine' Z.rd_dget1 ?ka ?kb ?_); (case ka => walk_at "h"); (case kb => with_unfolding_all rfl))
  | (with_reducible refine Z.rd_dput0 ?_)
  | ((with_reducible refine' Z.rd_dput1 ?ka ?kb ?_); (case ka => walk_at "h"); (case kb => walk_at "len"))
  | (with_reducible refine Z.rd_eqi ?_)
  | (with_reducible refine Z.rd_eqs ?_)
  | (with_reducible refine Z.rd_nei ?_)
  | (with_reducible refine Z.rd_nes ?_)
  | (with_reducible refine Z.rd_i0 ?_)
  | (with_reducible refine Z.rd_lst ?_)
  | (with_reducible refine Z.rd_tup ?_)
  | (with_reducible refine Z.rd_ifx ?_)
  | (with_reducible refine Z.rd_bm ?_)
  | (with_reducible refine Z.rd_bm0 ?_)
  | ((with_reducible refine' Z.rd_nil2 ?ka ?kb ?_); (case ka => walk_at "h"); (case kb => walk_at "h"))
  | ((with_reducible refine' Z.rd_nil2T ?ka ?kb ?_); (case ka => walk_at "h"); (case kb => walk_at "h"))
  | (with_reducible refine Z.rd_int1 ?_)
  | ((with_reducible refine' Z.rd_size ?ka ?_); (case ka => walk_at "len"))
  | ((with_reducible refine' Z.rd_tylist ?ka ?_); (case ka => walk_at "h"))
  | ((with_reducible refine' Z.rd_i ?ka ?_); (case ka => walk_at "num"))
  | ((with_reducible refine' Z.rd_append ?ka ?kb ?_); (case ka => walk_at "h"); (case kb => walk_at "len"))
  | (with_reducible refine Z.rd_for' ?_)
  | (with_reducible refine Z.rd_lc' ?_)
  | (with_reducible refine Z.rd_un ?_)
  | (with_reducible refine Z.rd_gm ?_)
  | (with_reducible refine Z.rd_xk ?_)
  | (with_reducible refine Z.rd_stard ?_)
  | ((with_reducible refine' Z.rd_stard1 ?ka ?_); (case ka => walk_at "h"))
  | (with_reducible refine Z.rd_star ?_)
  | ((with_reducible refine' Z.rd_star1 ?ka ?_); (case ka => walk_at "h"))
  | (with_reducible refine Z.rd_dc' ?_)
  | (with_reducible refine Z.rd_dnew ?_)
  | (with_reducible refine Z.rd_dpop ?_)
  | ((with_reducible refine' Z.rd_isd ?ka ?_); (case ka => walk_at "h"))
  | (with_reducible refine Z.rd_fldaug ?_)
  | (with_reducible refine Z.rd_ilt ?_)
  | (with_reducible refine Z.rd_mko ?_)
  | (with_reducible refine Z.rd_gk ?_)
  | (with_reducible refine Z.rd_gp ?_)
  | ((with_reducible refine' Z.rd_ins1 ?ka ?_); (case ka => walk_at "h"))
  | (with_reducible refine Z.rd_disp ?_)
  | (with_reducible refine Z.rd_pnil ?_)
  | (with_reducible refine Z.rd_pcons ?_)
  | (with_reducible refine Z.rd_m1 ?_)
  | (with_reducible refine Z.rd_isstr ?_)
  | (with_reducible refine Z.rd_sl ?_)
  | (with_reducible refine Z.rd_nopart ?_)
  | (with_reducible refine Z.rd_part ?_)
  | (with_reducible refine Z.rd_part1 ?_)
  | (with_reducible refine Z.rd_u ?_)
  | (with_reducible refine Z.rd_ilist ?_)
  | (with_reducible refine Z.rd_itup ?_)
  | (with_reducible refine Z.rd_istr ?_)
  | (with_reducible refine Z.rd_irng1 ?_)
  | (with_reducible refine Z.rd_yes ?_)
  | (with_reducible refine Z.rd_sfld0 ?_)
  | (with_reducible refine Z.rd_fld0 ?_)
  | (with_reducible refine Z.rd_din ?_)
  | (with_reducible refine Z.rd_dnotin ?_)
  | (with_reducible refine Z.rd_isn ?_)
  | (with_reducible refine Z.rd_notn ?_)
  | (with_reducible refine Z.rd_par ?_)
  | (with_reducible refine Z.rd_par1 ?_)
  | (with_reducible refine Z.rd_gnil ?_)
  | (with_reducible refine Z.rd_gcons ?_)
  | (with_reducible refine Z.rd_chain ?_)
  | (with_reducible refine Z.rd_andv ?_)
  | (with_reducible refine Z.rd_orv ?_)
  | (with_reducible refine Z.rd_notv ?_)
  | (with_reducible refine Z.rd_meth ?_)
  | (with_reducible refine Z.rd_while ?_)
  | ((with_reducible refine' Z.rd_ixl ?ka ?kb ?_); (case ka => walk_at "h"); (case kb => walk_at "ati"))
  | ((with_reducible refine' Z.rd_ixt ?ka ?kb ?_); (case ka => walk_at "h"); (case kb => walk_at "ati"))
  | ((with_reducible refine' Z.rd_len ?ka ?_); (case ka => walk_at "h"))
  | ((with_reducible refine' Z.rd_lens ?ka ?_); (case ka => walk_at "h"))
  | ((with_reducible refine' Z.rd_lent ?ka ?_); (case ka => walk_at "h"))
  | ((with_reducible refine' Z.rd_lstof ?ka ?_); (case ka => walk_at "h"))
  | ((with_reducible refine' Z.rd_tupof ?ka ?_); (case ka => walk_at "h"))
  | ((with_reducible refine' Z.rd_sfld1 ?ka ?kb ?kc ?kd ?_); (case ka => walk_at "h"); (case kb => assumption); (case kc => assumption); (case kd => (first | (with_unfolding_all decide) | exact Nat.le_of_ble_eq_true (by with_unfolding_all rfl))))
  | ((with_reducible refine' Z.rd_fld1 ?ka ?kb ?kc ?kd ?_); (case ka => walk_at "h"); (case kb => assumption); (case kc => assumption); (case kd => with_unfolding_all rfl))
  | ((with_reducible refine' Z.rd_din1 ?ka ?_); (case ka => walk_at "h"))
  | ((with_reducible refine' Z.rd_gtup ?ka ?kb ?_); (case ka => walk_at "h"); (case kb => with_unfolding_all rfl))
  | ((with_reducible refine' Z.rd_catl ?ka ?kb ?kc ?_); (case ka => walk_at "h"); (case kb => walk_at "h"); (case kc => walk_at "len"))
  | ((with_reducible refine' Z.rd_meth1 ?ka ?kb ?_); (case ka => walk_at "h"); (case kb => with_unfolding_all rfl))
  | ((with_reducible refine' Z.rd_addstr ?ka ?_); (case ka => walk_at "len")))
local macro_rules | `(tactic| walk_at "ati") => `(tactic| first
  | assumption
  | (with_unfolding_all rfl)
  | exact L2.atI_nat (by assumption)
  | exact L2.atI_nat (by with_unfolding_all rfl)
  | exact L2.atI_last _ _)
local macro_rules | `(tactic| walk_at "rr") => `(tactic| repeat (walk_at "r"))
local macro_rules | `(tactic| walk_at "num") => `(tactic| first
  | (with_unfolding_all decide)
  | (show (_ : Int) ≠ 0; omega)
  | (show (_ : Int) ≠ 0 ∧ _ < 1073741824; exact ⟨by omega, by omega⟩)
  | (show (0 : Int) ≤ _ ∧ _ ≤ (1000000 : Int) ∧ _; exact ⟨by decide, by decide, by omega⟩)
  | (show (-(2 ^ 64) < (_ : Int) ∧ _ < 2 ^ 64) ∨ _; (first | (left; exact ⟨by omega, by omega⟩) | (right; exact ⟨by omega, by omega⟩)))
  | omega)
/-! ### rules whose reading names the program's facts: K is given (for comprehensions) -/
namespace Z
open PySem PySem.Spec PyProof.Rows L2
section
variable {X : Cx}
theorem k_in (K : PySem.W.Frag) (hK : X.K = K := by rfl) : OpR X (compareOp .In) (rIn K false) := hK ▸ op_in_seq
theorem k_notIn (K : PySem.W.Frag) (hK : X.K = K := by rfl) : OpR X (compareOp .NotIn) (rIn K true) := hK ▸ op_notIn_seq
theorem k_ixl (K : PySem.W.Frag) (hK : X.K = K := by rfl) : IxR X (rIxL K) := hK ▸ ix_list
theorem k_ixt (K : PySem.W.Frag) (hK : X.K = K := by rfl) : IxR X (rIxT K) := hK ▸ ix_tup
theorem k_eqNil (K : PySem.W.Frag) (hu : X.A.units < cLine) (hK : X.K = K := by rfl) : OpR X (compareOp .Eq) (rNil K false) := hK ▸ op_eqNil hu
theorem k_neNil (K : PySem.W.Frag) (hu : X.A.units < cLine) (hK : X.K = K := by rfl) : OpR X (compareOp .NotEq) (rNil K true) := hK ▸ op_neNil hu
theorem k_eqNilT (K : PySem.W.Frag) (hu : X.A.units < cLine) (hK : X.K = K := by rfl) : OpR X (compareOp .Eq) (rNilT K false) := hK ▸ op_eqNilT hu
theorem k_neNilT (K : PySem.W.Frag) (hu : X.A.units < cLine) (hK : X.K = K := by rfl) : OpR X (compareOp .NotEq) (rNilT K true) := hK ▸ op_neNilT hu
theorem k_fld (K : PySem.W.Frag) {e : Expr} {f : Str} {pos : Pos} {ta : TE} (he : PE X e ta) (hb : attributeBase e f X.env (eval e X.env) = eval e X.env) (hK : X.K = K := by rfl) : PE X (.Attribute e f pos) (tFld K ta f) := hK ▸ pe_fld he hb
end
/-- x in a list or tuple of texts, of numbers .. (flat) -/
theorem rd_in {K : PySem.W.Frag} {H : Hp} {Q : VK} {neg : Bool} {x : V} {a : Addr} {xs : List V} (e : H a = some (.lst xs)) (h1 : flatV x = true) (h2 : xs.all flatV = true) (h : Q (.bl (if neg then !inV x xs else inV x xs)) H) : rIn K neg x (.ref a) H Q :=
  ⟨a, xs, rfl, .inl (SqL.of e), h1, h2, h⟩
end Z
namespace Z
open PySem PySem.Spec PyProof.Rows L2
section
variable {ta tb te : TE} {tl th : TO} {σ : L2.St} {H : Hp} {Q : VK} {Qo : Option Int → Hp → Prop} {x y v : V} {z z' : Str} {a p : Addr} {xs : List V} {i : Int} {o : HO}
theorem rd_m1 {r : V → List V → Hp → VK → Prop} (h : ta σ H fun x H1 => (∃ a, x = .str a) ∧ te σ H1 fun y H2 => r x [y] H2 Q) : tM1 r ta te σ H Q := h
theorem rd_isstr {P : Prop} (h : P) : (∃ a, V.str z = .str a) ∧ P := ⟨⟨z, rfl⟩, h⟩
theorem rd_sl {r : V → Option Int → Option Int → Hp → VK → Prop} (h : te σ H fun x H1 => tl σ H1 fun l H2 => th σ H2 fun u H3 => r x l u H3 Q) : tSl r te tl th σ H Q := h
theorem rd_nopart (h : Qo none H) : tNoPart σ H Qo := h
theorem rd_part (h : te σ H fun x H1 => ∃ i, x = .int i ∧ Qo (some i) H1) : tPart te σ H Qo := h
theorem rd_part1 {P : Int → Prop} (h : P i) : ∃ j, V.int i = .int j ∧ P j := ⟨i, rfl, h⟩
theorem free_upd {H : Hp} {p a : Addr} {o : HO} (h : L2.upd H p o a = none) : H a = none ∧ a ≠ p := by
  by_cases e : a = p
  · subst e; rw [upd_same] at h; cases h
  · exact ⟨by rw [upd_ne e] at h; exact h, e⟩
end
end Z
namespace Z
open PySem PySem.Spec PyProof.Rows L2
section
variable {te tk tv : TE} {tt : TT} {g : TG} {σ : L2.St} {H : Hp} {Q : VK} {Qp : List (V × V) → Hp → Prop} {a : Addr} {xs : List V} {K : PySem.W.Frag} {trs : List (TE × TE)} {vs : List Nat}
theorem SqL_fr {Λ : List (Addr × Str)} {S : List Addr} {H' : Hp} (h : SqL K H a xs) (f : Fr Λ S H H') (n : a ∉ S) : SqL K H' a xs := h.elim (fun h => .inl (h.elim (fun h => .inl (f.at h n rfl)) fun ⟨o, h⟩ => .inr ⟨o, f.at h n rfl⟩)) fun h => .inr h
theorem SqT_fr {Λ : List (Addr × Str)} {S : List Addr} {H' : Hp} (h : SqT K H a xs) (f : Fr Λ S H H') (n : a ∉ S) : SqT K H' a xs := h.elim (fun h => .inl (h.elim (fun h => .inl (f.at h n rfl)) fun ⟨o, h⟩ => .inr ⟨o, f.at h n rfl⟩)) fun h => .inr h
theorem rd_disp (h : ∀ p, H p = none → tPairs trs σ (L2.upd H p (.dK [])) fun ps H2 => H2 p = some (.dK []) ∧ ∃ kvs : List (L2.Key × V), ps = kvs.map (fun kv => (kV kv.1, kv.2)) ∧ kvs.length ≤ 15 ∧ Q (.ref p) (L2.upd H2 p (.dK (mergeK [] kvs)))) : tDisp trs σ H Q := h
theorem rd_pnil (h : Qp [] H) : tPairs [] σ H Qp := h
theorem rd_pcons (h : tk σ H fun x H1 => tv σ H1 fun y H2 => tPairs trs σ H2 fun ps H3 => Qp ((x, y) :: ps) H3) : tPairs ((tk, tv) :: trs) σ H Qp := h
theorem rd_lclS (e : SqL K H a xs) (h : ∀ D, H D = none → ∃ Pv : Nat → Hp → Prop, Pv 0 (L2.upd H D (.lst [])) ∧ (∀ i H', Pv i H' → SqL K H' a xs) ∧
    (∀ i x H', i < xs.length → xs[i]? = some x → Pv i H' → g x (wipe σ vs) H' fun σ2 H2 => wipe σ2 vs = wipe σ vs ∧ tt σ2 H2 fun b H3 => if b = true then te σ2 H3 fun y H4 => ∃ acc, H4 D = some (.lst acc) ∧ acc.length < sizeLine ∧ Pv (i + 1) (L2.upd H4 D (.lst (acc ++ [y]))) else Pv (i + 1) H3) ∧
    ∀ H', Pv xs.length H' → Q (.ref D) H') : ∃ a', V.ref a = .ref a' ∧ (∃ xs, SqL K H a' xs) ∧ LcG g tt te vs σ Q (Itl K a') H :=
  ⟨a, rfl, ⟨xs, e⟩, fun D hD => by
    obtain ⟨Pv, h0, hG, hs, hd⟩ := h D hD
    exact lc_it walk_list Pv h0 (fun i H' _ p => hG i H' p) (fun i x H1 H2 hi p y => by
      obtain ⟨rfl, hx⟩ := y
      exact hs i x _ hi hx p) hd⟩
end
end Z
/-! ### repr of data -/
namespace Z
open PySem PySem.Spec PyProof.Rows L2
def rRepr (K : PySem.W.Frag) : List V → Hp → VK → Prop := fun xs H Q => ∃ x d, xs = [x] ∧ Dp K H x d ∧ d.showable = true ∧ d.hasDict = false ∧ d.depth ≤ 60 ∧ d.shown.length ≤ sizeLine ∧ Q (.str d.shown) H
theorem call_reprD {X : Cx} (hg : X.A.guards = some []) (hu : X.A.units + 64 < cLine) : CallR X (.builtin "repr") (rRepr X.K) := by
  intro pins s σ H xs us Q I r h
  obtain ⟨x, d, rfl, hd, hs, hn, hdp, hz, q⟩ := h
  obtain ⟨u, rfl, rx⟩ := vals1 r
  obtain ⟨as, hr⟩ := Dp.reads I d x u hd rx
  have ref : ∀ a, u = Value.ref a → wpAny (model X.prog X.w) X.A (call (.builtin "repr") [u]) (EP X pins σ Q) X.xe s := by
    rintro a rfl
    exact repr_of_reads' hr hs (fun z => by rw [hn] at z; cases z) hg (by omega) (fun _ _ e => e) (fun h' t tk hk => ⟨.str _, H, I.kept hk, ⟨_, rfl⟩, q⟩) hz
  cases hd with
  | non =>
    obtain rfl : u = Value.none := rx
    exact PySem.P.repr_of_none ⟨.str _, H, I.tok _, ⟨_, rfl⟩, q⟩
  | bl b =>
    obtain rfl : u = Value.bool b := rx
    exact PySem.P.repr_of_bool ⟨.str _, H, I.tok _, ⟨_, rfl⟩, q⟩
  | int i =>
    obtain ⟨t, rfl⟩ := (show ∃ t, u = Value.int i t from rx)
    exact PySem.P.repr_of_int (by simpa [PyData.showable] using hs) ⟨.str _, H, I.tok _, ⟨_, rfl⟩, q⟩
  | str z =>
    obtain ⟨t, rfl⟩ := (show ∃ t, u = Value.str z t from rx)
    rw [PyData.shown_str] at hz q
    exact PySem.P.repr_of_str ⟨.str _, H, I.tok _, ⟨_, rfl⟩, q⟩ hz
  | lst _ _ => exact ref _ rx
  | tup _ _ => exact ref _ rx
end Z
namespace Z
open PySem PySem.Spec PyProof.Rows L2
theorem pe_gs {X : Cx} {x z : Str} {pos : Pos} (hg : Gl X x) (hm : ∃ t, X.mg x = some (.str z t)) (hd : (x == ("__debug__" : Str)) = false := by decide) : PE X (.Name x pos) (tC (.str z)) := by
  obtain ⟨t, hm⟩ := hm
  exact pe_glob hg hm ⟨t, rfl⟩ hd
end Z

end
section
local macro_rules | `(tactic| walk_at "ne") => `(tactic| first
  | assumption
  | (refine Z.ne_sym ?_; assumption)
  | (refine' Z.ne_new ?ka ?kb; (case ka => assumption); (case kb => walk_at "h"))
  | (refine' Z.ne_sym (Z.ne_new ?ka ?kb); (case ka => assumption); (case kb => walk_at "h"))
  | ((with_reducible refine' Z.ne_nw ?ka ?kb ?kc); (case ka => assumption); (case kb => walk_at "h"); (case kc => rfl))
  | ((with_reducible refine' Z.ne_sym (Z.ne_nw ?ka ?kb ?kc)); (case ka => assumption); (case kb => walk_at "h"); (case kc => rfl))
  | exact L2.ne_of (by assumption) (by assumption) (by intro z; cases z)
  | exact Z.ne_sym (L2.ne_of (by assumption) (by assumption) (by intro z; cases z)))
local macro_rules | `(tactic| walk_at "nm") => `(tactic| first
  | exact Z.nm_nil
  | exact Z.nm_cons (by walk_at "ne") (by walk_at "nm"))
local macro_rules | `(tactic| walk_at "h") => `(tactic| first
  | assumption
  | exact L2.upd_same
  | ((with_reducible refine' Eq.trans (L2.upd_ne ?ka) ?kb); (case ka => walk_at "ne"); (case kb => walk_at "h"))
  | ((with_reducible refine' Z.Fr.at ?ka ?kb ?kc ?kd); (case ka => assumption); (case kb => walk_at "h"); (case kc => walk_at "nm"); (case kd => rfl))
  | ((with_reducible refine' Z.Fr.tup ?ka ?kb); (case ka => assumption); (case kb => walk_at "h")))
local macro_rules | `(tactic| walk_at "free") => `(tactic| first
  | assumption
  | exact Z.Nw.of (by assumption)
  | ((with_reducible refine' Z.Fr.free ?ka ?kb); (case ka => assumption); (case kb => walk_at "free")))
local macro_rules | `(tactic| walk_at "ms") => `(tactic| first
  | exact Or.inl List.mem_cons_self
  | exact Or.inl (List.mem_cons_of_mem _ List.mem_cons_self)
  | (left; simp; done)
  | (right; walk_at "free"))
local macro_rules | `(tactic| walk_at "sub") => `(tactic| first
  | exact Z.sub_nil
  | ((with_reducible refine' Z.sub_cons ?ka ?kb); (case ka => walk_at "ms"); (case kb => walk_at "sub")))
local macro_rules | `(tactic| walk_at "fr") => `(tactic| first
  | assumption
  | exact Z.Fr.refl _ _
  | ((with_reducible refine' Z.Fr.new ?ka ?kb); (case kb => assumption); (case ka => walk_at "fr"))
  | ((with_reducible refine' Z.Fr.upd ?ka ?kb ?kc ?kd ?ke); (case kb => walk_at "ms"); (case kc => walk_at "h"); (case kd => rfl); (case ke => rfl); (case ka => walk_at "fr"))
  | ((with_reducible refine' Z.Fr.step ?ka ?kb ?kc); (case ka => assumption); (case kb => walk_at "fr"); (case kc => walk_at "sub")))
local macro_rules | `(tactic| walk_at "dt") => `(tactic| first
  | assumption
  | (refine Z.DT.new ?_ (by assumption); walk_at "dt")
  | (refine Z.DTs.new ?_ (by assumption); walk_at "dt")
  | (refine' Z.DT.wr ?ka ?kb ?kc; (case kb => walk_at "h"); (case kc => rfl); (case ka => walk_at "dt"))
  | (refine' Z.DTs.wr ?ka ?kb ?kc; (case kb => walk_at "h"); (case kc => rfl); (case ka => walk_at "dt"))
  | (refine' Z.DT.fr ?ka ?kb; (case kb => assumption); (case ka => walk_at "dt"))
  | (refine' Z.DTs.fr ?ka ?kb; (case kb => assumption); (case ka => walk_at "dt")))
local macro_rules | `(tactic| walk_at "len") => `(tactic| first
  | exact Z.lt_ok (Nat.le_of_ble_eq_true (by with_unfolding_all rfl))
  | exact Z.le_ok (Nat.le_of_ble_eq_true (by with_unfolding_all rfl))
  | (apply Z.lt_ok; (try simp only [List.length_append, List.length_cons, List.length_nil, List.length_map, List.length_set, List.length_eraseIdx] at *); omega)
  | (apply Z.le_ok; (try simp only [List.length_append, List.length_cons, List.length_nil, List.length_map, List.length_set, List.length_eraseIdx] at *); omega))
local macro_rules | `(tactic| walk_at "r") => `(tactic| first
  | (with_reducible refine Z.rd_seq ?_)
  | (with_reducible refine Z.rd_asg ?_)
  | (with_reducible refine Z.rd_gname ?_)
  | (with_reducible refine Z.rd_ifs ?_)
  | (with_reducible refine Z.rd_next ?_)
  | (with_reducible refine Z.rd_and ?_)
  | (with_reducible refine Z.rd_or ?_)
  | (with_reducible refine Z.rd_not ?_)
  | (with_reducible refine Z.rd_test ?_)
  | (with_reducible refine Z.rd_tb ?_)
  | (with_reducible refine Z.rd_bl ?_)
  | (with_reducible refine Z.rd_op ?_)
  | (with_reducible refine Z.rd_c ?_)
  | ((with_reducible refine' Z.rd_var ?ka ?_); (case ka => with_unfolding_all rfl))
  | (with_reducible refine Z.rd_ret ?_)
  | (with_reducible refine Z.rd_retn ?_)
  | (with_reducible refine Z.rd_drop ?_)
  | (with_reducible refine Z.rd_nil ?_)
  | (with_reducible refine Z.rd_cons ?_)
  | (with_reducible refine Z.rd_cb ?_)
  | (with_reducible refine Z.rd_call ?_)
  | (with_reducible refine Z.rd_dget0 ?_)
  | ((with_reducible refine' Z.rd_dget1 ?ka ?kb ?_); (case ka => walk_at "h"); (case kb => with_unfolding_all rfl))
  | (with_reducible refine Z.rd_dput0 ?_)
  | ((with_reducible refine' Z.rd_dput1 ?ka ?kb ?_); (case ka => walk_at "h"); (case kb => walk_at "len"))
  | (with_reducible refine Z.rd_eqi ?_)
  | (with_reducible refine Z.rd_eqs ?_)
  | (with_reducible refine Z.rd_nei ?_)
  | (with_reducible refine Z.rd_nes ?_)
  | (with_reducible refine Z.rd_i0 ?_)
  | (with_reducible refine Z.rd_lst ?_)
  | (with_reducible refine Z.rd_tup ?_)
  | (with_reducible refine Z.rd_ifx ?_)
  | (with_reducible refine Z.rd_bm ?_)
  | (with_reducible refine Z.rd_bm0 ?_)
  | ((with_reducible refine' Z.rd_nil2 ?ka ?kb ?_); (case ka => walk_at "h"); (case kb => walk_at "h"))
  | ((with_reducible refine' Z.rd_nil2T ?ka ?kb ?_); (case ka => walk_at "h"); (case kb => walk_at "h"))
  | (with_reducible refine Z.rd_int1 ?_)
  | ((with_reducible refine' Z.rd_size ?ka ?_); (case ka => walk_at "len"))
  | ((with_reducible refine' Z.rd_tylist ?ka ?_); (case ka => walk_at "h"))
  | ((with_reducible refine' Z.rd_i ?ka ?_); (case ka => walk_at "num"))
  | ((with_reducible refine' Z.rd_append ?ka ?kb ?_); (case ka => walk_at "h"); (case kb => walk_at "len"))
  | (with_reducible refine Z.rd_for' ?_)
  | (with_reducible refine Z.rd_lc' ?_)
  | (with_reducible refine Z.rd_un ?_)
  | (with_reducible refine Z.rd_gm ?_)
  | (with_reducible refine Z.rd_xk ?_)
  | (with_reducible refine Z.rd_stard ?_)
  | ((with_reducible refine' Z.rd_stard1 ?ka ?_); (case ka => walk_at "h"))
  | (with_reducible refine Z.rd_star ?_)
  | ((with_reducible refine' Z.rd_star1 ?ka ?_); (case ka => walk_at "h"))
  | (with_reducible refine Z.rd_dc' ?_)
  | (with_reducible refine Z.rd_dnew ?_)
  | (with_reducible refine Z.rd_dpop ?_)
  | ((with_reducible refine' Z.rd_isd ?ka ?_); (case ka => walk_at "h"))
  | (with_reducible refine Z.rd_fldaug ?_)
  | (with_reducible refine Z.rd_ilt ?_)
  | (with_reducible refine Z.rd_mko ?_)
  | (with_reducible refine Z.rd_gk ?_)
  | (with_reducible refine Z.rd_gp ?_)
  | ((with_reducible refine' Z.rd_ins1 ?ka ?_); (case ka => walk_at "h"))
  | (with_reducible refine Z.rd_disp ?_)
  | (with_reducible refine Z.rd_pnil ?_)
  | (with_reducible refine Z.rd_pcons ?_)
  | (with_reducible refine Z.rd_m1 ?_)
  | (with_reducible refine Z.rd_isstr ?_)
  | (with_reducible refine Z.rd_sl ?_)
  | (with_reducible refine Z.rd_nopart ?_)
  | (with_reducible refine Z.rd_part ?_)
  | (with_reducible refine Z.rd_part1 ?_)
  | (with_reducible refine Z.rd_u ?_)
  | (with_reducible refine Z.rd_ilist ?_)
  | (with_reducible refine Z.rd_itup ?_)
  | (with_reducible refine Z.rd_istr ?_)
  | (with_reducible refine Z.rd_irng1 ?_)
  | (with_reducible refine Z.rd_yes ?_)
  | (with_reducible refine Z.rd_sfld0 ?_)
  | (with_reducible refine Z.rd_fld0 ?_)
  | (with_reducible refine Z.rd_din ?_)
  | (with_reducible refine Z.rd_dnotin ?_)
  | (with_reducible refine Z.rd_isn ?_)
  | (with_reducible refine Z.rd_notn ?_)
  | (with_reducible refine Z.rd_par ?_)
  | (with_reducible refine Z.rd_par1 ?_)
  | (with_reducible refine Z.rd_gnil ?_)
  | (with_reducible refine Z.rd_gcons ?_)
  | (with_reducible refine Z.rd_chain ?_)
  | (with_reducible refine Z.rd_andv ?_)
  | (with_reducible refine Z.rd_orv ?_)
  | (with_reducible refine Z.rd_notv ?_)
  | (with_reducible refine Z.rd_meth ?_)
  | (with_reducible refine Z.rd_while ?_)
  | ((with_reducible refine' Z.rd_ixl ?ka ?kb ?_); (case ka => walk_at "h"); (case kb => walk_at "ati"))
  | ((with_reducible refine' Z.rd_ixt ?ka ?kb ?_); (case ka => walk_at "h"); (case kb => walk_at "ati"))
  | ((with_reducible refine' Z.rd_len ?ka ?_); (case ka => walk_at "h"))
  | ((with_reducible refine' Z.rd_lens ?ka ?_); (case ka => walk_at "h"))
  | ((with_reducible refine' Z.rd_lent ?ka ?_); (case ka => walk_at "h"))
  | ((with_reducible refine' Z.rd_lstof ?ka ?_); (case ka => walk_at "h"))
  | ((with_reducible refine' Z.rd_tupof ?ka ?_); (case ka => walk_at "h"))
  | ((with_reducible refine' Z.rd_sfld1 ?ka ?kb ?kc ?kd ?_); (case ka => walk_at "h"); (case kb => assumption); (case kc => assumption); (case kd => (first | (with_unfolding_all decide) | exact Nat.le_of_ble_eq_true (by with_unfolding_all rfl))))
  | ((with_reducible refine' Z.rd_fld1 ?ka ?kb ?kc ?kd ?_); (case ka => walk_at "h"); (case kb => assumption); (case kc => assumption); (case kd => with_unfolding_all rfl))
  | ((with_reducible refine' Z.rd_din1 ?ka ?_); (case ka => walk_at "h"))
  | ((with_reducible refine' Z.rd_gtup ?ka ?kb ?_); (case ka => walk_at "h"); (case kb => with_unfolding_all rfl))
  | ((with_reducible refine' Z.rd_catl ?ka ?kb ?kc ?_); (case ka => walk_at "h"); (case kb => walk_at "h"); (case kc => walk_at "len"))
  | ((with_reducible refine' Z.rd_meth1 ?ka ?kb ?_); (case ka => walk_at "h"); (case kb => with_unfolding_all rfl))
  | ((with_reducible refine' Z.rd_addstr ?ka ?_); (case ka => walk_at "len")))
local macro_rules | `(tactic| walk_at "ati") => `(tactic| first
  | assumption
  | (with_unfolding_all rfl)
  | exact L2.atI_nat (by assumption)
  | exact L2.atI_nat (by with_unfolding_all rfl)
  | exact L2.atI_last _ _)
local macro_rules | `(tactic| walk_at "rr") => `(tactic| repeat (walk_at "r"))
local macro_rules | `(tactic| walk_at "num") => `(tactic| first
  | (with_unfolding_all decide)
  | (show (_ : Int) ≠ 0; omega)
  | (show (_ : Int) ≠ 0 ∧ _ < 1073741824; exact ⟨by omega, by omega⟩)
  | (show (0 : Int) ≤ _ ∧ _ ≤ (1000000 : Int) ∧ _; exact ⟨by decide, by decide, by omega⟩)
  | (show (-(2 ^ 64) < (_ : Int) ∧ _ < 2 ^ 64) ∨ _; (first | (left; exact ⟨by omega, by omega⟩) | (right; exact ⟨by omega, by omega⟩)))
  | omega)
/-! ### a caught exception that is kept as a value -/
namespace Z
open PySem PySem.Spec PyProof.Rows L2
section
variable {prog : Program} {w : World} {A : Around} {E : Value → Shared → Prop} {s : Shared} {K : PySem.W.Frag} {x D : Addr} {ox : Obj} {od : Option Obj}
open PySem.W in
/-- an exception of an own class, with or without a dict, asked for its class -/
theorem kept_class {Q : Option Value → Shared → Prop} (C : ExcC K D) (X : K.In s.heap) (I : InstAt s.heap x ox D od) (h : Q (some (.ref D)) { s with toks := s.toks + 1 }) : wpAny (model prog w) A (getAttr? (.ref x) "__class__") Q E s := by
  have hcs : (clsIn K D).isSome = true := by
    obtain ⟨cd, hc, _⟩ := any_some C.hd
    rw [hc]; rfl
  have hf : findObj K D od "__class__" = some (.bind (.builtin "getset_descriptor.__get__") (.builtin "object.__class__")) := by
    cases od with
    | none => exact findObj_dataN hcs C.ha C.hn C.ht
    | some od => exact findObj_data hcs C.ha C.hn C.ht
  obtain ⟨hp, g, d, t, os⟩ := s
  have L0 := I.type (M := model prog w)
  have L1 := looks_findIn (M := model prog w) X C.hg
  have L2 := looks_findIn (M := model prog w) X C.hk
  have L3 := looks_find (M := model prog w) X I hf
  have sub : Looks (model prog w) hp (isInstance (.ref x) (.type "BaseException")) true := L0.andThen (looks_subIn X C.hs)
  have hx0 : (false && onTheHeap (Value.builtin "BaseException.__getattribute__")) = false := rfl
  have hx2 : (Value.builtin "BaseException.__getattribute__" == Value.builtin "object.__getattribute__") = false := by decide +kernel
  have hx1 : (onTheHeap (Value.ref D) && Value.builtin "BaseException.__getattribute__" == Value.builtin "object.__getattribute__") = false := by rw [hx2]; rfl
  unfold getAttr? getAttrBy? getAttrBy
  refine wpAny_bind (wpAny_mkText (wpAny_bind (wpAny_attempt (wpAny_holding (wpAny_bind (L0.at (wpAny_bind (L1.at ?_))))))))
  show wpAny _ _ (if (onTheHeap (Value.ref D) && Value.builtin "BaseException.__getattribute__" == Value.builtin "object.__getattribute__") = true then _ else _) _ _ _
  rw [hx1, if_neg Bool.false_ne_true]
  unfold getAttrByItsOwn hookBefore
  refine wpAny_bind ?_
  rw [if_pos (show onTheHeap (Value.ref D) = true from rfl)]
  refine L2.at ?_
  refine wpAny_bind (wpAny_attempt (wpAny_holding ?_))
  unfold callGetattribute
  rw [hx0, if_neg Bool.false_ne_true]
  unfold boundAndCalled
  rw [PySem.F.excAttr_ValueError.ga.bind (.ref x)]
  refine wpAny_bind (wpAny_pure ?_)
  show wpAny _ _ (call (.builtin "BaseException.__getattribute__") [.ref x, .str "__class__" t]) _ _ _
  refine wpAny_call (codeAny_call_builtin PySem.F.excAttr_ValueError.ga.plain PySem.F.entry_bexc_ga ?_)
  refine @check_slot (model prog w) _ _ ⟨hp, g, d, t + 1, os⟩ "BaseException.__getattribute__" "BaseException" "__getattribute__" (.ref x) [.str "__class__" t] [] _ (by decide +kernel) (by decide +kernel) sub (PySem.F.args_bexc_ga (.ref x) (.str "__class__" t)) ?_
  unfold Builtin.«object.__getattribute__»
  refine wpAny_bind (wpAny_of_eq (a := ((Value.ref x : Value), [Value.str "__class__" t])) (by first | rfl | (simp only [slotArgs]; rfl)) ?_)
  refine wpAny_bind (wpAny_pure (wpAny_bind (L0.at (wpAny_bind (L3.at ?_)))))
  show wpAny _ _ (holding [Value.builtin "object.__class__"] (call (.builtin "getset_descriptor.__get__") [.builtin "object.__class__", .ref x, .ref D]) >>= ret) _ _ _
  refine wpAny_bind (wpAny_holding (wpAny_call (class_get (s := ⟨hp, g, d, t + 1, os⟩) (ox := ox) (od := od) X I C.hm ?_)))
  refine wpAny_pure ?_
  show wpAny _ _ (handedOut (.ref D)) _ _ _
  rw [handedOut_of (v := .ref D) rfl]
  first
    | exact wpAny_pure (wpAny_pure h)
    | exact wpAny_pure h
    | exact wpAny_pure (wpAny_bind (wpAny_pure (wpAny_pure h)))
open PySem.W in
theorem kept_kit (C : ExcC K D) : KitX K (.ref x) (.ref D) (fun h => InstAt h x ox D od) where
  ty := fun _ _ _ I => I.type
  it := fun _ _ X _ => by
    have hcs : (clsIn K D).isSome = true := by
      obtain ⟨cd, hc, _⟩ := any_some C.hd
      rw [hc]; rfl
    obtain ⟨cd, hc⟩ := Option.isSome_iff_exists.mp hcs
    unfold clsIn at hc
    split at hc
    · rename_i ho
      intro A' Q' E' s' k q
      unfold isType loadHead
      exact wpAny_bind (wpAny_loadPart (k _ _ (X _ _ ho)) (wpAny_pure q))
    · cases hc
  ne := (handS_kitx_exc (x := x) (ox := ox) C.hg C.hk C.hs C.hd C.ha C.hn C.ht C.hm).ne
  ca := fun X I k => kept_class C X I k
end
/-- a caught exception at a: its class, its dict -/
def ExK (cls : Value) (d : Option Addr) (a : Addr) : HO := .ext fun h => ∃ (oe : Obj) (vs : Array Value), h.get? a = some oe ∧ Zc cls d oe ∧ oe.data = .fields vs
theorem exK_ok {P : Program} {w : World} {H : Hp} {h : Heap} {a : Addr} {cls : Value} {dd : Option Addr} {oe : Obj} {vs : Array Value} (e : h.get? a = some oe) (z : Zc cls dd oe) (d : oe.data = .fields vs) : ObjOk P w H h a (ExK cls dd a) :=
  ⟨⟨oe, vs, e, z, d⟩, ⟨oe, e⟩, fun _ _ ⟨o, v, q, r⟩ k => ⟨o, v, k o q, r⟩⟩
section
variable {X : Cx} {pins : List (Addr × Obj)} {σ : L2.St} {H : Hp} {s : Shared}
/-- an object that is there, ours and not tracked so far is tracked -/
theorem track {a : Addr} {o : HO} (I : Inv X pins σ H s) (h0 : X.s_0.heap.get? a = none) (hn : H a = none) (hL : a ≠ X.env.locals) (hC : ∀ x c, X.env.cells.lookup x = some c → c ≠ a) (hp : ∀ p ∈ X.pn ++ pins, p.1 ≠ a)
    (new : ObjOk X.prog X.w (upd H a o) s.heap a o) : Inv X pins σ (upd H a o) s := by
  refine ⟨I.ok, I.os, I.bare, ⟨I.base.keep, I.base.slot, fun b u q n hx => ?_, I.base.there, fun b xs q => ?_, fun b u v q => ?_, fun b ps q => ?_⟩, I.loc, I.cell, ?_, fun x c e => ?_, fun p q => ?_, ?_, I.len⟩
  · rw [upd_ne (fun z => by rw [z, h0] at q; cases q)]
    exact I.base.free b u q n hx
  · have z := I.base.tups b xs q
    rw [upd_ne (ne_of_none z hn)]; exact z
  · have z := I.base.frzs b u v q
    rw [upd_ne (ne_of_none z hn)]; exact z
  · obtain ⟨m, z⟩ := I.base.tbls b ps q
    exact ⟨m, by rw [upd_ne (ne_of_none z hn)]; exact z⟩
  · rw [upd_ne (Ne.symm hL)]; exact I.free
  · rw [upd_ne (hC x c e)]; exact I.freeC x c e
  · obtain ⟨e1, e2, e3⟩ := I.pin p q
    exact ⟨e1, by rw [upd_ne (hp p q)]; exact e2, e3⟩
  · exact I.hok.laidN (fun _ _ q => q) hn new
end
/-- what the clause 'except x as n' wishes: slot i is n's; the exception is kept behind the suite -/
def wKeep (K : PySem.W.Frag) (c : Value) (i : Nat) (ts : TS) (Wout : WX) (D : Ends) : WX := fun cls d σ H =>
  ∃ b, PySem.W.exmOne K cls c = some b ∧ (b = true → ∀ a, H a = none → ts { nx := fun σ' H' => D.nx (σ'.set i none) (upd H' a (ExK cls d a)), rt := fun _ _ => False, bk := fun _ _ => False, ct := fun _ _ => False } (σ.set i (some (.ref a))) H) ∧
    (b = false → Wout cls d σ H)
section
variable {X : Cx} {x n : Str} {c : Value} {i : Nat} {body suite : List Stmt} {b₀ : Stmt} {np pos pos' : Pos} {tb : WX → TS} {ts : TS} {Wout : WX}
theorem ps_try_keep (hs : X.stack = X.env :: X.outer) (hf : X.env.frame = some X.env.locals) (hex : X.ex = []) (hN : X.N.Nodup) (hi : X.N[i]? = some n) (hln : X.env.kindOf n = some .local) (hc : Names X x c) (tk : Takes X Wout)
    (hb : ∀ (W : WX) (pn : List (Addr × Obj)) (xe : Value → Shared → Prop), Takes (X.tr pn xe) W → PassesOwn (model X.prog X.w) X.A X.env xe → PSs (X.tr pn xe) body (tb W))
    (hsu : ∀ (a : Addr) (oe : Obj) (pn : List (Addr × Obj)), PSs (X.suite a ((a, oe) :: pn)) (b₀ :: suite) ts) :
    PS X (.Try body [.ExceptHandler (some (.Name x np)) (some n) (b₀ :: suite) pos'] [] [] pos) (fun D σ H => tb (wKeep X.K c i ts Wout D) D σ H) := by
  refine ⟨fun pins s σ H D I h => ?_⟩
  have ok := I.ok
  have hfr : X.A.frames = some (X.env :: X.outer) := by rw [ok.frames, hs]
  have hloc : Loc X.env.scope n := .inl hln
  refine wpAny_Try_except ?_
  refine wpAny_mono ((hb (wKeep X.K c i ts Wout D) (X.pn ++ pins) (fun e s₁ => wpAny (model X.prog X.w) X.A (noteFrame e X.env) (fun _ s₂ => wpAny (model X.prog X.w) X.A (setFlight e none) (fun _ s₃ =>
    wpAny (model X.prog X.w) X.A (handleBy e X.env [.ExceptHandler (some (.Name x np)) (some n) (b₀ :: suite) pos']) (SP X pins D) X.xe s₃) X.xe s₂) X.xe s₁) (fun u s' xx => ?_) PassesOwn.looking).run [] s σ H D (I.toTry _) h) (fun f s1 hsp => ?_) (fun e s1 he => he)
  · obtain ⟨a, B, sI, pins', σ', H', cls, d, rfl, J', nb, up, sky, na, os, ag, b, hb1, hyes, hno⟩ := xx
    have J : Inv X pins σ' H' sI := J'.ofTry ok
    have sky' : Sky B (X.env :: X.outer) a (Zc cls d) X.env.locals s'.heap := by rw [← hs]; exact sky
    show wpAny (model X.prog X.w) X.A (noteFrame (.ref a) X.env) _ _ _
    refine Sky.land Zc.steady hfr hf sky' fun h3 fl3 up3 => ?_
    have J3 : Inv X pins σ' H' { s' with heap := h3 } := J.landed nb fl3.1 (up.trans up3) os ag
    obtain ⟨oe3, vs3, he3, hz3, hd3⟩ := fl3.there
    have nfr : a ∉ frs (X.env :: X.outer) := fun hm => by
      obtain ⟨_, o', e', hnf⟩ := fl3.2.2.1.mem hm
      rw [he3] at e'; cases e'
      exact hnf _ hd3
    have nL : a ≠ X.env.locals := fun z => nfr (List.mem_filterMap.mpr ⟨X.env, List.mem_cons_self, by rw [hf, z]⟩)
    have nF : a ∉ X.fs := fun hm => by
      obtain ⟨e, he, q⟩ := List.mem_filterMap.mp hm
      exact nfr (List.mem_filterMap.mpr ⟨e, List.mem_cons_of_mem _ he, q⟩)
    have nI : sI.heap.get? a = none := by
      cases e : sI.heap.get? a with
      | none => rfl
      | some o =>
        have z := nb a o e (by rw [hs]; exact nfr)
        rw [fl3.2.1] at z
        cases z
    have n0 : X.s_0.heap.get? a = none := by
      cases e : X.s_0.heap.get? a with
      | none => rfl
      | some o =>
        obtain ⟨o', z⟩ := J.base.there a o e (by rw [hex]; exact fun z => nomatch z)
        rw [nI] at z
        cases z
    have nP : ∀ p ∈ X.pn ++ pins, p.1 ≠ a := fun p hp z => by
      have e := (J.pin p hp).1
      rw [z, nI] at e
      cases e
    have nCl : ∀ x c, X.env.cells.lookup x = some c → c ≠ a := fun x c e z => by
      obtain ⟨v, o, ho, _⟩ := J.cell x c e
      rw [z, nI] at ho
      cases ho
    have S3 := J3.suite he3 hd3 na nL nF
    refine wpAny_handleBy_cons (codeAny_handlers_test ?_) (by intro q; cases q)
    have LT : PySem.W.Looks (model X.prog X.w) h3 (typeOf (.ref a)) cls := fun A Q E s k q => wpAny_typeOf_ref (k _ _ he3) (by rw [hz3.1]; exact q)
    have LM := PySem.W.exm_one (M := model X.prog X.w) (J3.kIn) LT hb1
    have test : ∀ {Q : Value → Shared → Prop} {E : Value → Shared → Prop}, Q c { s' with heap := h3 } → wpAny (model X.prog X.w) (X.A.mark (some (.ref a))) (eval (.Name x np) X.env) Q E { s' with heap := h3 } := fun {Q E} q => by
      obtain ⟨hg, hdbg, hm | ⟨hm, hv, hnn⟩⟩ := hc
      · exact ld_glob (X := X.suite a ((a, oe3) :: (X.pn ++ pins))) S3 hg hm q hdbg
      · exact ld_blt (X := X.suite a ((a, oe3) :: (X.pn ++ pins))) S3 hg hm hv q hnn hdbg
    refine test (LM.here ?_)
    cases b with
    | true =>
      refine codeAny_handlers_suite_as ?_
      refine HandSPX.lands_againZ fl3 fun h4 fl4 up4 => ?_
      have J4 : Inv X pins σ' H' { s' with heap := h4 } := J.landed nb fl4.1 ((up.trans up3).trans up4) os ag
      obtain ⟨oe4, vs4, he4, hz4, hd4⟩ := fl4.there
      have S4 := J4.suite he4 hd4 na nL nF
      refine store_ok (X := X.suite a ((a, oe4) :: (X.pn ++ pins))) (v := .ref a) S4 hN hi hloc rfl (fun s5 S5 => ?_) (.inr hln)
      refine wpAny_mono ((hsu a oe4 (X.pn ++ pins)).run [] s5 _ H' _ S5 (hyes rfl a na)) (fun f s6 hsp => ?_) (fun _ _ z => False.elim z)
      cases f with
      | next =>
        obtain ⟨σ6, H6, S6, q6⟩ := hsp
        refine gone_ok (X := X.suite a ((a, oe4) :: (X.pn ++ pins))) S6 hN hi hln fun s7 S7 => ?_
        obtain ⟨ha7, hn7, _⟩ := S7.pin (a, oe4) (List.mem_append_left _ List.mem_cons_self)
        exact ⟨_, _, track (S7.unsuite ok) n0 hn7 nL nCl nP (exK_ok ha7 hz4 hd4), q6⟩
      | brk =>
        obtain ⟨σ6, H6, S6, q6⟩ := hsp
        exact q6.elim
      | cont =>
        obtain ⟨σ6, H6, S6, q6⟩ := hsp
        exact q6.elim
      | ret u =>
        obtain ⟨v6, σ6, H6, S6, r6, q6⟩ := hsp
        exact q6.elim
    | false =>
      show wpAny _ X.A (handleBy (.ref a) X.env []) _ _ _
      refine wpAny_handleBy_nil ?_
      obtain ⟨k1, k2, k3, oe, vs, T, oT, ts', he, hz, hd, h1, hr⟩ := id fl3
      unfold PySem.passOn
      refine wpAny_bind (wpAny_field he hd h1 ?_)
      rw [if_neg (show ¬ ((Value.ref T == Value.none) = true) from by simp)]
      have fin : wpAny (model X.prog X.w) X.A (setFlight (.ref a) X.env.frame) (fun _ s4 => wpAny (model X.prog X.w) X.A (throw (.ref a) : Sem Flow) (SP X pins D) X.xe s4) X.xe { s' with heap := h3 } := by
        rw [hf]
        refine HandSPX.setFlight_upZ fl3 fun h4 hh4 up4 => wpAny_throw (tk _ _ ?_)
        exact ⟨a, B, sI, pins, σ', H', cls, d, rfl, J, nb, (up.trans up3).trans up4, .inr (.inr (by rw [hs]; exact hh4)), na, os, ag, hno rfl⟩
      first
        | exact wpAny_bind (wpAny_pure (wpAny_bind fin))
        | exact wpAny_bind fin
  · cases f with
    | next =>
      obtain ⟨σ', H', J', q⟩ := hsp
      exact wpAny_execs_nil ⟨σ', H', J'.ofTry ok, q⟩
    | brk =>
      obtain ⟨σ', H', J', q⟩ := hsp
      exact ⟨σ', H', J'.ofTry ok, q⟩
    | cont =>
      obtain ⟨σ', H', J', q⟩ := hsp
      exact ⟨σ', H', J'.ofTry ok, q⟩
    | ret u =>
      obtain ⟨v, σ', H', J', r, q⟩ := hsp
      exact ⟨v, σ', H', J'.ofTry ok, r, q⟩
end
/-- isinstance of a kept exception -/
def rIsK (K : PySem.W.Frag) : List V → Hp → VK → Prop := fun xs H Q => ∃ (a D : Addr) (d : Option Addr) (c : V) (cv : Value) (b : Bool), xs = [.ref a, c] ∧ H a = some (ExK (.ref D) d a) ∧ ExcC K D ∧ (d = none ∨ ∃ dd fs, d = some dd ∧ H dd = some (.xd fs)) ∧ ClsV c cv ∧ PySem.W.kitOne K (.ref D) cv = some b ∧ Q (.bl b) H
theorem call_isK {X : Cx} : CallR X (.builtin "isinstance") (rIsK X.K) := by
  intro pins s σ H xs us Q I r h
  obtain ⟨a, D, d, c, cv, b, rfl, ha, C, hd, k, e, q⟩ := h
  obtain ⟨u1, u2, rfl, r1, r2⟩ := vals2 r
  have ec := k.eq r2
  subst ec
  cases (show u1 = Value.ref a from r1)
  obtain ⟨⟨oe, vs, ho, hz, hv⟩, _, _⟩ := I.hok a _ ha
  have J : ∃ od, PySem.W.InstAt s.heap a oe D od := by
    rcases hd with rfl | ⟨dd, fs, rfl, hdd⟩
    · obtain ⟨oc, odd, oda, osl⟩ := oe
      obtain ⟨h1, h2⟩ := hz
      dsimp only at h1 h2 hv
      subst h1 h2 hv
      exact ⟨none, ho, rfl, rfl, trivial⟩
    · have hx : ObjOk X.prog X.w H s.heap dd (.xd fs) := I.hok dd _ hdd
      obtain ⟨mA, hns, hr⟩ := hx
      obtain ⟨od, ho2, hl⟩ := lookIn_ns hns
      exact ⟨some od, ho, hz.1, by unfold PySem.W.notCls; rw [hv] <;> rfl, by rw [hz.2]; exact ho2⟩
  obtain ⟨od, J⟩ := J
  exact PySem.W.kia_one (kept_kit C) I.kIn J e (fun z => nomatch z) fun tk => ⟨.bl b, H, I.tok tk, rfl, q⟩
/-- e.f of a kept exception -/
def tXk (K : PySem.W.Frag) (f : Str) (te : TE) : TE := fun σ H Q => te σ H fun x H1 => ∃ (a C dd : Addr) (fs : List (Str × V)) (v : V), x = .ref a ∧ H1 a = some (ExK (.ref C) (some dd) a) ∧ XfC K C ∧ PySem.W.findIn K (.ref C) f = some none ∧ H1 dd = some (.xd fs) ∧ fs.lookup f = some v ∧ Q v H1
theorem pe_xk {X : Cx} {e : Expr} {te : TE} {pos : Pos} {n : Str} (he : PE X e te) (hb : attributeBase e n X.env (eval e X.env) = eval e X.env := by rfl) : PE X (.Attribute e n pos) (tXk X.K n te) := by
  refine ⟨fun pins s σ H Q I h => ?_⟩
  refine attr_of hb (thn (he.run pins s σ H _ I h) fun u s1 hh => ?_)
  obtain ⟨x, H1, I1, rx, a, C, dd, fs, v, rfl, ha, T, hno, ea, l, q⟩ := hh
  obtain rfl : u = Value.ref a := rx
  obtain ⟨⟨oe, vs, ho, hz, hd⟩, _, _⟩ := I1.hok a _ ha
  have hx : ObjOk X.prog X.w H1 s1.heap dd (.xd fs) := I1.hok dd _ ea
  obtain ⟨mA, hns, hr⟩ := hx
  obtain ⟨od, ho2, hl⟩ := lookIn_ns hns
  obtain ⟨u, hu, ru⟩ := RelO.some_of (v := v) (o := mA n) (by rw [← l]; exact hr n)
  have J : PySem.W.InstAt s1.heap a oe C (some od) := ⟨ho, hz.1, by unfold PySem.W.notCls; rw [hd] <;> rfl, by rw [hz.2]; exact ho2⟩
  exact HandSPX.exc_get I1.kIn J T.ga T.gg T.exC (PySem.W.findObj_own T.hdC hno rfl (by rw [hl, hu])) (handed_of ru) ⟨v, H1, I1.tok _, ru, q⟩
theorem rd_xk {K : PySem.W.Frag} {f : Str} {te : TE} {σ : L2.St} {H : Hp} {Q : VK} (h : te σ H fun x H1 => ∃ (a C dd : Addr) (fs : List (Str × V)) (v : V), x = .ref a ∧ H1 a = some (ExK (.ref C) (some dd) a) ∧ XfC K C ∧ PySem.W.findIn K (.ref C) f = some none ∧ H1 dd = some (.xd fs) ∧ fs.lookup f = some v ∧ Q v H1) : tXk K f te σ H Q := h
end Z

end
section
local macro_rules | `(tactic| walk_at "ne") => `(tactic| first
  | assumption
  | (refine Z.ne_sym ?_; assumption)
  | (refine' Z.ne_new ?ka ?kb; (case ka => assumption); (case kb => walk_at "h"))
  | (refine' Z.ne_sym (Z.ne_new ?ka ?kb); (case ka => assumption); (case kb => walk_at "h"))
  | ((with_reducible refine' Z.ne_nw ?ka ?kb ?kc); (case ka => assumption); (case kb => walk_at "h"); (case kc => rfl))
  | ((with_reducible refine' Z.ne_sym (Z.ne_nw ?ka ?kb ?kc)); (case ka => assumption); (case kb => walk_at "h"); (case kc => rfl))
  | exact L2.ne_of (by assumption) (by assumption) (by intro z; cases z)
  | exact Z.ne_sym (L2.ne_of (by assumption) (by assumption) (by intro z; cases z)))
local macro_rules | `(tactic| walk_at "nm") => `(tactic| first
  | exact Z.nm_nil
  | exact Z.nm_cons (by walk_at "ne") (by walk_at "nm"))
local macro_rules | `(tactic| walk_at "h") => `(tactic| first
  | assumption
  | exact L2.upd_same
  | ((with_reducible refine' Eq.trans (L2.upd_ne ?ka) ?kb); (case ka => walk_at "ne"); (case kb => walk_at "h"))
  | ((with_reducible refine' Z.Fr.at ?ka ?kb ?kc ?kd); (case ka => assumption); (case kb => walk_at "h"); (case kc => walk_at "nm"); (case kd => rfl))
  | ((with_reducible refine' Z.Fr.tup ?ka ?kb); (case ka => assumption); (case kb => walk_at "h")))
local macro_rules | `(tactic| walk_at "free") => `(tactic| first
  | assumption
  | exact Z.Nw.of (by assumption)
  | ((with_reducible refine' Z.Fr.free ?ka ?kb); (case ka => assumption); (case kb => walk_at "free")))
local macro_rules | `(tactic| walk_at "ms") => `(tactic| first
  | exact Or.inl List.mem_cons_self
  | exact Or.inl (List.mem_cons_of_mem _ List.mem_cons_self)
  | (left; simp; done)
  | (right; walk_at "free"))
local macro_rules | `(tactic| walk_at "sub") => `(tactic| first
  | exact Z.sub_nil
  | ((with_reducible refine' Z.sub_cons ?ka ?kb); (case ka => walk_at "ms"); (case kb => walk_at "sub")))
local macro_rules | `(tactic| walk_at "fr") => `(tactic| first
  | assumption
  | exact Z.Fr.refl _ _
  | ((with_reducible refine' Z.Fr.new ?ka ?kb); (case kb => assumption); (case ka => walk_at "fr"))
  | ((with_reducible refine' Z.Fr.upd ?ka ?kb ?kc ?kd ?ke); (case kb => walk_at "ms"); (case kc => walk_at "h"); (case kd => rfl); (case ke => rfl); (case ka => walk_at "fr"))
  | ((with_reducible refine' Z.Fr.step ?ka ?kb ?kc); (case ka => assumption); (case kb => walk_at "fr"); (case kc => walk_at "sub")))
local macro_rules | `(tactic| walk_at "dt") => `(tactic| first
  | assumption
  | (refine Z.DT.new ?_ (by assumption); walk_at "dt")
  | (refine Z.DTs.new ?_ (by assumption); walk_at "dt")
  | (refine' Z.DT.wr ?ka ?kb ?kc; (case kb => walk_at "h"); (case kc => rfl); (case ka => walk_at "dt"))
  | (refine' Z.DTs.wr ?ka ?kb ?kc; (case kb => walk_at "h"); (case kc => rfl); (case ka => walk_at "dt"))
  | (refine' Z.DT.fr ?ka ?kb; (case kb => assumption); (case ka => walk_at "dt"))
  | (refine' Z.DTs.fr ?ka ?kb; (case kb => assumption); (case ka => walk_at "dt")))
local macro_rules | `(tactic| walk_at "len") => `(tactic| first
  | exact Z.lt_ok (Nat.le_of_ble_eq_true (by with_unfolding_all rfl))
  | exact Z.le_ok (Nat.le_of_ble_eq_true (by with_unfolding_all rfl))
  | (apply Z.lt_ok; (try simp only [List.length_append, List.length_cons, List.length_nil, List.length_map, List.length_set, List.length_eraseIdx] at *); omega)
  | (apply Z.le_ok; (try simp only [List.length_append, List.length_cons, List.length_nil, List.length_map, List.length_set, List.length_eraseIdx] at *); omega))
local macro_rules | `(tactic| walk_at "r") => `(tactic| first
  | (with_reducible refine Z.rd_seq ?_)
  | (with_reducible refine Z.rd_asg ?_)
  | (with_reducible refine Z.rd_gname ?_)
  | (with_reducible refine Z.rd_ifs ?_)
  | (with_reducible refine Z.rd_next ?_)
  | (with_reducible refine Z.rd_and ?_)
  | (with_reducible refine Z.rd_or ?_)
  | (with_reducible refine Z.rd_not ?_)
  | (with_reducible refine Z.rd_test ?_)
  | (with_reducible refine Z.rd_tb ?_)
  | (with_reducible refine Z.rd_bl ?_)
  | (with_reducible refine Z.rd_op ?_)
  | (with_reducible refine Z.rd_c ?_)
  | ((with_reducible refine' Z.rd_var ?ka ?_); (case ka => with_unfolding_all rfl))
  | (with_reducible refine Z.rd_ret ?_)
  | (with_reducible refine Z.rd_retn ?_)
  | (with_reducible refine Z.rd_drop ?_)
  | (with_reducible refine Z.rd_nil ?_)
  | (with_reducible refine Z.rd_cons ?_)
  | (with_reducible refine Z.rd_cb ?_)
  | (with_reducible refine Z.rd_call ?_)
  | (with_reducible refine Z.rd_dget0 ?_)
  | ((with_reducible refine' Z.rd_dget1 ?ka ?kb ?_); (case ka => walk_at "h"); (case kb => with_unfolding_all rfl))
  | (with_reducible refine Z.rd_dput0 ?_)
  | ((with_reducible refine' Z.rd_dput1 ?ka ?kb ?_); (case ka => walk_at "h"); (case kb => walk_at "len"))
  | (with_reducible refine Z.rd_eqi ?_)
  | (with_reducible refine Z.rd_eqs ?_)
  | (with_reducible refine Z.rd_nei ?_)
  | (with_reducible refine Z.rd_nes ?_)
  | (with_reducible refine Z.rd_i0 ?_)
  | (with_reducible refine Z.rd_lst ?_)
  | (with_reducible refine Z.rd_tup ?_)
  | (with_reducible refine Z.rd_ifx ?_)
  | (with_reducible refine Z.rd_bm ?_)
  | (with_reducible refine Z.rd_bm0 ?_)
  | ((with_reducible refine' Z.rd_nil2 ?ka ?kb ?_); (case ka => walk_at "h"); (case kb => walk_at "h"))
  | ((with_reducible refine' Z.rd_nil2T ?ka ?kb ?_); (case ka => walk_at "h"); (case kb => walk_at "h"))
  | (with_reducible refine Z.rd_int1 ?_)
  | ((with_reducible refine' Z.rd_size ?ka ?_); (case ka => walk_at "len"))
  | ((with_reducible refine' Z.rd_tylist ?ka ?_); (case ka => walk_at "h"))
  | ((with_reducible refine' Z.rd_i ?ka ?_); (case ka => walk_at "num"))
  | ((with_reducible refine' Z.rd_append ?ka ?kb ?_); (case ka => walk_at "h"); (case kb => walk_at "len"))
  | (with_reducible refine Z.rd_for' ?_)
  | (with_reducible refine Z.rd_lc' ?_)
  | (with_reducible refine Z.rd_un ?_)
  | (with_reducible refine Z.rd_gm ?_)
  | (with_reducible refine Z.rd_xk ?_)
  | (with_reducible refine Z.rd_stard ?_)
  | ((with_reducible refine' Z.rd_stard1 ?ka ?_); (case ka => walk_at "h"))
  | (with_reducible refine Z.rd_star ?_)
  | ((with_reducible refine' Z.rd_star1 ?ka ?_); (case ka => walk_at "h"))
  | (with_reducible refine Z.rd_dc' ?_)
  | (with_reducible refine Z.rd_dnew ?_)
  | (with_reducible refine Z.rd_dpop ?_)
  | ((with_reducible refine' Z.rd_isd ?ka ?_); (case ka => walk_at "h"))
  | (with_reducible refine Z.rd_fldaug ?_)
  | (with_reducible refine Z.rd_ilt ?_)
  | (with_reducible refine Z.rd_mko ?_)
  | (with_reducible refine Z.rd_gk ?_)
  | (with_reducible refine Z.rd_gp ?_)
  | ((with_reducible refine' Z.rd_ins1 ?ka ?_); (case ka => walk_at "h"))
  | (with_reducible refine Z.rd_disp ?_)
  | (with_reducible refine Z.rd_pnil ?_)
  | (with_reducible refine Z.rd_pcons ?_)
  | (with_reducible refine Z.rd_m1 ?_)
  | (with_reducible refine Z.rd_isstr ?_)
  | (with_reducible refine Z.rd_sl ?_)
  | (with_reducible refine Z.rd_nopart ?_)
  | (with_reducible refine Z.rd_part ?_)
  | (with_reducible refine Z.rd_part1 ?_)
  | (with_reducible refine Z.rd_u ?_)
  | (with_reducible refine Z.rd_ilist ?_)
  | (with_reducible refine Z.rd_itup ?_)
  | (with_reducible refine Z.rd_istr ?_)
  | (with_reducible refine Z.rd_irng1 ?_)
  | (with_reducible refine Z.rd_yes ?_)
  | (with_reducible refine Z.rd_sfld0 ?_)
  | (with_reducible refine Z.rd_fld0 ?_)
  | (with_reducible refine Z.rd_din ?_)
  | (with_reducible refine Z.rd_dnotin ?_)
  | (with_reducible refine Z.rd_isn ?_)
  | (with_reducible refine Z.rd_notn ?_)
  | (with_reducible refine Z.rd_par ?_)
  | (with_reducible refine Z.rd_par1 ?_)
  | (with_reducible refine Z.rd_gnil ?_)
  | (with_reducible refine Z.rd_gcons ?_)
  | (with_reducible refine Z.rd_chain ?_)
  | (with_reducible refine Z.rd_andv ?_)
  | (with_reducible refine Z.rd_orv ?_)
  | (with_reducible refine Z.rd_notv ?_)
  | (with_reducible refine Z.rd_meth ?_)
  | (with_reducible refine Z.rd_while ?_)
  | ((with_reducible refine' Z.rd_ixl ?ka ?kb ?_); (case ka => walk_at "h"); (case kb => walk_at "ati"))
  | ((with_reducible refine' Z.rd_ixt ?ka ?kb ?_); (case ka => walk_at "h"); (case kb => walk_at "ati"))
  | ((with_reducible refine' Z.rd_len ?ka ?_); (case ka => walk_at "h"))
  | ((with_reducible refine' Z.rd_lens ?ka ?_); (case ka => walk_at "h"))
  | ((with_reducible refine' Z.rd_lent ?ka ?_); (case ka => walk_at "h"))
  | ((with_reducible refine' Z.rd_lstof ?ka ?_); (case ka => walk_at "h"))
  | ((with_reducible refine' Z.rd_tupof ?ka ?_); (case ka => walk_at "h"))
  | ((with_reducible refine' Z.rd_sfld1 ?ka ?kb ?kc ?kd ?_); (case ka => walk_at "h"); (case kb => assumption); (case kc => assumption); (case kd => (first | (with_unfolding_all decide) | exact Nat.le_of_ble_eq_true (by with_unfolding_all rfl))))
  | ((with_reducible refine' Z.rd_fld1 ?ka ?kb ?kc ?kd ?_); (case ka => walk_at "h"); (case kb => assumption); (case kc => assumption); (case kd => with_unfolding_all rfl))
  | ((with_reducible refine' Z.rd_din1 ?ka ?_); (case ka => walk_at "h"))
  | ((with_reducible refine' Z.rd_gtup ?ka ?kb ?_); (case ka => walk_at "h"); (case kb => with_unfolding_all rfl))
  | ((with_reducible refine' Z.rd_catl ?ka ?kb ?kc ?_); (case ka => walk_at "h"); (case kb => walk_at "h"); (case kc => walk_at "len"))
  | ((with_reducible refine' Z.rd_meth1 ?ka ?kb ?_); (case ka => walk_at "h"); (case kb => with_unfolding_all rfl))
  | ((with_reducible refine' Z.rd_addstr ?ka ?_); (case ka => walk_at "len")))
local macro_rules | `(tactic| walk_at "ati") => `(tactic| first
  | assumption
  | (with_unfolding_all rfl)
  | exact L2.atI_nat (by assumption)
  | exact L2.atI_nat (by with_unfolding_all rfl)
  | exact L2.atI_last _ _)
local macro_rules | `(tactic| walk_at "rr") => `(tactic| repeat (walk_at "r"))
local macro_rules | `(tactic| walk_at "num") => `(tactic| first
  | (with_unfolding_all decide)
  | (show (_ : Int) ≠ 0; omega)
  | (show (_ : Int) ≠ 0 ∧ _ < 1073741824; exact ⟨by omega, by omega⟩)
  | (show (0 : Int) ≤ _ ∧ _ ≤ (1000000 : Int) ∧ _; exact ⟨by decide, by decide, by omega⟩)
  | (show (-(2 ^ 64) < (_ : Int) ∧ _ < 2 ^ 64) ∨ _; (first | (left; exact ⟨by omega, by omega⟩) | (right; exact ⟨by omega, by omega⟩)))
  | omega)
/-! ### an own error class over ValueError: __init__(self, name): super().__init__(text + repr(name)); self.name = name -/
namespace Z
open PySem PySem.Spec PyProof.Rows L2
/-- what the written part says of the class, of its __init__ (at f, its code at cda, the cell of the class at cc) -/
structure SupC (P : Program) (K : PySem.W.Frag) (mg : Str → Option Value) (C f cda cc : Addr) (fd : FuncData) (txt fld : Str) : Prop where
  oex : OexC K C
  xinit : PySem.W.findIn K (.ref C) "__init__" = some (some (.ref f))
  tinit : PySem.W.typeIn K (.ref f) = some (.type "function")
  fn : ∃ (oc : Value) (od : Option Addr) (name qual : Str) (params : Arguments) (scope : Scope) (dV kV doc pm ct : Value) (an : Option Addr) (osl : Array (Option Value)) (ar : Arg) (j : Nat) (p0 p1 p2 p3 p4 p5 p6 p7 p8 p9 q1 q2 q3 q4 : Pos),
    fd = PySem.W.ksFn name qual params [.Expr (.Call (.Attribute (.Call (.Name "super" p0) [] [] p1) "__init__" p2) [.BinOp (.Constant (.str txt) j p9) .Add (.Call (.Name "repr" q1) [.Name fld q2] [] q3) q4] [] p3) p4, .Assign [.Attribute (.Name "self" p5) fld p6] (.Name fld p7) p8] scope dV kV doc pm an (.ref cda) ct cc ∧
    K.lookup f = some ⟨oc, od, .func fd, osl⟩ ∧ PySem.W.codeIn K (.ref cda) qual = true ∧ (params.posonlyargs ++ params.args).head? = some ar ∧ ar.arg = "self" ∧
    (∀ x ∈ scope.names, x.2 ≠ .cell) ∧ scope.isCoroutine = false ∧ scope.isGenerator = false ∧ scope.kind = .function ∧ scope.names.lookup ("self" : Str) = some .local ∧ scope.names.lookup fld = some .local ∧ scope.names.lookup ("super" : Str) = some .globalImplicit ∧
    scope.names.lookup ("__class__" : Str) = some .free ∧ scope.names.lookup ("repr" : Str) = some .globalImplicit ∧
    ∃ pl : Env → Sem Bool, ∀ env : Env, eval (.Call (.Attribute (.Call (.Name "super" p0) [] [] p1) "__init__" p2) [.BinOp (.Constant (.str txt) j p9) .Add (.Call (.Name "repr" q1) [.Name fld q2] [] q3) q4] [] p3) env = (do
      let ov ← attributeBase (.Call (.Name "super" p0) [] [] p1) "__init__" env (eval (.Call (.Name "super" p0) [] [] p1) env)
      standAt p2.atName
      let (f, first) ← holding [ov] (getMethod ov "__init__" (pl env))
      callWith p3 f first (backTo p3 (starEach [.BinOp (.Constant (.str txt) j p9) .Add (.Call (.Name "repr" q1) [.Name fld q2] [] q3) q4] env)) [])
  code : ∃ (ccl : Value) (cdd : Option Addr) (vs : Array Value) (ccs : Array (Option Value)) (file : Str) (tf : Tok), K.lookup cda = some ⟨ccl, cdd, .fields vs, ccs⟩ ∧ vs[2]? = some (.str file tf) ∧ ((P.main.file : Str) == file) = true
  top : (P.main.scope.names.lookup ("super" : Str)).isSome = false
  cell : ∃ (cl : Value) (cld : Option Addr) (csl : Array (Option Value)), K.lookup cc = some ⟨cl, cld, .cell (some (.ref C)), csl⟩
  sub : PySem.W.mroIn K C (.ref C) = some true
  sup : PySem.W.ks_superIn K C C "__init__" = some (some (.builtin "ValueError.__init__"))
  ve : PySem.W.subIn K (.ref C) (.type "ValueError") = some true
  opq : PySem.W.nsIn K cStatics "thirdparty.any" = some none
  b_super : mg "super" = none
  b_repr : mg "repr" = none
  nfld : PySem.W.findIn K (.ref C) fld = some none
  ne : fld ≠ "self"
  dbg : (fld == ("__debug__" : Str)) = false
  few : txt.length ≤ 1000
def sp_sup (C : Addr) (fld : Str) : Sp := fun vs H Q _ => ∃ (a : Addr) (z : Str), vs = [.ref a, .str z] ∧ (reprText z).length ≤ 100000 ∧ H a = some (exo a C none) ∧ ∀ dx, H dx = none → dx ≠ a → Q .non (upd (upd H dx (exd dx [(fld, .str z)])) a (exo a C (some dx)))
section
variable {prog : Program} {w : World} {A : Around} {E : Value → Shared → Prop} {h : Heap} {g : Array GenState} {d : Drawn} {t : Nat} {os : OsState}
open PySem.W in
/-- the bound ValueError.__init__ called: the exception's args are laid anew -/
theorem call_mw {u C e t0 N : Addr} {nm q : Str} {bs bm : List Value} {hdct : Bool} {sn : List Str} {sub : List Value} {ab : Bool} {col : Option Bool} {dd : Option Addr} {k0 k1 k2 k3 k5 : Option Value} {rest : List Value} {Q : Value → Shared → Prop}
    (hC : h.get? C = some (excClassObj nm q C N bs bm hdct sn sub ab col dd k0 k1 k2 k3 k5 "ValueError.__new__")) (he : h.get? e = some (excObj C t0 none .none)) (hu : h.get? u = some (kxs_mw "ValueError.__init__" e)) (hz : rest.length ≤ sizeLine)
    (hq : ∀ h' t1, (∀ b o, b ≠ e → h.get? b = some o → h'.get? b = some o) → h'.get? e = some (excObj C t1 none .none) → Q .none ⟨h', g, d, t, os⟩) : wpAny (model prog w) A (call (.ref u) rest) Q E ⟨h, g, d, t, os⟩ := by
  refine wpAny_call (codeAny_of_tree ?_)
  show wpAny _ A.in1 (callAny (.ref u) ⟨rest, []⟩) _ _ _
  simp only [callAny]
  refine wpAny_bind (wpAny_load hu ?_)
  simp only [kxs_mw, show (Value.type "method-wrapper" == Value.type "method" || Value.type "method-wrapper" == Value.type "builtin_function_or_method" || Value.type "method-wrapper" == Value.type "method-wrapper") = true by decide, if_true]
  refine KFB.if_so (by decide) ?_
  refine wpAny_bind (check_bound_init F.excBase_ValueError.toExcCallFacts hC he rfl ?_)
  refine wpAny_bind (wpAny_pure (wpAny_pure ?_))
  refine ⟨plainId_quiet F.excBase_ValueError.init.plain _, codeAny_builtin F.excBase_ValueError.initEntry ?_⟩
  exact exc_init_tree (cls := .ref C) (t0 := t0) (dv := none) (c2 := .none) (c3 := .none) (b4 := .bool false) he hz fun h' k e1 _ => hq h' _ k e1
end
section
variable {P : Program} {w : World} {K : PySem.W.Frag} {mg : Str → Option Value} {base : Heap} {C f cda cc : Addr} {fd : FuncData} {txt fld : Str} {CX : CXT} {k : Nat}
theorem fn_sup (T : SupC P K mg C f cda cc fd txt fld) : FnOk P w K mg base CX (k + 1) f fd ["self", fld] (sp_sup C fld) := by
  refine ⟨fun vs H Q E h => ?_, fun A outer s H args us vs Q E hr e0 hb r hsp => ?_⟩
  · obtain ⟨a, z, rfl, _⟩ := h
    rfl
  obtain ⟨a, z, rfl, hz, ha, hq⟩ := hsp
  obtain ⟨u1, u2, rfl, r1, r2⟩ := vals2 r
  obtain rfl : u1 = Value.ref a := r1
  obtain ⟨t, rfl⟩ := (show ∃ t, u2 = Value.str z t from r2)
  obtain ⟨oc, od, name, qual, params, scope, dV, kV, doc, pm, ct, an, osl, ar, j, p0, p1, p2, p3, p4, p5, p6, p7, p8, p9, q1, q2, q3, q4, rfl, lk, hcd, hhead, har, hcell, hco, hgen, hk, hself, hfld, hsup, hcls, hrepr, pl, hev⟩ := T.fn
  obtain ⟨nm, qn, N, bs, bm, sn, sub, ab, col, dd, k0, k1, k2, k3, k5, hC, hbm⟩ := T.oex.cls
  obtain ⟨ccl, cdd, cvs, ccs, file, tf, hcode, hvs, hfile⟩ := T.code
  obtain ⟨cl, cld, csl, hcc⟩ := T.cell
  have hcl : PySem.W.clsIn K C = some { name := nm, bases := bs, mro := .ref C :: bm, ns := N, qualname := qn, hasDict := true, slotNames := sn, subclasses := sub, abstract := ab, collection := col, hasDel := false } := by unfold PySem.W.clsIn; rw [hC] <;> rfl
  have KX : K.In s.heap := e0.mod.kin.keeps fun b o e => (e0.bs b o e).1
  have lim : s.heap.NoLimit := e0.mod.nolimit.keeps fun b o e => (e0.bs b o e).1
  obtain ⟨t1, hoe⟩ := exo_at e0.hok ha
  obtain ⟨mb, hmb, hbb⟩ := e0.mod.blt
  have bk : ∀ b o, base.get? b = some o → s.heap.get? b = some o := fun b o e => (e0.bs b o e).1
  have hloc : ∀ x ∈ [("self" : Str), fld].zip [Value.ref a, Value.str z t], scope.names.lookup x.1 = some .local := by
    intro x hx
    rcases List.mem_cons.mp hx with rfl | hx
    · exact hself
    · rcases List.mem_cons.mp hx with rfl | hx
      · exact hfld
      · cases hx
  refine PySem.ks_codeAny_call_defAt (fd := PySem.W.ksFn name qual params _ scope dV kV doc pm an (.ref cda) ct cc) hr.depth (KX _ _ lk) rfl lim (PySem.W.codeRec_of KX hcd) rfl hb hcell hloc (fun h₁ hns hk₁ => ?_) hco hgen hk
  have nsz : ∀ b o, s.heap.get? b = some o → b ≠ s.heap.objs.size := fun b o e => Nat.ne_of_lt (Heap.lt_size e)
  generalize s.heap.objs.size = L at hns nsz
  show _root_.PySem.wpAt (model P w) (A.deeper (PySem.W.ksEnv qual scope L f (.ref cda) cc)) (.func _ (PySem.W.ksEnv qual scope L f (.ref cda) cc)) (execs _ (PySem.W.ksEnv qual scope L f (.ref cda) cc)) _ _ _
  have kb₁ : ∀ b o, base.get? b = some o → h₁.get? b = some o := fun b o e => hk₁ b o (bk b o e)
  have KX1 : K.In h₁ := fun b o e => hk₁ _ _ (KX b o e)
  have mself : ([("self" : Str), fld].zip [Value.ref a, Value.str z t]).reverse.lookup ("self" : Str) = some (.ref a) := by
    show List.lookup ("self" : Str) [(fld, Value.str z t), (("self" : Str), Value.ref a)] = _
    have e : (("self" : Str) == fld) = false := by simpa using T.ne.symm
    simp [List.lookup, e]
  have mfld : ([("self" : Str), fld].zip [Value.ref a, Value.str z t]).reverse.lookup fld = some (.str z t) := by
    show List.lookup fld [(fld, Value.str z t), (("self" : Str), Value.ref a)] = _
    simp [List.lookup]
  have glob : ∀ {h : Heap} {g : Array GenState} {d : Drawn} {tk : Nat} {os : OsState} {x : Str} {v : Value} {Q : Value → Shared → Prop} {M : Model} {A : Around} {E : Value → Shared → Prop}, (∀ b o, base.get? b = some o → h.get? b = some o) → mg x = none → bootBuiltins x = some v → x ≠ "__name__" → Q v ⟨h, g, d, tk, os⟩ →
      wpAny M A (loadGlobal (PySem.W.ksEnv qual scope L f (.ref cda) cc) x) Q E ⟨h, g, d, tk, os⟩ := fun kb hx hv hn q => Calls.loadGlobal_builtin (e0.mod.glob.keeps kb) hx (hmb.keeps kb) ((hbb _ hn).trans hv) q
  have oe1 := hk₁ _ _ hoe
  obtain ⟨hp, g, dr, tk, os⟩ := s
  dsimp only at hk₁ hoe bk
  have hint : interactive (PySem.W.ksEnv qual scope L f (.ref cda) cc) = false := by
    unfold interactive
    simp [hk]
  refine PySem.ks_wpAt_execs_cons (PySem.ks_wpAt_Expr_any (PySem.ks_wpAt_MethodCall (PySem.ks_wpAt_super_base (env := PySem.W.ksEnv qual scope L f (.ref cda) cc) hsup hcls rfl rfl (KX1 _ _ lk) rfl hhead rfl (KX1 _ _ hcode) rfl hvs hfile T.top ?_) (hev _)) hint (by rfl))
  refine PySem.W.ks_loadName_global hk hsup (glob kb₁ T.b_super PyProof.Rows.Boot.«super» (by decide) ⟨rfl, ?_⟩)
  refine wpAny_loadName_free hk hcls rfl ⟨_, KX1 _ _ hcc, rfl⟩ ?_
  rw [har]
  refine wpAny_loadName_local hk hself hns mself ?_
  refine PySem.ks_wpAny_isType_cls (KX1 _ _ hC) rfl ⟨rfl, ?_⟩
  refine PySem.ks_wpAny_call_super (KX1 _ _ hC) rfl oe1 rfl (fun c e => by cases e) (PySem.W.looks_mroIn KX1 T.sub) (fun h₂ e2 hk₂ => ?_)
  have KX2 : K.In h₂ := fun b o e => hk₂ _ _ (KX1 b o e)
  have I2 : PySem.W.InstAt h₂ a _ C none := ⟨hk₂ _ _ oe1, rfl, rfl, trivial⟩
  have hsupI : PySem.W.alongIn K "__init__" (((Value.ref C :: bm).dropWhile (· != .ref C)).drop 1) = some (some (.builtin "ValueError.__init__")) := by
    have := T.sup
    unfold PySem.W.ks_superIn at this
    rw [hcl] at this
    exact this
  refine PySem.W.kxs_getMethod PySem.W.kxs_ValueError e2 (PySem.W.looks_opaque KX2 T.opq) (l₀ := .ref C :: bm) (fun A Q E s k q => wpAny_bind ((PySem.W.looks_clsIn KX2 hcl) A _ E s k (wpAny_pure q))) rfl KX2 hsupI (I2.type.andThen (PySem.W.looks_subIn KX2 T.ve)) (PySem.W.ks_ne KX2 I2 hcl) rfl ?_
  -- the bound method
  have hu : (h₂.push (PySem.W.kxs_mw "ValueError.__init__" a)).get? h₂.objs.size = some (PySem.W.kxs_mw "ValueError.__init__" a) := Heap.get?_push_at rfl rfl
  have hk₃ : ∀ b o, h₂.get? b = some o → (h₂.push (PySem.W.kxs_mw "ValueError.__init__" a)).get? b = some o := fun b o e => Heap.get?_push_of_some _ e
  generalize h₂.push (PySem.W.kxs_mw "ValueError.__init__" a) = h₃ at hu hk₃
  generalize h₂.objs.size = u at hu
  have kb₃ : ∀ b o, base.get? b = some o → h₃.get? b = some o := fun b o e => hk₃ _ _ (hk₂ _ _ (kb₁ b o e))
  have KX3 : K.In h₃ := fun b o e => hk₃ _ _ (KX2 b o e)
  have ns₃ : h₃.Ns L (fun x => ([("self" : Str), fld].zip [Value.ref a, Value.str z t]).reverse.lookup x) := hns.keeps fun b o e => hk₃ _ _ (hk₂ _ _ e)
  refine PySem.W.kxs_callWith (i := "ValueError.__init__") (x := a) rfl (Calls.evalArgs_plain ?_)
  refine Calls.spliced_cons (wpAny_BinOp (Calls.Constant_str ?_))
  refine wpAny_Call_Name_kw (Calls.Name_function_global hk hrepr (glob kb₃ T.b_repr (by decide +kernel : bootBuiltins ("repr" : Str) = some (.builtin "repr")) (by decide) ?_) (by decide))
  refine PyProof.Rows.callWith_builtin1 (Calls.spliced_cons (wpAny_Name (wpAny_loadName_local hk hfld ns₃ mfld (Calls.spliced_nil ?_)) T.dbg)) (by rfl) (by rfl)
  refine PySem.P.repr_of_str (PyProof.Rows.add_str (fun t' tk' => Calls.spliced_nil ⟨hu, ?_⟩) ?_) (Nat.le_trans hz (by decide))
  · refine call_mw (KX3 _ _ hC) (hk₃ _ _ (hk₂ _ _ oe1)) hu (show 1 ≤ sizeLine by rw [sizeLine_eq]; omega) fun h₄ t4 hk₄ he4 => ?_
    show _root_.PySem.wpAt _ _ _ _ _ _ _
    have ndL : L ≠ a := fun e => nsz _ _ hoe e.symm
    have ns₄ : h₄.Ns L (fun x => ([("self" : Str), fld].zip [Value.ref a, Value.str z t]).reverse.lookup x) := by
      obtain ⟨o, es, ep, e1, e2⟩ := ns₃
      exact ⟨o, es, ep, hk₄ _ _ ndL e1, e2⟩
    have KX4 : K.In h₄ := fun b o e => hk₄ _ _ (fun z => by have q := (e0.bs b o (e0.mod.kin b o e)).2; rw [z, ha] at q; cases q) (KX3 b o e)
    refine PySem.ks_wpAt_execs_cons (wpAt_of_wpAny (plainObj_wpAny_Assign_Attribute (wpAny_Name (wpAny_loadName_local hk hfld ns₄ mfld (wpAny_Name (wpAny_loadName_local hk hself ns₄ mself ?_) (by decide))) T.dbg) (by rfl)))
    refine PySem.W.set_plain KX4 (ox := PySem.W.excObj C t4 none .none) (od := none) ⟨he4, rfl, rfl, trivial⟩ T.oex.sa ?_
    refine PySem.HandSPX.exc_osa KX4 he4 hcl (show PySem.HandSPX.refsVE (.ref C :: bm) = true from hbm) rfl T.nfld (fun h₅ tk5 dx hk₅ hdx dne he5 hn5 => ?_)
    show _root_.PySem.wpAt _ _ _ _ _ _ _
    refine wpAt_of_wpAny (wpAny_execs_nil ?_)
    have kk : ∀ b o, b ≠ a → hp.get? b = some o → h₅.get? b = some o := fun b o n e => hk₅ b o n (hk₄ b o n (hk₃ _ _ (hk₂ _ _ (hk₁ _ _ e))))
    have dn : hp.get? dx = none := by
      cases e : hp.get? dx with
      | none => rfl
      | some o =>
        have q := Heap.lt_size (hk₄ dx o dne (hk₃ _ _ (hk₂ _ _ (hk₁ _ _ e))))
        exact absurd q (Nat.not_lt.mpr hdx)
    have hnd : H dx = none := e0.hok.gone dn
    have nd : ∀ {b : Addr} {o : Obj}, hp.get? b = some o → b ≠ dx := fun {b o} q z => by
      rw [z, dn] at q
      cases q
    have na : ∀ {b : Addr}, H b = none → b ≠ a := fun {b} n z => by
      rw [z, ha] at n
      cases n
    refine ⟨.non, upd (upd H dx (exd dx [(fld, .str z)])) a (exo a C (some dx)), rfl, e0.bare, ?_, fun b o q => ?_, rfl, hq dx hnd dne⟩
    · exact {
        keep := fun b o q n _ _ => kk b o (na n) q
        slot := fun b o q n _ _ => ⟨o.slots, kk b o (na n) q⟩
        free := fun b o q n _ => by rw [upd_ne (na n), upd_ne (nd q)]; exact n
        there := fun b o q _ => by
          by_cases hb : b = a
          · exact ⟨_, by rw [hb]; exact he5⟩
          · exact ⟨o, kk b o hb q⟩
        tups := fun b xs q => by rw [upd_ne (at_ne ha q exo_tup), upd_ne (ne_of_none q hnd)]; exact q
        frzs := fun b o v q => by rw [upd_ne (at_ne ha q exo_frz), upd_ne (ne_of_none q hnd)]; exact q
        tbls := fun b ps q => ⟨#[], by rw [upd_ne (at_ne ha q exo_tbl), upd_ne (ne_of_none q hnd), q]; simp⟩ }
    · by_cases hb : b = a
      · subst hb
        rw [upd_same] at q
        cases q
        exact exo_ok he5
      · rw [upd_ne hb] at q
        by_cases hd : b = dx
        · subst hd
          rw [upd_same] at q
          cases q
          exact exd_ok hn5 (relO_put (fs := []) ⟨t, rfl⟩ fun g => True.intro)
        · rw [upd_ne hd] at q
          exact (e0.hok b o q).stay (fun c v hc z => kk c v (by
              rcases hc with hc | hc
              · rw [hc]; exact hb
              · exact at_ne ha hc exo_own) z)
            (fun c hc => by rw [upd_ne (at_ne ha hc exo_own), upd_ne (ne_of_none hc hnd)]; exact hc) (fun c xs hc => by rw [upd_ne (at_ne ha hc exo_tup), upd_ne (ne_of_none hc hnd)]; exact hc)
  · have := T.few
    exact Nat.le_trans (Nat.add_le_add T.few hz) (by decide)
end
end Z

end
section
local macro_rules | `(tactic| walk_at "ne") => `(tactic| first
  | assumption
  | (refine Z.ne_sym ?_; assumption)
  | (refine' Z.ne_new ?ka ?kb; (case ka => assumption); (case kb => walk_at "h"))
  | (refine' Z.ne_sym (Z.ne_new ?ka ?kb); (case ka => assumption); (case kb => walk_at "h"))
  | ((with_reducible refine' Z.ne_nw ?ka ?kb ?kc); (case ka => assumption); (case kb => walk_at "h"); (case kc => rfl))
  | ((with_reducible refine' Z.ne_sym (Z.ne_nw ?ka ?kb ?kc)); (case ka => assumption); (case kb => walk_at "h"); (case kc => rfl))
  | exact L2.ne_of (by assumption) (by assumption) (by intro z; cases z)
  | exact Z.ne_sym (L2.ne_of (by assumption) (by assumption) (by intro z; cases z)))
local macro_rules | `(tactic| walk_at "nm") => `(tactic| first
  | exact Z.nm_nil
  | exact Z.nm_cons (by walk_at "ne") (by walk_at "nm"))
local macro_rules | `(tactic| walk_at "h") => `(tactic| first
  | assumption
  | exact L2.upd_same
  | ((with_reducible refine' Eq.trans (L2.upd_ne ?ka) ?kb); (case ka => walk_at "ne"); (case kb => walk_at "h"))
  | ((with_reducible refine' Z.Fr.at ?ka ?kb ?kc ?kd); (case ka => assumption); (case kb => walk_at "h"); (case kc => walk_at "nm"); (case kd => rfl))
  | ((with_reducible refine' Z.Fr.tup ?ka ?kb); (case ka => assumption); (case kb => walk_at "h")))
local macro_rules | `(tactic| walk_at "free") => `(tactic| first
  | assumption
  | exact Z.Nw.of (by assumption)
  | ((with_reducible refine' Z.Fr.free ?ka ?kb); (case ka => assumption); (case kb => walk_at "free")))
local macro_rules | `(tactic| walk_at "ms") => `(tactic| first
  | exact Or.inl List.mem_cons_self
  | exact Or.inl (List.mem_cons_of_mem _ List.mem_cons_self)
  | (left; simp; done)
  | (right; walk_at "free"))
local macro_rules | `(tactic| walk_at "sub") => `(tactic| first
  | exact Z.sub_nil
  | ((with_reducible refine' Z.sub_cons ?ka ?kb); (case ka => walk_at "ms"); (case kb => walk_at "sub")))
local macro_rules | `(tactic| walk_at "fr") => `(tactic| first
  | assumption
  | exact Z.Fr.refl _ _
  | ((with_reducible refine' Z.Fr.new ?ka ?kb); (case kb => assumption); (case ka => walk_at "fr"))
  | ((with_reducible refine' Z.Fr.upd ?ka ?kb ?kc ?kd ?ke); (case kb => walk_at "ms"); (case kc => walk_at "h"); (case kd => rfl); (case ke => rfl); (case ka => walk_at "fr"))
  | ((with_reducible refine' Z.Fr.step ?ka ?kb ?kc); (case ka => assumption); (case kb => walk_at "fr"); (case kc => walk_at "sub")))
local macro_rules | `(tactic| walk_at "dt") => `(tactic| first
  | assumption
  | (refine Z.DT.new ?_ (by assumption); walk_at "dt")
  | (refine Z.DTs.new ?_ (by assumption); walk_at "dt")
  | (refine' Z.DT.wr ?ka ?kb ?kc; (case kb => walk_at "h"); (case kc => rfl); (case ka => walk_at "dt"))
  | (refine' Z.DTs.wr ?ka ?kb ?kc; (case kb => walk_at "h"); (case kc => rfl); (case ka => walk_at "dt"))
  | (refine' Z.DT.fr ?ka ?kb; (case kb => assumption); (case ka => walk_at "dt"))
  | (refine' Z.DTs.fr ?ka ?kb; (case kb => assumption); (case ka => walk_at "dt")))
local macro_rules | `(tactic| walk_at "len") => `(tactic| first
  | exact Z.lt_ok (Nat.le_of_ble_eq_true (by with_unfolding_all rfl))
  | exact Z.le_ok (Nat.le_of_ble_eq_true (by with_unfolding_all rfl))
  | (apply Z.lt_ok; (try simp only [List.length_append, List.length_cons, List.length_nil, List.length_map, List.length_set, List.length_eraseIdx] at *); omega)
  | (apply Z.le_ok; (try simp only [List.length_append, List.length_cons, List.length_nil, List.length_map, List.length_set, List.length_eraseIdx] at *); omega))
local macro_rules | `(tactic| walk_at "r") => `(tactic| first
  | (with_reducible refine Z.rd_seq ?_)
  | (with_reducible refine Z.rd_asg ?_)
  | (with_reducible refine Z.rd_gname ?_)
  | (with_reducible refine Z.rd_ifs ?_)
  | (with_reducible refine Z.rd_next ?_)
  | (with_reducible refine Z.rd_and ?_)
  | (with_reducible refine Z.rd_or ?_)
  | (with_reducible refine Z.rd_not ?_)
  | (with_reducible refine Z.rd_test ?_)
  | (with_reducible refine Z.rd_tb ?_)
  | (with_reducible refine Z.rd_bl ?_)
  | (with_reducible refine Z.rd_op ?_)
  | (with_reducible refine Z.rd_c ?_)
  | ((with_reducible refine' Z.rd_var ?ka ?_); (case ka => with_unfolding_all rfl))
  | (with_reducible refine Z.rd_ret ?_)
  | (with_reducible refine Z.rd_retn ?_)
  | (with_reducible refine Z.rd_drop ?_)
  | (with_reducible refine Z.rd_nil ?_)
  | (with_reducible refine Z.rd_cons ?_)
  | (with_reducible refine Z.rd_cb ?_)
  | (with_reducible refine Z.rd_call ?_)
  | (with_reducible refine Z.rd_dget0 ?_)
  | ((with_reducible refine' Z.rd_dget1 ?ka ?kb ?_); (case ka => walk_at "h"); (case kb => with_unfolding_all rfl))
  | (with_reducible refine Z.rd_dput0 ?_)
  | ((with_reducible refine' Z.rd_dput1 ?ka ?kb ?_); (case ka => walk_at "h"); (case kb => walk_at "len"))
  | (with_reducible refine Z.rd_eqi ?_)
  | (with_reducible refine Z.rd_eqs ?_)
  | (with_reducible refine Z.rd_nei ?_)
  | (with_reducible refine Z.rd_nes ?_)
  | (with_reducible refine Z.rd_i0 ?_)
  | (with_reducible refine Z.rd_lst ?_)
  | (with_reducible refine Z.rd_tup ?_)
  | (with_reducible refine Z.rd_ifx ?_)
  | (with_reducible refine Z.rd_bm ?_)
  | (with_reducible refine Z.rd_bm0 ?_)
  | ((with_reducible refine' Z.rd_nil2 ?ka ?kb ?_); (case ka => walk_at "h"); (case kb => walk_at "h"))
  | ((with_reducible refine' Z.rd_nil2T ?ka ?kb ?_); (case ka => walk_at "h"); (case kb => walk_at "h"))
  | (with_reducible refine Z.rd_int1 ?_)
  | ((with_reducible refine' Z.rd_size ?ka ?_); (case ka => walk_at "len"))
  | ((with_reducible refine' Z.rd_tylist ?ka ?_); (case ka => walk_at "h"))
  | ((with_reducible refine' Z.rd_i ?ka ?_); (case ka => walk_at "num"))
  | ((with_reducible refine' Z.rd_append ?ka ?kb ?_); (case ka => walk_at "h"); (case kb => walk_at "len"))
  | (with_reducible refine Z.rd_for' ?_)
  | (with_reducible refine Z.rd_lc' ?_)
  | (with_reducible refine Z.rd_un ?_)
  | (with_reducible refine Z.rd_gm ?_)
  | (with_reducible refine Z.rd_xk ?_)
  | (with_reducible refine Z.rd_stard ?_)
  | ((with_reducible refine' Z.rd_stard1 ?ka ?_); (case ka => walk_at "h"))
  | (with_reducible refine Z.rd_star ?_)
  | ((with_reducible refine' Z.rd_star1 ?ka ?_); (case ka => walk_at "h"))
  | (with_reducible refine Z.rd_dc' ?_)
  | (with_reducible refine Z.rd_dnew ?_)
  | (with_reducible refine Z.rd_dpop ?_)
  | ((with_reducible refine' Z.rd_isd ?ka ?_); (case ka => walk_at "h"))
  | (with_reducible refine Z.rd_fldaug ?_)
  | (with_reducible refine Z.rd_ilt ?_)
  | (with_reducible refine Z.rd_mko ?_)
  | (with_reducible refine Z.rd_gk ?_)
  | (with_reducible refine Z.rd_gp ?_)
  | ((with_reducible refine' Z.rd_ins1 ?ka ?_); (case ka => walk_at "h"))
  | (with_reducible refine Z.rd_disp ?_)
  | (with_reducible refine Z.rd_pnil ?_)
  | (with_reducible refine Z.rd_pcons ?_)
  | (with_reducible refine Z.rd_m1 ?_)
  | (with_reducible refine Z.rd_isstr ?_)
  | (with_reducible refine Z.rd_sl ?_)
  | (with_reducible refine Z.rd_nopart ?_)
  | (with_reducible refine Z.rd_part ?_)
  | (with_reducible refine Z.rd_part1 ?_)
  | (with_reducible refine Z.rd_u ?_)
  | (with_reducible refine Z.rd_ilist ?_)
  | (with_reducible refine Z.rd_itup ?_)
  | (with_reducible refine Z.rd_istr ?_)
  | (with_reducible refine Z.rd_irng1 ?_)
  | (with_reducible refine Z.rd_yes ?_)
  | (with_reducible refine Z.rd_sfld0 ?_)
  | (with_reducible refine Z.rd_fld0 ?_)
  | (with_reducible refine Z.rd_din ?_)
  | (with_reducible refine Z.rd_dnotin ?_)
  | (with_reducible refine Z.rd_isn ?_)
  | (with_reducible refine Z.rd_notn ?_)
  | (with_reducible refine Z.rd_par ?_)
  | (with_reducible refine Z.rd_par1 ?_)
  | (with_reducible refine Z.rd_gnil ?_)
  | (with_reducible refine Z.rd_gcons ?_)
  | (with_reducible refine Z.rd_chain ?_)
  | (with_reducible refine Z.rd_andv ?_)
  | (with_reducible refine Z.rd_orv ?_)
  | (with_reducible refine Z.rd_notv ?_)
  | (with_reducible refine Z.rd_meth ?_)
  | (with_reducible refine Z.rd_while ?_)
  | ((with_reducible refine' Z.rd_ixl ?ka ?kb ?_); (case ka => walk_at "h"); (case kb => walk_at "ati"))
  | ((with_reducible refine' Z.rd_ixt ?ka ?kb ?_); (case ka => walk_at "h"); (case kb => walk_at "ati"))
  | ((with_reducible refine' Z.rd_len ?ka ?_); (case ka => walk_at "h"))
  | ((with_reducible refine' Z.rd_lens ?ka ?_); (case ka => walk_at "h"))
  | ((with_reducible refine' Z.rd_lent ?ka ?_); (case ka => walk_at "h"))
  | ((with_reducible refine' Z.rd_lstof ?ka ?_); (case ka => walk_at "h"))
  | ((with_reducible refine' Z.rd_tupof ?ka ?_); (case ka => walk_at "h"))
  | ((with_reducible refine' Z.rd_sfld1 ?ka ?kb ?kc ?kd ?_); (case ka => walk_at "h"); (case kb => assumption); (case kc => assumption); (case kd => (first | (with_unfolding_all decide) | exact Nat.le_of_ble_eq_true (by with_unfolding_all rfl))))
  | ((with_reducible refine' Z.rd_fld1 ?ka ?kb ?kc ?kd ?_); (case ka => walk_at "h"); (case kb => assumption); (case kc => assumption); (case kd => with_unfolding_all rfl))
  | ((with_reducible refine' Z.rd_din1 ?ka ?_); (case ka => walk_at "h"))
  | ((with_reducible refine' Z.rd_gtup ?ka ?kb ?_); (case ka => walk_at "h"); (case kb => with_unfolding_all rfl))
  | ((with_reducible refine' Z.rd_catl ?ka ?kb ?kc ?_); (case ka => walk_at "h"); (case kb => walk_at "h"); (case kc => walk_at "len"))
  | ((with_reducible refine' Z.rd_meth1 ?ka ?kb ?_); (case ka => walk_at "h"); (case kb => with_unfolding_all rfl))
  | ((with_reducible refine' Z.rd_addstr ?ka ?_); (case ka => walk_at "len")))
local macro_rules | `(tactic| walk_at "ati") => `(tactic| first
  | assumption
  | (with_unfolding_all rfl)
  | exact L2.atI_nat (by assumption)
  | exact L2.atI_nat (by with_unfolding_all rfl)
  | exact L2.atI_last _ _)
local macro_rules | `(tactic| walk_at "rr") => `(tactic| repeat (walk_at "r"))
local macro_rules | `(tactic| walk_at "num") => `(tactic| first
  | (with_unfolding_all decide)
  | (show (_ : Int) ≠ 0; omega)
  | (show (_ : Int) ≠ 0 ∧ _ < 1073741824; exact ⟨by omega, by omega⟩)
  | (show (0 : Int) ≤ _ ∧ _ ≤ (1000000 : Int) ∧ _; exact ⟨by decide, by decide, by omega⟩)
  | (show (-(2 ^ 64) < (_ : Int) ∧ _ < 2 ^ 64) ∨ _; (first | (left; exact ⟨by omega, by omega⟩) | (right; exact ⟨by omega, by omega⟩)))
  | omega)
/-! ### methods, makers, properties, defs with a star, where nothing is being shown -/
namespace Z
open PySem PySem.Spec PyProof.Rows L2
/-- a def's promise for positional arguments -/
def GR (γ : Bool) (P : Program) (w : World) (K : PySem.W.Frag) (mg : Str → Option Value) (base : Heap) (k : Nat) (f : Addr) (sp : Sp) : Prop :=
  ∀ (A : Around) (outer : List Env) (s : Shared) (H : Hp) (us : List Value) (vs : List V) (Q : VK) (E : XK), (γ = true → A.guards = some []) → Room k A → Env0 P w K mg base A outer s H → Vals vs us → sp vs H Q E →
    codeAny (model P w) A (.call (.ref f) ⟨us, []⟩) (CR (L2.CX P w) outer P w H s Q E) s
section
variable {γ : Bool} {P : Program} {w : World} {K : PySem.W.Frag} {mg : Str → Option Value} {base : Heap} {k : Nat} {f : Addr}
theorem GR.mono {j : Nat} {sp : Sp} (F : GR γ P w K mg base j f sp) (h : j ≤ k) : GR γ P w K mg base k f sp := fun A outer s H us vs Q E hg hr => F A outer s H us vs Q E hg (hr.mono h)
/-- all that is asked of a def's arguments, the defaults dvs behind them -/
theorem GOk.pos {fd : FuncData} {ps : List Str} {sp : Sp} {ds : List Value} {dvs : List V} (F : GOk γ P w K mg base k f fd ps sp) (hb : Binds K fd ps ds) (hd : Vals dvs ds) : GR γ P w K mg base k f (fun vs H Q E => sp (vs ++ dvs) H Q E) := by
  intro A outer s H us vs Q E hg hr e0 r h
  have r2 : Vals (vs ++ dvs) (us ++ ds) := r.append hd
  have hl : (us ++ ds).length = ps.length := by rw [← r2.length]; exact F.len _ _ _ _ h
  have KX : K.In s.heap := e0.mod.kin.keeps fun b o e => (e0.bs b o e).1
  exact F.run A outer s H ⟨us, []⟩ (us ++ ds) (vs ++ dvs) Q E hg hr e0 (hb s us KX hl) r2 h
theorem GOk.pos0 {fd : FuncData} {ps : List Str} {sp : Sp} (F : GOk γ P w K mg base k f fd ps sp) (hb : Binds K fd ps []) : GR γ P w K mg base k f sp := by
  have h := F.pos hb (.nil : Vals [] [])
  intro A outer s H us vs Q E hg hr e0 r hs
  exact h A outer s H us vs Q E hg hr e0 r (by show sp (vs ++ []) H Q E; rw [List.append_nil]; exact hs)
/-- def f(a, .., *v) -/
theorem g_star {pv x qual : Str} {st : Stmt} {fd : FuncData} {N ps : List Str} {sp : Sp} (F : Fun K x qual st f fd) (S : FnScope N (ps ++ [pv]) (defScope st))
    (hb : ∀ (kV doc pm : Value) (an : Option Addr) (cdv ct : Value) (us rest : List Value), us.length = ps.length → bindArgs (PySem.W.fnOf x qual (defArgs st) (defBody st) (defScope st) .none kV doc pm an cdv ct) ⟨us ++ rest, []⟩ = (newTuple rest >>= fun t => pure (ps.zip us ++ [(pv, t)])))
    (hbody : ∀ (cdv : Value) (A : Around) (outer : List Env) (s : Shared) (H : Hp) (vs : List V) (Q : VK) (E : XK), (γ = true → A.guards = some []) → Room k (A.deeper (envOfC qual (defScope st) s.heap.objs.size f cdv)) → sp vs H Q E →
      ∃ t, PSs (cxOf (L2.CX P w) P w K mg base N qual (defScope st) f cdv A outer s H E) (defBody st) t ∧ t { nx := fun _ H' => Q .non H', rt := Q } (L2.start N vs) H) :
    GR γ P w K mg base (k + 1) f (fun vs H Q E => ∃ ws rest, vs = ws ++ rest ∧ ws.length = ps.length ∧ rest.length ≤ 1000 ∧ ∀ p, H p = none → sp (ws ++ [V.ref p]) (upd H p (.tup rest)) Q E) := by
  obtain ⟨oc, od, kV, doc, pm, an, cdv, ct, osl, rfl, lk, hcd⟩ := F.ex
  intro A outer s H us vs Q E hg hr e0 r hsp
  obtain ⟨ws, rest, ev, hl, hz, hq⟩ := hsp
  subst ev
  obtain ⟨u1, u2, eu, r1, r2⟩ := StX.vals_split r
  subst eu
  have hn : H s.heap.objs.size = none := e0.hok.fresh (Nat.le_refl _)
  have hz2 : rest.length ≤ sizeLine := le_ok (Nat.le_trans hz (by decide))
  have hl1 : u1.length = ps.length := by rw [← r1.length]; exact hl
  have hl2 : u2.length ≤ sizeLine := by rw [← r2.length]; exact hz2
  refine StX.run_bnd lk hcd S hr e0 (G := fun xs H2 => ∃ p, H p = none ∧ xs = ws ++ [V.ref p] ∧ H2 = upd H p (.tup rest)) (fun A' Ex Q' h => ?_) fun s2 H2 xs ⟨p, hp, ex, eH⟩ hr' => ?_
  · rw [hb kV doc pm an cdv ct u1 u2 hl1]
    refine wpAny_bind (wpAny_newTuple (wpAny_pure ?_) hl2)
    have new : ObjOk P w (upd H s.heap.objs.size (.tup rest)) (s.heap.push ({ cls := .type "tuple", data := .seq u2.toArray } : Obj)) s.heap.objs.size (.tup rest) := ⟨hz2, u2, r2, ⟨_, Heap.get?_push_size _ rfl, rfl, _, rfl⟩⟩
    have un := StX.un_laid (fs := frs outer) (s := s) (o := ({ cls := .type "tuple", data := .seq u2.toArray } : Obj)) (u := .tup rest) hn
    have z := h _ _ (ws ++ [V.ref s.heap.objs.size]) (u1 ++ [Value.ref s.heap.objs.size]) (StX.env0_laid e0 new) un rfl (fun e s' => StX.cxUp outer s H _ _ E e s' un (fun b o q => Heap.get?_push_of_some _ q) rfl) (r1.append (.cons rfl .nil))
      (by rw [List.length_append, List.length_append, hl] <;> rfl) ⟨_, hn, rfl, rfl⟩
    rw [List.zip_append hl1.symm] at z
    exact z
  · subst ex eH
    exact hbody cdv A outer s2 _ _ Q E hg hr' (hq p hp)
end
/-- a def with defaults, by its body -/
theorem g_ofD {γ : Bool} {P : Program} {w : World} {K : PySem.W.Frag} {mg : Str → Option Value} {base : Heap} {x qual : Str} {st : Stmt} {f : Addr} {fd : FuncData} {N ps : List Str} {k : Nat} {sp : Sp} {dvs : List V} {kws : List (Str × V)} (F : FunD K x qual (defArgs st) (defBody st) (defScope st) dvs kws f fd) (S : FnScope N ps (defScope st)) (len : ∀ vs H Q E, sp vs H Q E → vs.length = ps.length)
    (hbody : ∀ (cdv : Value) (A : Around) (outer : List Env) (s : Shared) (H : Hp) (vs : List V) (Q : VK) (E : XK), (γ = true → A.guards = some []) → Room k (A.deeper (envOfC qual (defScope st) s.heap.objs.size f cdv)) → sp vs H Q E →
      ∃ t, PSs (cxOf (L2.CX P w) P w K mg base N qual (defScope st) f cdv A outer s H E) (defBody st) t ∧ t { nx := fun _ H' => Q .non H', rt := Q } (L2.start N vs) H) : GOk γ P w K mg base (k + 1) f fd ps sp := by
  obtain ⟨oc, od, dV, kV, doc, pm, an, cdv, ct, osl, rfl, lk, hcd, _, _⟩ := F.ex
  refine ⟨len, fun A outer s H args us vs Q E hg hr e0 hb r hsp => ?_⟩
  exact LamX.run_ofS lk hcd S hr e0 hb r (len _ _ _ _ hsp) fun hr' => hbody cdv A outer s H vs Q E hg hr' hsp
/-- a method of the class at C -/
structure GM (γ : Bool) (P : Program) (w : World) (K : PySem.W.Frag) (mg : Str → Option Value) (base : Heap) (C : Addr) (m : Str) (k : Nat) (sp : Sp) : Prop where
  ex : ∃ f, Meth K C m f ∧ GR γ P w K mg base k f sp
/-- a class of the module that is made -/
structure GK (γ : Bool) (P : Program) (w : World) (K : PySem.W.Frag) (mg : Str → Option Value) (base : Heap) (x : Str) (C : Addr) (k : Nat) (sp : Sp) : Prop where
  ex : ∃ f, Mk K C f ∧ mg x = some (.ref C) ∧ GR γ P w K mg base k f sp
/-- a property of the class at C -/
structure GP (γ : Bool) (P : Program) (w : World) (K : PySem.W.Frag) (mg : Str → Option Value) (base : Heap) (C : Addr) (m : Str) (k : Nat) (sp : Sp) : Prop where
  ex : ∃ p g, PropOf K C m p g ∧ GR γ P w K mg base k g sp
def tGM (C : Addr) (m : Str) (sp : Sp) (E : XK) (ta : TE) (t : TA) : TE := fun σ H Q => ta σ H fun x H1 => ∃ a dx fs, x = .ref a ∧ H1 a = some (.ins C dx fs) ∧ fs.lookup m = none ∧ t σ H1 fun vs H2 => sp (x :: vs) H2 Q E
def tGK (C : Addr) (sp : Sp) (E : XK) (t : TA) : TE := fun σ H Q => t σ H fun vs H1 => ∀ x dx, H1 x = none → H1 dx = none → dx ≠ x → sp (.ref x :: vs) (upd (upd H1 dx (.own x)) x (.ins C dx [])) (fun v H2 => v = .non ∧ Q (.ref x) H2) E
def tGP (C : Addr) (sp : Sp) (E : XK) (ta : TE) : TE := fun σ H Q => ta σ H fun x H1 => ∃ a dx fs, x = .ref a ∧ H1 a = some (.ins C dx fs) ∧ sp [x] H1 Q E
section
variable {γ : Bool} {X : Cx} {k : Nat} {C : Addr} {sp : Sp} {E : XK} {x m : Str} {p pos apos : Pos} {e o : Expr} {es : List Expr} {ta : TE} {t : TA}
theorem run_gr {f : Addr} {pins : List (Addr × Obj)} {σ : L2.St} {H : Hp} {s : Shared} {Q : VK} {us : List Value} {vs : List V} (F : GR γ X.prog X.w X.K X.mg X.base k f sp) (hgd : γ = true → X.A.guards = some []) (hr : Room k X.A) (hx : Passes (L2.CX X.prog X.w) X E)
    (I : Inv X pins σ H s) (r : Vals vs us) (h : sp vs H Q E) : wpAny (model X.prog X.w) X.A (call (.ref f) us) (EP X pins σ Q) X.xe s := by
  refine wpAny_call (codeAny_mono (F X.A X.stack s H us vs Q E hgd hr I.env0 r h) fun res s2 hq => ?_)
  cases res with
  | error er => exact hx pins σ H s er s2 I hq
  | ok fl =>
    cases fl with
    | ret u => exact I.after hq
    | next => exact (show False from hq).elim
    | brk => exact (show False from hq).elim
    | cont => exact (show False from hq).elim
theorem pe_gm {pl : Sem Bool} (F : GM γ X.prog X.w X.K X.mg X.base C m k sp) (c : Cls X.K C) (hgd : γ = true → X.A.guards = some []) (hr : Room k X.A) (hx : Passes (L2.CX X.prog X.w) X E) (he : PE X o ta) (ha : PA X (e :: es) t)
    (hst : starEach (e :: es) X.env = (false, eval e X.env) :: starEach es X.env := by rfl) (hpl : (backTo pos (starEach es X.env)).any (·.1) = false := by rfl)
    (ht : eval (.Call (.Attribute o m apos) (e :: es) [] pos) X.env = (do
      let ov ← eval o X.env
      standAt apos.atName
      let (f, first) ← holding [ov] (getMethod ov m pl)
      callWith pos f first (backTo pos (starEach (e :: es) X.env)) (backToKw pos (keywordEach [] X.env))) := by rfl) :
    PE X (.Call (.Attribute o m apos) (e :: es) [] pos) (tGM C m sp E ta t) := by
  obtain ⟨f, hm, G⟩ := F.ex
  refine ⟨fun pins s σ H Q I h => ?_⟩
  refine PySem.W.methodCall_KW (pl := pl) (thn (he.run pins s σ H _ I h) fun u s1 ⟨x, H1, I1, rx, a, dx, fs, ex, ea, l, q⟩ => ?_) ht
  subst ex
  obtain rfl : u = Value.ref a := rx
  refine getmeth_ok I1 ea c hm l ?_
  refine PySem.W.callWith_K (first := [.ref a]) (h₀ := X.base) I.ok.mod.kin hm.kp (thn (ha.run pos pins s1 σ H1 _ I1 q) fun us s2 ⟨vs, H2, I2, r, q2⟩ => ⟨I2.kIn, ?_⟩) hst hpl
  exact run_gr (us := .ref a :: us) (vs := .ref a :: vs) G hgd hr hx I2 (.cons rfl r) q2
theorem pe_gm0 {pl : Sem Bool} (F : GM γ X.prog X.w X.K X.mg X.base C m k sp) (c : Cls X.K C) (hgd : γ = true → X.A.guards = some []) (hr : Room k X.A) (hx : Passes (L2.CX X.prog X.w) X E) (he : PE X o ta)
    (ht : eval (.Call (.Attribute o m apos) [] [] pos) X.env = (do
      let ov ← eval o X.env
      standAt apos.atName
      let (f, first) ← holding [ov] (getMethod ov m pl)
      callWith pos f first (backTo pos (starEach [] X.env)) (backToKw pos (keywordEach [] X.env))) := by rfl) :
    PE X (.Call (.Attribute o m apos) [] [] pos) (tGM C m sp E ta tNil) := by
  obtain ⟨f, hm, G⟩ := F.ex
  refine ⟨fun pins s σ H Q I h => ?_⟩
  refine PySem.W.methodCall_KW (pl := pl) (thn (he.run pins s σ H _ I h) fun u s1 ⟨x, H1, I1, rx, a, dx, fs, ex, ea, l, q⟩ => ?_) ht
  subst ex
  obtain rfl : u = Value.ref a := rx
  refine getmeth_ok I1 ea c hm l ?_
  exact PySem.W.callWith_K0 (first := [.ref a]) I1.kIn hm.kp (run_gr (us := [.ref a]) (vs := [.ref a]) G hgd hr hx I1 (.cons rfl .nil) q)
theorem run_gk {f : Addr} {pins : List (Addr × Obj)} {σ : L2.St} {H : Hp} {s : Shared} {Q : VK} {us : List Value} {vs : List V} (M : Mk X.K C f) (F : GR γ X.prog X.w X.K X.mg X.base k f sp) (hgd : γ = true → X.A.guards = some []) (hr : Room (k + 1) X.A)
    (hx : Passes (L2.CX X.prog X.w) X E) (I : Inv X pins σ H s) (r : Vals vs us)
    (h : ∀ x dx, H x = none → H dx = none → dx ≠ x → sp (.ref x :: vs) (upd (upd H dx (.own x)) x (.ins C dx [])) (fun v H2 => v = .non ∧ Q (.ref x) H2) E) :
    wpAny (model X.prog X.w) X.A (call (.ref C) us) (EP X pins σ Q) X.xe s := by
  have hq := h (s.heap.objs.size + 1) s.heap.objs.size (I.hok.fresh (Nat.le_succ _)) (I.hok.fresh (Nat.le_refl _)) (Nat.ne_of_lt (Nat.lt_succ_self _))
  have I2 := Inv.made (C := C) I
  have r2 : Vals (V.ref (s.heap.objs.size + 1) :: vs) (Value.ref (s.heap.objs.size + 1) :: us) := .cons rfl r
  refine wpAny_call (make_map (f := f) I.kIn M.makes M.init (beq_iff_eq.mp M.fn) (codeAny_mono (F _ X.stack _ _ (Value.ref (s.heap.objs.size + 1) :: us) _ _ E hgd (hr.make C us []) (I2.env0.make C us []) r2 hq) fun r s' hq' => ?_))
  cases r with
  | error e => exact hx pins σ _ _ e s' I2 hq'
  | ok fl =>
    cases fl with
    | ret u =>
      obtain ⟨v, H', I3, rv, ev, q3⟩ := I2.after hq'
      subst ev
      exact ⟨rv, ⟨V.ref (s.heap.objs.size + 1), H', I3, rfl, q3⟩⟩
    | next => exact False.elim hq'
    | brk => exact False.elim hq'
    | cont => exact False.elim hq'
theorem pe_gk (F : GK γ X.prog X.w X.K X.mg X.base x C k sp) (hgd : γ = true → X.A.guards = some []) (hr : Room (k + 1) X.A) (hg : Gl X x) (hx : Passes (L2.CX X.prog X.w) X E) (ha : PA X (e :: es) t)
    (hdb : (x == ("__debug__" : Str)) = false := by decide) (he : starEach (e :: es) X.env = (false, eval e X.env) :: starEach es X.env := by rfl) (hpl : (backTo pos (starEach es X.env)).any (·.1) = false := by rfl) :
    PE X (.Call (.Name x p) (e :: es) [] pos) (tGK C sp E t) := by
  obtain ⟨f, M, hm, G⟩ := F.ex
  refine ⟨fun pins s σ H Q I h => ?_⟩
  refine wpAny_Call_Name_kw (ld_glob I hg hm ?_ hdb)
  refine PySem.W.callWith_K (h₀ := X.base) I.ok.mod.kin M.kp (thn (ha.run pos pins s σ H _ I h) fun us s1 ⟨vs, H1, I1, r, q⟩ => ⟨I1.kIn, ?_⟩) he hpl
  exact run_gk M G hgd hr hx I1 r q
theorem pe_gk0 (F : GK γ X.prog X.w X.K X.mg X.base x C k sp) (hgd : γ = true → X.A.guards = some []) (hr : Room (k + 1) X.A) (hg : Gl X x) (hx : Passes (L2.CX X.prog X.w) X E)
    (hdb : (x == ("__debug__" : Str)) = false := by decide) : PE X (.Call (.Name x p) [] [] pos) (tGK C sp E tNil) := by
  obtain ⟨f, M, hm, G⟩ := F.ex
  refine ⟨fun pins s σ H Q I h => ?_⟩
  refine wpAny_Call_Name_kw (ld_glob I hg hm ?_ hdb)
  exact PySem.W.callWith_K0 I.kIn M.kp (run_gk (us := []) M G hgd hr hx I .nil h)
/-- e.m, m a property -/
theorem pe_gp (F : GP γ X.prog X.w X.K X.mg X.base C m k sp) (c : Cls X.K C) (hgd : γ = true → X.A.guards = some []) (hr : Room (k + 1) X.A) (he : PE X e ta) (hab : attributeBase e m X.env (eval e X.env) = eval e X.env) : PE X (.Attribute e m pos) (tGP C sp E0 ta) := by
  obtain ⟨pa, g, hp, G⟩ := F.ex
  refine ⟨fun pins s σ H Q I h => ?_⟩
  refine attr_of hab (thn (he.run pins s σ H _ I h) fun u s1 ⟨x, H1, I1, rx, a, dx, fs, ex, ea, q⟩ => ?_)
  subst ex
  obtain rfl : u = Value.ref a := rx
  obtain ⟨mA, O, _, _, _, _⟩ := ins_get I1.hok ea
  obtain ⟨od, J, _⟩ := O.look
  obtain ⟨rest, hrec⟩ := hp.rec_
  have I2 := I1.tok (s1.toks + 1)
  have hc : (PySem.W.clsIn X.K C).isSome = true := by
    obtain ⟨cd, hc, _⟩ := PySem.W.any_some c.hd
    rw [hc]
    rfl
  refine PySem.W.get_bind I1.kIn J (PySem.W.plainGet_of (c.get m)).1 (PySem.W.findObj_data hc hp.at_ hp.get hp.tak) (PySem.W.plainGet_of (c.get m)).2 (wpAny_call (PySem.W.prop_get (s := { s1 with toks := s1.toks + 1 }) I1.kIn hrec ?_))
  refine codeAny_mono (G X.A.in1 X.stack { s1 with toks := s1.toks + 1 } H1 [.ref a] [.ref a] Q E0 hgd hr.in1 I2.env0.in1 (.cons rfl .nil) q) fun r s' hq => ?_
  cases r with
  | error er => exact False.elim (passL (X := X.nox) pins σ H1 { s1 with toks := s1.toks + 1 } er s' (I2.wish _) hq)
  | ok fl =>
    cases fl with
    | ret u =>
      obtain ⟨v, H', I3, rv, q3⟩ := I2.after hq
      show wpAny _ _ (handedOut u) _ _ _
      rw [PySem.W.handedOut_of (handed_of rv)]
      exact wpAny_pure ⟨v, H', I3, rv, q3⟩
    | next => exact False.elim hq
    | brk => exact False.elim hq
    | cont => exact False.elim hq
end
section
variable {ta : TE} {t : TA} {σ : L2.St} {H : Hp} {Q : VK} {C a dx : Addr} {m : Str} {sp : Sp} {E : XK} {fs : List (Str × V)}
theorem rd_gm (h : ta σ H fun x H1 => ∃ a dx fs, x = .ref a ∧ H1 a = some (.ins C dx fs) ∧ fs.lookup m = none ∧ t σ H1 fun vs H2 => sp (x :: vs) H2 Q E) : tGM C m sp E ta t σ H Q := h
theorem rd_gk (h : t σ H fun vs H1 => ∀ x dx, H1 x = none → H1 dx = none → dx ≠ x → sp (.ref x :: vs) (upd (upd H1 dx (.own x)) x (.ins C dx [])) (fun v H2 => v = .non ∧ Q (.ref x) H2) E) : tGK C sp E t σ H Q := h
theorem rd_gp (h : ta σ H fun x H1 => ∃ a dx fs, x = .ref a ∧ H1 a = some (.ins C dx fs) ∧ sp [x] H1 Q E) : tGP C sp E ta σ H Q := h
theorem rd_ins1 {P : Prop} (e : H a = some (.ins C dx fs)) (h : P) : ∃ a' dx' fs', V.ref a = .ref a' ∧ H a' = some (.ins C dx' fs') ∧ P := ⟨a, dx, fs, rfl, e, h⟩
end
end Z
/-! ### own errors raised -/
namespace Z
open PySem PySem.Spec PyProof.Rows L2
/-- an own error class without __init__ -/
structure XOwn (K : PySem.W.Frag) (mg : Str → Option Value) (x : Str) (C : Addr) : Prop where
  exc : ∃ bm, ExcBaseFacts "ValueError" "ValueError.__new__" "ValueError.__init__" bm ∧ PySem.W.excIn K C bm "ValueError.__new__" = true
  g : mg x = some (.ref C)
  kp : PySem.W.keepIn K (.ref C) = true
  sb : PySem.W.subIn K (.ref C) (.type "BaseException") = some true
  ty : PySem.W.typeIn K (.ref C) = some (.type "type")
/-- an own error class whose __init__ says super().__init__(text + repr(..)) -/
structure XSup (P : Program) (K : PySem.W.Frag) (mg : Str → Option Value) (x : Str) (C : Addr) (fld : Str) : Prop where
  ex : ∃ f cda cc fd txt, SupC P K mg C f cda cc fd txt fld ∧ L2.Binds K fd ["self", fld] []
  g : mg x = some (.ref C)
section
variable {X : Cx} {x m : Str} {C : Addr} {j : Nat} {p p2 pos : Pos} {e : Expr} {te : TE} {fld : Str}
theorem pmk_xown (T : XOwn X.K X.mg x C) (hg : Gl X x) (hdb : (x == ("__debug__" : Str)) = false := by decide) : PMk X (.Call (.Name x p) [.Constant (.str m) j p2] [] pos) (fun _ H Q => Q (.ref C) none H) := by
  obtain ⟨bm, F, h⟩ := T.exc
  exact pmk_own F h T.g T.kp (raises_own T.sb T.ty) hg hdb
theorem pmk_xsup (T : XSup X.prog X.K X.mg x C fld) (hr : Room 2 X.A) (hg : Gl X x) (he : PE X e te) (hdb : (x == ("__debug__" : Str)) = false := by decide)
    (hs : starEach [e] X.env = (false, eval e X.env) :: starEach [] X.env := by rfl) (hpl : (backTo pos (starEach [] X.env)).any (·.1) = false := by rfl) :
    PMk X (.Call (.Name x p) [e] [] pos) (tMkO C (sp_sup C fld) [] (tCons te tNil)) := by
  obtain ⟨f, cda, cc, fd, txt, S, hb⟩ := T.ex
  exact pmk_oex (k := 1) S.oex S.xinit S.tinit (fn_sup (CX := L2.CX X.prog X.w) (k := 0) S |> fun F => ⟨F.len, fun A outer s H args us vs Q E hr => F.run A outer s H args us vs Q E (hr.mono (by decide))⟩) hr hb .nil passL hg T.g (pa_cons he pa_nil hs) hdb hs hpl
/-- the def's own wish about what it raises -/
theorem takeE {P : Program} {w : World} {K : PySem.W.Frag} {mg : Str → Option Value} {base : Heap} {N : List Str} {qual : Str} {scope : Scope} {f : Addr} {cd : Value} {A : Around} {outer : List Env} {s : Shared} {H : Hp} {E : XK} :
    Takes (cxOf (L2.CX P w) P w K mg base N qual scope f cd A outer s H E) (fun cls d _ H => E cls d H) := takes_of (E := E) rfl rfl rfl rfl
theorem passE {P : Program} {w : World} {K : PySem.W.Frag} {mg : Str → Option Value} {base : Heap} {N : List Str} {qual : Str} {scope : Scope} {f : Addr} {cd : Value} {A : Around} {outer : List Env} {s : Shared} {H : Hp} {E : XK} :
    Passes (L2.CX P w) (cxOf (L2.CX P w) P w K mg base N qual scope f cd A outer s H E) E := passes_call takeE fun _ _ _ _ h => h
end
theorem rd_sup {C : Addr} {fld z : Str} {H1 : Hp} {Q : XK} (hz : (reprText z).length ≤ 100000) (h : ∀ d, H1 d = none → Q (.ref C) (some d) (upd H1 d (.xd [(fld, .str z)]))) :
    [V.str z].length ≤ 1000 ∧ ∀ a, H1 a = none → sp_sup C fld (.ref a :: ([V.str z] ++ [])) (upd H1 a (exo a C none))
      (fun v H2 => v = .non ∧ ∃ (d : Addr) (fs : List (Str × V)), H2 a = some (exo a C (some d)) ∧ H2 d = some (exd d fs) ∧ H1 d = none ∧ Q (.ref C) (some d) (upd (del H2 a) d (.xd fs))) (fun _ _ _ => False) := by
  refine ⟨by simp, fun a ha => ⟨a, z, rfl, hz, upd_same, fun dx hdx dne => ⟨rfl, dx, [(fld, .str z)], upd_same, ?_, ?_, ?_⟩⟩⟩
  · rw [upd_ne dne, upd_same]
  · rw [upd_ne dne] at hdx; exact hdx
  · have hd1 : H1 dx = none := by rw [upd_ne dne] at hdx; exact hdx
    have e : upd (del (upd (upd (upd H1 a (exo a C none)) dx (exd dx [(fld, .str z)])) a (exo a C (some dx))) a) dx (.xd [(fld, .str z)]) = upd H1 dx (.xd [(fld, .str z)]) := by
      funext b
      by_cases hb : b = dx
      · rw [hb, upd_same, upd_same]
      · rw [upd_ne hb, upd_ne hb]
        by_cases hba : b = a
        · rw [hba, del_same, ha]
        · rw [del_ne hba, upd_ne hba, upd_ne hb, upd_ne hba]
    rw [e]
    exact h dx hd1
end Z
namespace Z
open PySem PySem.Spec PyProof.Rows L2
theorem rd_mko {C : Addr} {sp : Sp} {dvs : List V} {ta : TA} {σ : L2.St} {H : Hp} {Q : XK} (h : ta σ H fun vs H1 => vs.length ≤ 1000 ∧ ∀ a, H1 a = none → sp (.ref a :: (vs ++ dvs)) (upd H1 a (exo a C none))
  (fun v H2 => v = .non ∧ ∃ (d : Addr) (fs : List (Str × V)), H2 a = some (exo a C (some d)) ∧ H2 d = some (exd d fs) ∧ H1 d = none ∧ Q (.ref C) (some d) (upd (del H2 a) d (.xd fs))) (fun _ _ _ => False)) : tMkO C sp dvs ta σ H Q := h
end Z
/-! ### for over a list or a tuple, whichever it is -/
namespace Z
open PySem PySem.Spec PyProof.Rows L2
section
variable {X : Cx} {tg : Expr}
def iLT (K : PySem.W.Frag) (tl : TE) : TI := fun σ H R => tl σ H fun x H1 => ∃ a, x = .ref a ∧ (((∃ xs, SqL K H1 a xs) ∧ R (Itl K a) H1) ∨ ((∃ xs, SqT K H1 a xs) ∧ R (Itt K a) H1))
theorem pi_lt {l : Expr} {tl : TE} (hl : PE X l tl) : PI X tg l (iLT X.K tl) := by
  refine ⟨fun pins s σ H R I h => ?_⟩
  refine thn (hl.run pins s σ H _ I h) fun v s1 ⟨x, H1, I1, r1, q1⟩ => ?_
  obtain ⟨a, rfl, q⟩ := q1
  obtain rfl : v = Value.ref a := r1
  rcases q with ⟨hq, q⟩ | ⟨hq, q⟩
  · obtain ⟨xs, hq⟩ := hq
    obtain ⟨its, rv, p, hz⟩ := I1.list hq
    refine wpAny_pyIter_list p.isList ?_
    refine ⟨s1.heap.objs.size, [s1.heap.objs.size], _, _, H1, rfl, I1.kept (t' := s1.toks) fun b o e => Heap.get?_push_of_some _ e, turn_list a _, ⟨_, Heap.get?_push_size _ rfl, rfl, rfl⟩, fun b hb => ?_, q⟩
    obtain rfl : b = s1.heap.objs.size := by simpa using hb
    exact I1.fpOk (Nat.le_refl _) (I1.hok.fresh (Nat.le_refl _))
  · obtain ⟨xs, hq⟩ := hq
    obtain ⟨its, rv, p, hz⟩ := I1.tuple hq
    refine wpAny_pyIter_tuple (show s1.heap.IsTuple a its.toArray from p) ?_
    refine ⟨s1.heap.objs.size, [s1.heap.objs.size], _, _, H1, rfl, I1.kept (t' := s1.toks) fun b o e => Heap.get?_push_of_some _ e, turn_tuple a _, ⟨_, Heap.get?_push_size _ rfl, rfl, rfl⟩, fun b hb => ?_, q⟩
    obtain rfl : b = s1.heap.objs.size := by simpa using hb
    exact I1.fpOk (Nat.le_refl _) (I1.hok.fresh (Nat.le_refl _))
end
section
variable {g : TG} {tb : TS} {D : Ends} {σ : L2.St} {H : Hp} {K : PySem.W.Frag} {a : Addr} {xs : List V} {tl : TE} {R : It → Hp → Prop}
theorem rd_ilt (h : tl σ H fun x H1 => ∃ a, x = .ref a ∧ (((∃ xs, SqL K H1 a xs) ∧ R (Itl K a) H1) ∨ ((∃ xs, SqT K H1 a xs) ∧ R (Itt K a) H1))) : iLT K tl σ H R := h
/-- .. over the same items, a list or a tuple -/
theorem rd_forlt (e : SqL K H a xs ∨ SqT K H a xs) (Pv : Nat → L2.St → Hp → Prop) (h0 : Pv 0 σ H) (hG : ∀ i σ H', Pv i σ H' → (SqL K H a xs → SqL K H' a xs) ∧ (SqT K H a xs → SqT K H' a xs))
    (hs : ∀ i x σ H', i < xs.length → xs[i]? = some x → Pv i σ H' → g x σ H' fun σ2 H2 => tb { D with nx := Pv (i + 1), ct := Pv (i + 1), bk := D.nx } σ2 H2) (hd : ∀ σ H', Pv xs.length σ H' → D.nx σ H') :
    ∃ a', V.ref a = .ref a' ∧ (((∃ xs, SqL K H a' xs) ∧ ForG g tb D σ (Itl K a') H) ∨ ((∃ xs, SqT K H a' xs) ∧ ForG g tb D σ (Itt K a') H)) := by
  rcases e with e | e
  · refine ⟨a, rfl, .inl ⟨⟨xs, e⟩, for_it walk_list Pv h0 (fun i σ H' _ p => (hG i σ H' p).1 e) (fun i x σ H1 H2 hi p y => ?_) hd⟩⟩
    obtain ⟨rfl, hx⟩ := y
    exact hs i x σ _ hi hx p
  · refine ⟨a, rfl, .inr ⟨⟨xs, e⟩, for_it walk_tup Pv h0 (fun i σ H' _ p => (hG i σ H' p).2 e) (fun i x σ H1 H2 hi p y => ?_) hd⟩⟩
    obtain ⟨rfl, hx⟩ := y
    exact hs i x σ _ hi hx p
end
end Z
namespace Z
open PySem PySem.Spec PyProof.Rows L2
theorem rd_dpop {td ty : TE} {σ : L2.St} {H : Hp} {Q : VK} (h : td σ H fun x H1 => ∃ a, x = .ref a ∧ IsD H1 a ∧ ty σ H1 fun y H2 => ∃ kvs k v, H2 a = some (.dK kvs) ∧ y = kV k ∧ valV kvs k = some v ∧ Q v (upd H2 a (.dK (dropK kvs k)))) : tDPop1 td ty σ H Q := h
theorem rd_isd {H : Hp} {a : Addr} {kvs : List (L2.Key × V)} {P : Addr → Prop} (e : H a = some (.dK kvs)) (h : P a) : ∃ a', V.ref a = .ref a' ∧ IsD H a' ∧ P a' := ⟨a, rfl, .inl ⟨kvs, .inl e⟩, h⟩
theorem rd_fldaug {K : PySem.W.Frag} {ta tv : TE} {rd : V → V → Hp → VK → Prop} {f : Str} {D : Ends} {σ : L2.St} {H : Hp} (h : ta σ H fun x H1 => ∃ a C dx fs v, x = .ref a ∧ H1 a = some (.ins C dx fs) ∧ Cls K C ∧ NoAttr K C f ∧ fs.lookup f = some v ∧
  tv σ H1 fun y H2 => rd v y H2 fun z H3 => ∃ dx' fs', H3 a = some (.ins C dx' fs') ∧ fs'.length < 1000 ∧ D.nx σ (upd H3 a (.ins C dx' (putF f z fs')))) : sFldAug K ta tv rd f D σ H := h
end Z
namespace Z
open PySem PySem.Spec PyProof.Rows L2
theorem rd_dnew {σ : L2.St} {H : Hp} {Q : VK} (h : ∀ p, H p = none → Q (.ref p) (upd H p (.dK []))) : tDNewK σ H Q := h
section
variable {Λ : List (Addr × Str)} {S : List Addr} {K : PySem.W.Frag} {H H' : Hp} {a : Addr} {xs : List V}
theorem SqL_keep (h : SqL K H a xs) (f : Fr Λ S H H') (n : ∀ o, H a = some o → a ∉ S) : SqL K H' a xs := h.elim (fun h => .inl (h.elim (fun h => .inl (f.at h (n _ h) rfl)) fun ⟨o, h⟩ => .inr ⟨o, f.at h (n _ h) rfl⟩)) fun h => .inr h
theorem SqT_keep (h : SqT K H a xs) (f : Fr Λ S H H') (n : ∀ o, H a = some o → a ∉ S) : SqT K H' a xs := h.elim (fun h => .inl (h.elim (fun h => .inl (f.at h (n _ h) rfl)) fun ⟨o, h⟩ => .inr ⟨o, f.at h (n _ h) rfl⟩)) fun h => .inr h
end
end Z
/-! ### *d, d a dict: its keys -/
namespace Z
open PySem PySem.Spec PyProof.Rows L2
section
variable {X : Cx} {pins : List (Addr × Obj)} {σ : L2.St} {H : Hp} {s : Shared}
theorem star_dict {a : Addr} {kvs : List (L2.Key × V)} {E : Value → Shared → Prop} {Q : List Value → Shared → Prop} (hc : X.calm = true) (I : Inv X pins σ H s) (h : H a = some (.dK kvs)) (hQ : ∀ us s', Inv X pins σ H s' → Vals (kvs.map fun kv => kV kv.1) us → Q us s') :
    PySem.W.StarOf (model X.prog X.w) X.A E (.ref a) Q s := by
  obtain ⟨z, lo, vs, rel, dd⟩ := dk_rd I.hok (.inl h)
  obtain ⟨ep, hat⟩ := dd.dictAt
  have ek : (kvs.map fun kv => kV kv.1) = vs.map fun p => kV p.1 := by
    have e := congrArg (List.map kV) rel.keys
    rw [List.map_map, List.map_map] at e
    exact e
  have hT : s.TypeIs (.ref a) "dict" := by
    obtain ⟨t1, _⟩ := isD_at I (.inl ⟨kvs, .inl h⟩)
    exact t1
  unfold PySem.W.StarOf notIterableAtAll
  refine wpAny_bind (wpAny_specialOf hT PySem.F.slot_dict_iter.lookup (wpAny_pure ⟨rfl, ?_⟩))
  refine PySem.W.kdu_collect (PySem.W.kdl_dict (knd := mixKind X.prog X.w) (kvs := vs) (ep := ep) lo) (I.ok.hd hc) hat (by rw [← rel.length]; exact z) fun h' tk acc hk hacc => ?_
  have hv : Vals (vs.map fun p => kV p.1) acc.toList := keys_at (by rw [Array.length_toList]; exact hacc.1) fun j v e => hacc.2 j v (by rw [← Array.getElem?_toList]; exact e)
  exact hQ acc.toList _ (I.kept hk) (by rw [ek]; exact hv)
end
def tStarD (te : TE) (t : TA) : TA := fun σ H Q => te σ H fun x H1 => ∃ p kvs, x = V.ref p ∧ H1 p = some (.dK kvs) ∧ t σ H1 fun ys H2 => Q ((kvs.map fun kv => kV kv.1) ++ ys) H2
theorem pa_starD {X : Cx} {e : Expr} {es : List Expr} {te : TE} {t : TA} {p : Pos} (hc : X.calm = true) (he : PE X e te) (hr : PA X es t) (hs : starEach (.Starred e p :: es) X.env = (true, eval e X.env) :: starEach es X.env := by rfl) : PA X (.Starred e p :: es) (tStarD te t) := by
  refine ⟨fun pos pins s σ H Q I h => ?_⟩
  refine PySem.W.items_star (thn (he.run pins s σ H _ I h) fun v s1 ⟨y, H1, I1, ry, a, kvs, ey, hx, q⟩ => ?_) hs
  subst ey
  obtain rfl : v = Value.ref a := ry
  refine star_dict hc I1 hx fun us s2 I2 rv => ?_
  exact thn (hr.run pos pins s2 σ H1 _ I2 q) fun ws s3 ⟨vs, H3, I3, r3, q3⟩ => ⟨_ ++ vs, H3, I3, rv.append r3, q3⟩
section
variable {te : TE} {t : TA} {σ : L2.St} {H : Hp} {Q : VK} {Ql : List V → Hp → Prop} {a : Addr} {xs : List V} {kvs : List (L2.Key × V)} {K : PySem.W.Frag} {wi : TI} {g : TG} {tt : TT} {tk tv : TE} {vs : List Nat}
theorem rd_stard (h : te σ H fun x H1 => ∃ p kvs, x = V.ref p ∧ H1 p = some (.dK kvs) ∧ t σ H1 fun ys H2 => Ql ((kvs.map fun kv => kV kv.1) ++ ys) H2) : tStarD te t σ H Ql := h
theorem rd_stard1 {P : List (L2.Key × V) → Prop} (e : H a = some (.dK kvs)) (h : P kvs) : ∃ p kvs', V.ref a = .ref p ∧ H p = some (.dK kvs') ∧ P kvs' := ⟨a, kvs, rfl, e, h⟩
theorem rd_star (h : te σ H fun x H1 => ∃ p xs, x = V.ref p ∧ (SqT K H1 p xs ∨ SqL K H1 p xs) ∧ t σ H1 fun ys H2 => Ql (xs ++ ys) H2) : StX.tStar K te t σ H Ql := h
theorem rd_star1 {P : List V → Prop} (e : H a = some (.lst xs)) (h : P xs) : ∃ p xs', V.ref a = .ref p ∧ (SqT K H p xs' ∨ SqL K H p xs') ∧ P xs' := ⟨a, xs, rfl, .inr (SqL.of e), h⟩
/-- what a dict comprehension is to show of an iterable -/
def DcG (g : TG) (tt : TT) (tk tv : TE) (vs : List Nat) (σ : L2.St) (Q : VK) (J : It) (H1 : Hp) : Prop := ∀ D, H1 D = none → ∃ W : Nat → Nat → Hp → Prop, (∃ m, W 0 m (L2.upd H1 D (.dK []))) ∧ ∀ i m H, W i m H →
  (J.stop i H ∧ Q (.ref D) H) ∨ (J.go i H ∧ ∃ Nx : Hp → Prop, (∀ H', Nx H' → ∃ m', m' < m ∧ W (i + 1) m' H') ∧ ∀ x H', J.yld i H x H' → g x (wipe σ vs) H' fun σ2 H2 => wipe σ2 vs = wipe σ vs ∧ tt σ2 H2 fun b H3 =>
    if b = true then tk σ2 H3 fun y H4 => tv σ2 H4 fun z H5 => ∃ kvs k, y = kV k ∧ H5 D = some (.dK kvs) ∧ kvs.length < sizeLine ∧ Nx (L2.upd H5 D (.dK (putK kvs k z))) else Nx H3)
theorem rd_dc' (h : wi σ H (DcG g tt tk tv vs σ Q)) : tDc wi g tt tk tv vs σ H Q := h
theorem rd_dcl (e : H a = some (.lst xs)) (h : ∀ D, H D = none → ∃ Pv : Nat → Hp → Prop, Pv 0 (L2.upd H D (.dK [])) ∧ (∀ i H', Pv i H' → H' a = some (.lst xs)) ∧
    (∀ i x H', i < xs.length → xs[i]? = some x → Pv i H' → g x (wipe σ vs) H' fun σ2 H2 => wipe σ2 vs = wipe σ vs ∧ tt σ2 H2 fun b H3 => if b = true then tk σ2 H3 fun y H4 => tv σ2 H4 fun z H5 => ∃ kvs k, y = kV k ∧ H5 D = some (.dK kvs) ∧ kvs.length < sizeLine ∧ Pv (i + 1) (L2.upd H5 D (.dK (putK kvs k z))) else Pv (i + 1) H3) ∧
    ∀ H', Pv xs.length H' → Q (.ref D) H') : ∃ a', V.ref a = .ref a' ∧ (∃ xs, SqL K H a' xs) ∧ DcG g tt tk tv vs σ Q (Itl K a') H := by
  refine ⟨a, rfl, ⟨xs, SqL.of e⟩, fun D hD => ?_⟩
  obtain ⟨Pv, h0, hG, hs, hd⟩ := h D hD
  refine ⟨fun i m H => m = xs.length - i ∧ i ≤ xs.length ∧ Pv i H, ⟨xs.length, by simp, Nat.zero_le _, h0⟩, fun i m H' ⟨hm, hi, p⟩ => ?_⟩
  have q := hG i H' p
  by_cases hlt : i < xs.length
  · refine .inr ⟨⟨xs, xs[i], SqL.of q, by simp [hlt]⟩, Pv (i + 1), fun H2 h2 => ⟨xs.length - (i + 1), by omega, rfl, by omega, h2⟩, fun x H2 y => ?_⟩
    obtain ⟨rfl, hx⟩ := (walk_list (K := K) (a := a) (xs := xs)).yields i H' x H2 hlt (SqL.of q) y
    exact hs i x _ hlt hx p
  · obtain rfl : i = xs.length := by omega
    exact .inl ⟨⟨xs, SqL.of q, Nat.le_refl _⟩, hd H' p⟩
end
end Z
/-! ### y = {k: v for .. in ..} -/
namespace Z
open PySem PySem.Spec PyProof.Rows L2
theorem sw_trueD {kx vx : Expr} {gs : List Comprehension} {scope : Scope} {pos py : Pos} {y : Str} {l : Nat} {env : Env} (hk : env.scope.kind = .function) (hy : env.scope.names.lookup y = some .local) (hl : (py.line == pos.line) = true)
    (ha : (scope.names.any fun (n, k) => n == y && (k == .local || k == .cell)) = false) : swapsWith (.DictComp kx vx gs scope pos) (some (.Name y py)) l env = pure true := by
  have ky : env.kindOf y = some .local := hy
  have hb : env.blockKind = .function := by unfold Env.blockKind; rw [hk]; rfl
  unfold swapsWith
  simp only [hb, ky, ha, Expr.pos, hl]
  rfl
section
variable {X : Cx}
theorem ps_setDc {i : Nat} {y : Str} {py : Pos} {kx vx tg iter : Expr} {ifs : List Expr} {scope : Scope} {own : List (Str × Nat)} {pos spos : Pos} {wi : TI} {g : TG} {tt : TT} {tk tv : TE} (hc : X.calm = true) (hN : X.N.Nodup) (hy : X.N[i]? = some y) (hyl : X.env.scope.names.lookup y = some .local)
    (hsw : swapsWith (.DictComp kx vx [⟨tg, iter, ifs, 0⟩] scope pos) (some (.Name y py)) spos.line X.env = pure true) (hi : PI X tg iter wi) (ok : BlkOk X.N X.env.scope scope own)
    (hg : ∀ (s : Shared) (H : Hp) (C : Addr) (cl : List (Str × Addr)) (fp : List Addr), PG (X.blk s H scope (compEnvC scope cl C X.env) fp) tg g) (ht : ∀ (s : Shared) (H : Hp) (C : Addr) (cl : List (Str × Addr)) (fp : List Addr), PTs (X.blk s H scope (compEnvC scope cl C X.env) fp) ifs tt)
    (hk : ∀ (s : Shared) (H : Hp) (C : Addr) (cl : List (Str × Addr)) (fp : List Addr), PE (X.blk s H scope (compEnvC scope cl C X.env) fp) kx tk)
    (he : ∀ (s : Shared) (H : Hp) (C : Addr) (cl : List (Str × Addr)) (fp : List Addr), PE (X.blk s H scope (compEnvC scope cl C X.env) fp) vx tv) (hs : ∀ x, foldedSetIterable iter X.env x = pure x := by intro _; rfl) :
    PS X (.Assign [.Name y py] (.DictComp kx vx [⟨tg, iter, ifs, 0⟩] scope pos) spos) (tAsg (tDc wi g tt tk tv (own.map (·.2))) (gName i)) := by
  refine ⟨fun pins s σ H D I h => ?_⟩
  rw [exec_Assign_Name_used _ _ _ _ hsw]
  refine wpAny_bind (wpAny_standAt (wpAny_bind ?_))
  show wpAny _ X.A (do let _ ← comprehension (.DictComp kx vx [⟨tg, iter, ifs, 0⟩] scope pos) scope X.env (firstIterPos [⟨tg, iter, ifs, 0⟩] pos) newDict false (eval iter X.env) (some (assign (.Name y py) X.env))) _ _ s
  have h : tDc wi g tt tk tv (own.map (·.2)) σ H (fun x H1 => gName i x σ H1 D.nx) := h
  refine wpAny_bind (thn (dc_core (Qf := fun _ s' => SP X pins D .next s') hc hN I hi ok hg ht hk he hs h fun L C s' m H' I' q hn f => ?_) fun _ s' hq => wpAny_pure (wpAny_pure hq))
  show wpAny _ _ (assign (.Name y py) X.env (.ref L)) _ _ _
  refine wpAny_assign_Name (store_ok2 (v := V.ref L) I' hN hy (.inl hyl) rfl (fun s2 I2 ⟨a, sb, ha⟩ => ?_) (.inr hyl))
  obtain ⟨f0, f1, f2, f3, f4, f5⟩ := f
  have haC : C ≠ a := ha.elim (fun z => by rw [z]; exact f1) fun z e => f4 y a z e.symm
  exact ⟨m, hn.sameBut sb haC, fun h3 sb3 => ⟨_, H', I2.turned (t' := s2.toks) (fun b o hb e => (sb3.2 b hb).trans e) f0 f1 f3 f4 f5, q⟩⟩
end
end Z
namespace Z
open PySem PySem.Spec PyProof.Rows L2
/-- what a context takes by its own wish, told by its fields -/
theorem passY {Y : Cx} {E : XK} {E₁ : Value → Shared → Prop} (hs : Y.stack = Y.env :: Y.outer) (hf : Y.env.frame = some Y.env.locals) (hex : Y.ex = [])
    (hx : Y.xe = fun e s' => wpAny (model Y.prog Y.w) Y.A (leaving Y.env e) (fun _ s'' => L2.CX Y.prog Y.w Y.outer Y.H_0 Y.s_0 E e s'') E₁ s') : Passes (L2.CX Y.prog Y.w) Y E :=
  passes_call (takes_of (X := Y) (E := E) hs hf hex hx) fun _ _ _ _ h => h
end Z

end
section
local macro_rules | `(tactic| walk_at "ne") => `(tactic| first
  | assumption
  | (refine Z.ne_sym ?_; assumption)
  | (refine' Z.ne_new ?ka ?kb; (case ka => assumption); (case kb => walk_at "h"))
  | (refine' Z.ne_sym (Z.ne_new ?ka ?kb); (case ka => assumption); (case kb => walk_at "h"))
  | ((with_reducible refine' Z.ne_nw ?ka ?kb ?kc); (case ka => assumption); (case kb => walk_at "h"); (case kc => rfl))
  | ((with_reducible refine' Z.ne_sym (Z.ne_nw ?ka ?kb ?kc)); (case ka => assumption); (case kb => walk_at "h"); (case kc => rfl))
  | exact L2.ne_of (by assumption) (by assumption) (by intro z; cases z)
  | exact Z.ne_sym (L2.ne_of (by assumption) (by assumption) (by intro z; cases z)))
local macro_rules | `(tactic| walk_at "nm") => `(tactic| first
  | exact Z.nm_nil
  | exact Z.nm_cons (by walk_at "ne") (by walk_at "nm"))
local macro_rules | `(tactic| walk_at "h") => `(tactic| first
  | assumption
  | exact L2.upd_same
  | ((with_reducible refine' Eq.trans (L2.upd_ne ?ka) ?kb); (case ka => walk_at "ne"); (case kb => walk_at "h"))
  | ((with_reducible refine' Z.Fr.at ?ka ?kb ?kc ?kd); (case ka => assumption); (case kb => walk_at "h"); (case kc => walk_at "nm"); (case kd => rfl))
  | ((with_reducible refine' Z.Fr.tup ?ka ?kb); (case ka => assumption); (case kb => walk_at "h")))
local macro_rules | `(tactic| walk_at "free") => `(tactic| first
  | assumption
  | exact Z.Nw.of (by assumption)
  | ((with_reducible refine' Z.Fr.free ?ka ?kb); (case ka => assumption); (case kb => walk_at "free")))
local macro_rules | `(tactic| walk_at "ms") => `(tactic| first
  | exact Or.inl List.mem_cons_self
  | exact Or.inl (List.mem_cons_of_mem _ List.mem_cons_self)
  | (left; simp; done)
  | (right; walk_at "free"))
local macro_rules | `(tactic| walk_at "sub") => `(tactic| first
  | exact Z.sub_nil
  | ((with_reducible refine' Z.sub_cons ?ka ?kb); (case ka => walk_at "ms"); (case kb => walk_at "sub")))
local macro_rules | `(tactic| walk_at "fr") => `(tactic| first
  | assumption
  | exact Z.Fr.refl _ _
  | ((with_reducible refine' Z.Fr.new ?ka ?kb); (case kb => assumption); (case ka => walk_at "fr"))
  | ((with_reducible refine' Z.Fr.upd ?ka ?kb ?kc ?kd ?ke); (case kb => walk_at "ms"); (case kc => walk_at "h"); (case kd => rfl); (case ke => rfl); (case ka => walk_at "fr"))
  | ((with_reducible refine' Z.Fr.step ?ka ?kb ?kc); (case ka => assumption); (case kb => walk_at "fr"); (case kc => walk_at "sub")))
local macro_rules | `(tactic| walk_at "dt") => `(tactic| first
  | assumption
  | (refine Z.DT.new ?_ (by assumption); walk_at "dt")
  | (refine Z.DTs.new ?_ (by assumption); walk_at "dt")
  | (refine' Z.DT.wr ?ka ?kb ?kc; (case kb => walk_at "h"); (case kc => rfl); (case ka => walk_at "dt"))
  | (refine' Z.DTs.wr ?ka ?kb ?kc; (case kb => walk_at "h"); (case kc => rfl); (case ka => walk_at "dt"))
  | (refine' Z.DT.fr ?ka ?kb; (case kb => assumption); (case ka => walk_at "dt"))
  | (refine' Z.DTs.fr ?ka ?kb; (case kb => assumption); (case ka => walk_at "dt")))
local macro_rules | `(tactic| walk_at "len") => `(tactic| first
  | exact Z.lt_ok (Nat.le_of_ble_eq_true (by with_unfolding_all rfl))
  | exact Z.le_ok (Nat.le_of_ble_eq_true (by with_unfolding_all rfl))
  | (apply Z.lt_ok; (try simp only [List.length_append, List.length_cons, List.length_nil, List.length_map, List.length_set, List.length_eraseIdx] at *); omega)
  | (apply Z.le_ok; (try simp only [List.length_append, List.length_cons, List.length_nil, List.length_map, List.length_set, List.length_eraseIdx] at *); omega))
local macro_rules | `(tactic| walk_at "r") => `(tactic| first
  | (with_reducible refine Z.rd_seq ?_)
  | (with_reducible refine Z.rd_asg ?_)
  | (with_reducible refine Z.rd_gname ?_)
  | (with_reducible refine Z.rd_ifs ?_)
  | (with_reducible refine Z.rd_next ?_)
  | (with_reducible refine Z.rd_and ?_)
  | (with_reducible refine Z.rd_or ?_)
  | (with_reducible refine Z.rd_not ?_)
  | (with_reducible refine Z.rd_test ?_)
  | (with_reducible refine Z.rd_tb ?_)
  | (with_reducible refine Z.rd_bl ?_)
  | (with_reducible refine Z.rd_op ?_)
  | (with_reducible refine Z.rd_c ?_)
  | ((with_reducible refine' Z.rd_var ?ka ?_); (case ka => with_unfolding_all rfl))
  | (with_reducible refine Z.rd_ret ?_)
  | (with_reducible refine Z.rd_retn ?_)
  | (with_reducible refine Z.rd_drop ?_)
  | (with_reducible refine Z.rd_nil ?_)
  | (with_reducible refine Z.rd_cons ?_)
  | (with_reducible refine Z.rd_cb ?_)
  | (with_reducible refine Z.rd_call ?_)
  | (with_reducible refine Z.rd_dget0 ?_)
  | ((with_reducible refine' Z.rd_dget1 ?ka ?kb ?_); (case ka => walk_at "h"); (case kb => with_unfolding_all rfl))
  | (with_reducible refine Z.rd_dput0 ?_)
  | ((with_reducible refine' Z.rd_dput1 ?ka ?kb ?_); (case ka => walk_at "h"); (case kb => walk_at "len"))
  | (with_reducible refine Z.rd_eqi ?_)
  | (with_reducible refine Z.rd_eqs ?_)
  | (with_reducible refine Z.rd_nei ?_)
  | (with_reducible refine Z.rd_nes ?_)
  | (with_reducible refine Z.rd_i0 ?_)
  | (with_reducible refine Z.rd_lst ?_)
  | (with_reducible refine Z.rd_tup ?_)
  | (with_reducible refine Z.rd_ifx ?_)
  | (with_reducible refine Z.rd_bm ?_)
  | (with_reducible refine Z.rd_bm0 ?_)
  | ((with_reducible refine' Z.rd_nil2 ?ka ?kb ?_); (case ka => walk_at "h"); (case kb => walk_at "h"))
  | ((with_reducible refine' Z.rd_nil2T ?ka ?kb ?_); (case ka => walk_at "h"); (case kb => walk_at "h"))
  | (with_reducible refine Z.rd_int1 ?_)
  | ((with_reducible refine' Z.rd_size ?ka ?_); (case ka => walk_at "len"))
  | ((with_reducible refine' Z.rd_tylist ?ka ?_); (case ka => walk_at "h"))
  | ((with_reducible refine' Z.rd_i ?ka ?_); (case ka => walk_at "num"))
  | ((with_reducible refine' Z.rd_append ?ka ?kb ?_); (case ka => walk_at "h"); (case kb => walk_at "len"))
  | (with_reducible refine Z.rd_for' ?_)
  | (with_reducible refine Z.rd_lc' ?_)
  | (with_reducible refine Z.rd_un ?_)
  | (with_reducible refine Z.rd_gm ?_)
  | (with_reducible refine Z.rd_xk ?_)
  | (with_reducible refine Z.rd_stard ?_)
  | ((with_reducible refine' Z.rd_stard1 ?ka ?_); (case ka => walk_at "h"))
  | (with_reducible refine Z.rd_star ?_)
  | ((with_reducible refine' Z.rd_star1 ?ka ?_); (case ka => walk_at "h"))
  | (with_reducible refine Z.rd_dc' ?_)
  | (with_reducible refine Z.rd_dnew ?_)
  | (with_reducible refine Z.rd_dpop ?_)
  | ((with_reducible refine' Z.rd_isd ?ka ?_); (case ka => walk_at "h"))
  | (with_reducible refine Z.rd_fldaug ?_)
  | (with_reducible refine Z.rd_ilt ?_)
  | (with_reducible refine Z.rd_mko ?_)
  | (with_reducible refine Z.rd_gk ?_)
  | (with_reducible refine Z.rd_gp ?_)
  | ((with_reducible refine' Z.rd_ins1 ?ka ?_); (case ka => walk_at "h"))
  | (with_reducible refine Z.rd_disp ?_)
  | (with_reducible refine Z.rd_pnil ?_)
  | (with_reducible refine Z.rd_pcons ?_)
  | (with_reducible refine Z.rd_m1 ?_)
  | (with_reducible refine Z.rd_isstr ?_)
  | (with_reducible refine Z.rd_sl ?_)
  | (with_reducible refine Z.rd_nopart ?_)
  | (with_reducible refine Z.rd_part ?_)
  | (with_reducible refine Z.rd_part1 ?_)
  | (with_reducible refine Z.rd_u ?_)
  | (with_reducible refine Z.rd_ilist ?_)
  | (with_reducible refine Z.rd_itup ?_)
  | (with_reducible refine Z.rd_istr ?_)
  | (with_reducible refine Z.rd_irng1 ?_)
  | (with_reducible refine Z.rd_yes ?_)
  | (with_reducible refine Z.rd_sfld0 ?_)
  | (with_reducible refine Z.rd_fld0 ?_)
  | (with_reducible refine Z.rd_din ?_)
  | (with_reducible refine Z.rd_dnotin ?_)
  | (with_reducible refine Z.rd_isn ?_)
  | (with_reducible refine Z.rd_notn ?_)
  | (with_reducible refine Z.rd_par ?_)
  | (with_reducible refine Z.rd_par1 ?_)
  | (with_reducible refine Z.rd_gnil ?_)
  | (with_reducible refine Z.rd_gcons ?_)
  | (with_reducible refine Z.rd_chain ?_)
  | (with_reducible refine Z.rd_andv ?_)
  | (with_reducible refine Z.rd_orv ?_)
  | (with_reducible refine Z.rd_notv ?_)
  | (with_reducible refine Z.rd_meth ?_)
  | (with_reducible refine Z.rd_while ?_)
  | ((with_reducible refine' Z.rd_ixl ?ka ?kb ?_); (case ka => walk_at "h"); (case kb => walk_at "ati"))
  | ((with_reducible refine' Z.rd_ixt ?ka ?kb ?_); (case ka => walk_at "h"); (case kb => walk_at "ati"))
  | ((with_reducible refine' Z.rd_len ?ka ?_); (case ka => walk_at "h"))
  | ((with_reducible refine' Z.rd_lens ?ka ?_); (case ka => walk_at "h"))
  | ((with_reducible refine' Z.rd_lent ?ka ?_); (case ka => walk_at "h"))
  | ((with_reducible refine' Z.rd_lstof ?ka ?_); (case ka => walk_at "h"))
  | ((with_reducible refine' Z.rd_tupof ?ka ?_); (case ka => walk_at "h"))
  | ((with_reducible refine' Z.rd_sfld1 ?ka ?kb ?kc ?kd ?_); (case ka => walk_at "h"); (case kb => assumption); (case kc => assumption); (case kd => (first | (with_unfolding_all decide) | exact Nat.le_of_ble_eq_true (by with_unfolding_all rfl))))
  | ((with_reducible refine' Z.rd_fld1 ?ka ?kb ?kc ?kd ?_); (case ka => walk_at "h"); (case kb => assumption); (case kc => assumption); (case kd => with_unfolding_all rfl))
  | ((with_reducible refine' Z.rd_din1 ?ka ?_); (case ka => walk_at "h"))
  | ((with_reducible refine' Z.rd_gtup ?ka ?kb ?_); (case ka => walk_at "h"); (case kb => with_unfolding_all rfl))
  | ((with_reducible refine' Z.rd_catl ?ka ?kb ?kc ?_); (case ka => walk_at "h"); (case kb => walk_at "h"); (case kc => walk_at "len"))
  | ((with_reducible refine' Z.rd_meth1 ?ka ?kb ?_); (case ka => walk_at "h"); (case kb => with_unfolding_all rfl))
  | ((with_reducible refine' Z.rd_addstr ?ka ?_); (case ka => walk_at "len")))
local macro_rules | `(tactic| walk_at "ati") => `(tactic| first
  | assumption
  | (with_unfolding_all rfl)
  | exact L2.atI_nat (by assumption)
  | exact L2.atI_nat (by with_unfolding_all rfl)
  | exact L2.atI_last _ _)
local macro_rules | `(tactic| walk_at "rr") => `(tactic| repeat (walk_at "r"))
local macro_rules | `(tactic| walk_at "num") => `(tactic| first
  | (with_unfolding_all decide)
  | (show (_ : Int) ≠ 0; omega)
  | (show (_ : Int) ≠ 0 ∧ _ < 1073741824; exact ⟨by omega, by omega⟩)
  | (show (0 : Int) ≤ _ ∧ _ ≤ (1000000 : Int) ∧ _; exact ⟨by decide, by decide, by omega⟩)
  | (show (-(2 ^ 64) < (_ : Int) ∧ _ < 2 ^ 64) ∨ _; (first | (left; exact ⟨by omega, by omega⟩) | (right; exact ⟨by omega, by omega⟩)))
  | omega)
namespace Z
open PySem PySem.Spec PyProof.Rows L2
def top (i : Nat) : Stmt := PySem.Challenge.pw_calltakers_k65_places_seen.main.body.getD i (.Pass ⟨0, 0, 0, 0⟩)
abbrev s__law_take : Stmt := top 21
abbrev n__law_take : List Str := ["state", "size", "found"]
theorem sc__law_take : FnScope n__law_take ["state", "size"] (defScope s__law_take) := ⟨rfl, rfl, rfl, by decide +kernel, rfl, by decide +kernel, by decide +kernel⟩
abbrev s__law_mixed : Stmt := top 20
abbrev n__law_mixed : List Str := ["state", "turn", "found", "prime", "blend", "cell"]
theorem sc__law_mixed : FnScope n__law_mixed ["state"] (defScope s__law_mixed) := ⟨rfl, rfl, rfl, by decide +kernel, rfl, by decide +kernel, by decide +kernel⟩
abbrev s__law_pick : Stmt := top 22
abbrev n__law_pick : List Str := ["state", "some"]
theorem sc__law_pick : FnScope n__law_pick ["state", "some"] (defScope s__law_pick) := ⟨rfl, rfl, rfl, by decide +kernel, rfl, by decide +kernel, by decide +kernel⟩
def stK (gr cl : Addr) (r t : Int) : List (L2.Key × V) := [(.inr "great", .ref gr), (.inr "cells", .ref cl), (.inr "rest", .int r), (.inr "turn", .int t)]
theorem put_rest (gr cl : Addr) (r t x : Int) : putK (stK gr cl r t) (.inr "rest") (.int x) = stK gr cl x t := rfl
theorem put_turn (gr cl : Addr) (r t x : Int) : putK (stK gr cl r t) (.inr "turn") (.int x) = stK gr cl r x := rfl
/-- the draws' state at st, its lists at gr and cl; n more turns may be asked -/
def Dr (st gr cl : Addr) (n : Nat) (H : Hp) : Prop := ∃ (gs cs : List Int) (r t : Int), H st = some (.dK (stK gr cl r t)) ∧ H gr = some (.lst (gs.map V.int)) ∧ H cl = some (.lst (cs.map V.int)) ∧ gr ≠ cl ∧ 0 ≤ t ∧ t + (n : Int) ≤ 2 ^ 40
theorem Dr.less {st gr cl : Addr} {n m : Nat} {H : Hp} (h : Dr st gr cl n H) (l : m ≤ n) : Dr st gr cl m H := by
  obtain ⟨gs, cs, r, t, h1, h2, h3, gc, t0, tn⟩ := h
  exact ⟨gs, cs, r, t, h1, h2, h3, gc, t0, by omega⟩
/-- where nothing of it changed -/
theorem Dr.keep {Λ : List (Addr × Str)} {st gr cl : Addr} {n : Nat} {S : List Addr} {H H' : Hp} (h : Dr st gr cl n H) (f : Fr Λ S H H') (a : st ∉ S) (b : gr ∉ S) (c : cl ∉ S) : Dr st gr cl n H' := by
  obtain ⟨gs, cs, r, t, h1, h2, h3, gc, t0, tn⟩ := h
  exact ⟨gs, cs, r, t, f.at h1 a rfl, f.at h2 b rfl, f.at h3 c rfl, gc, t0, tn⟩
theorem Dr.new {st gr cl : Addr} {n : Nat} {H : Hp} {p : Addr} {o : HO} (h : Dr st gr cl n H) (hp : H p = none) : Dr st gr cl n (L2.upd H p o) := h.keep ((Fr.refl (Λ := []) [] H).new hp) nm_nil nm_nil nm_nil
theorem Dr.grlist {st gr cl : Addr} {n : Nat} {H : Hp} (h : Dr st gr cl n H) : ∃ xs, H gr = some (.lst xs) := by
  obtain ⟨gs, cs, r, t, h1, h2, h3, gc, t0, tn⟩ := h
  exact ⟨_, h2⟩
theorem Dr.cllist {st gr cl : Addr} {n : Nat} {H : Hp} (h : Dr st gr cl n H) : ∃ xs, H cl = some (.lst xs) := by
  obtain ⟨gs, cs, r, t, h1, h2, h3, gc, t0, tn⟩ := h
  exact ⟨_, h3⟩
theorem Dr.stdict {st gr cl : Addr} {n : Nat} {H : Hp} (h : Dr st gr cl n H) : ∃ xs, H st = some (.dK xs) := by
  obtain ⟨gs, cs, r, t, h1, h2, h3, gc, t0, tn⟩ := h
  exact ⟨_, h1⟩
def sp_mixed (Λ : List (Addr × Str)) : Sp := fun vs H Q _ => ∃ (st gr cl : Addr) (n : Nat), vs = [.ref st] ∧ Dr st gr cl (n + 1) H ∧ ∀ (r : Int) H', Dr st gr cl n H' → Fr Λ [st] H H' → Q (.int r) H'
def sp_take (Λ : List (Addr × Str)) : Sp := fun vs H Q _ => ∃ (st gr cl : Addr) (n : Nat) (b : Int), vs = [.ref st, .int b] ∧ 0 < b ∧ b < 1073741824 ∧ Dr st gr cl (n + 1) H ∧ ∀ (r : Int) H', 0 ≤ r → r < b → Dr st gr cl n H' → Fr Λ [st, gr] H H' → Q (.int r) H'
def sp_pick (Λ : List (Addr × Str)) : Sp := fun vs H Q _ => ∃ (st gr cl : Addr) (n : Nat) (x : V), vs = [.ref st, x] ∧ Dr st gr cl (n + 1) H ∧
  ((∃ a xs, x = .ref a ∧ H a = some (.lst xs) ∧ a ≠ gr ∧ xs ≠ [] ∧ xs.length ≤ 1000 ∧ ∀ y H', y ∈ xs → Dr st gr cl n H' → Fr Λ [st, gr] H H' → Q y H') ∨
   ∃ z : Str, x = .str z ∧ z.cps.toList ≠ [] ∧ z.cps.toList.length ≤ 1000 ∧ ∀ c H', c ∈ z.cps.toList → Dr st gr cl n H' → Fr Λ [st, gr] H H' → Q (.str ⟨#[c]⟩) H')
structure Tx (K : PySem.W.Frag) (mg : Str → Option Value) : Prop where
  b_int : mg "int" = none
  b_list : mg "list" = none
  b_len : mg "len" = none
  b_range : mg "range" = none
structure Gx0 (γ : Bool) (Λ : List (Addr × Str)) (P : Program) (w : World) (K : PySem.W.Frag) (mg : Str → Option Value) (base : Heap) : Prop where
  law_mixed : GD γ P w K mg base "_law_mixed" ["state"] 1 (sp_mixed Λ)
structure Gx (γ : Bool) (Λ : List (Addr × Str)) (P : Program) (w : World) (K : PySem.W.Frag) (mg : Str → Option Value) (base : Heap) : Prop where
  law_mixed : GD γ P w K mg base "_law_mixed" ["state"] 1 (sp_mixed Λ)
  law_take : GD γ P w K mg base "_law_take" ["state", "size"] 2 (sp_take Λ)
theorem atI_of {xs : List V} {r : Int} (h0 : 0 ≤ r) (h1 : r < (xs.length : Int)) : ∃ v, atI xs r = some v ∧ v ∈ xs := by
  obtain ⟨k, rfl⟩ : ∃ k : Nat, r = (k : Int) := ⟨r.toNat, by omega⟩
  have hk : k < xs.length := by omega
  exact ⟨xs[k], atI_nat (by simp [hk]), by simp⟩
theorem atI_of' {xs : List Nat} {r : Int} (h0 : 0 ≤ r) (h1 : r < (xs.length : Int)) : ∃ v, atI xs r = some v ∧ v ∈ xs := by
  obtain ⟨k, rfl⟩ : ∃ k : Nat, r = (k : Int) := ⟨r.toNat, by omega⟩
  have hk : k < xs.length := by omega
  exact ⟨xs[k], atI_nat (by simp [hk]), by simp⟩
section
variable {γ : Bool} {Λ : List (Addr × Str)} {P : Program} {w : World} {K : PySem.W.Frag} {mg : Str → Option Value} {base : Heap}
theorem ok_mixed {f : Addr} {fd : FuncData} (F : Fun K "_law_mixed" "_law_mixed" s__law_mixed f fd) (T : Tx K mg) : GOk γ P w K mg base 1 f fd ["state"] (sp_mixed Λ) := by
  refine g_of F sc__law_mixed (fun vs H Q E h => ?_) (fun cdv A outer s H vs Q E hA hr h => ?_)
  · obtain ⟨st, gr, cl, n, rfl, _⟩ := h
    rfl
  · obtain ⟨st, gr, cl, n, rfl, hD, k⟩ := h
    have hu := hu_of hr
    refine ⟨_, (pss_cons (ps_set (i := 1) sc__law_mixed.nd rfl (.inl rfl) (pe_op op_add (pe_dget hu (pv 0) pe_str (fun _ _ => rfl)) pe_int))
      (pss_cons (ps_dput hu (pv 0) pe_str (pv 1) rfl)
      (pss_cons (ps_set (i := 2) sc__law_mixed.nd rfl (.inl rfl) pe_int)
      (pss_cons (ps_for (passes_of rfl) rfl (pi_list (pe_lst (pa_cons pe_int (pa_cons pe_int (pa_cons pe_int (pa_cons pe_int (pa_cons pe_int (pa_cons pe_int pa_nil)))))))) (pg_name (i := 3) sc__law_mixed.nd rfl (.inl rfl))
      (pss_cons (ps_set (i := 4) sc__law_mixed.nd rfl (.inl rfl) (pe_op op_add (pe_op op_mul pe_int (pv 1)) (pe_op op_fdivN (pv 3) pe_int)))
      (pss_cons (ps_for (passes_of rfl) rfl (pi_list (pe_dget hu (pv 0) pe_str (fun _ _ => rfl))) (pg_name (i := 5) sc__law_mixed.nd rfl (.inl rfl))
      (pss_one (ps_set (i := 4) sc__law_mixed.nd rfl (.inl rfl) (pe_op op_modN (pe_callTy call_int1 (by rfl) T.b_int (by decide +kernel) (pa_cons (pe_op op_add (pe_op op_mul (pv 4) pe_int) (pv 5)) pa_nil)) (pv 3)))))
      (pss_one (ps_set (i := 2) sc__law_mixed.nd rfl (.inl rfl) (pe_op op_add (pe_op op_mul (pv 2) pe_int) (pe_op op_modN (pe_callTy call_int1 (by rfl) T.b_int (by decide +kernel) (pa_cons (pe_op op_pow (pv 4) pe_int) pa_nil)) (pv 3))))))))
      (pss_one (ps_ret (pv 2))))))), ?_⟩
    obtain ⟨gs, cs, r, t, h1, h2, h3, gc, t0, tn⟩ := id hD
    walk_at "rr"
    rw [put_turn]
    intro p hp
    refine rd_forl upd_same (fun i σ H' => (∃ (fo : Int) (vp vb vc : Option V), σ = [some (.ref st), some (.int (t + 1)), some (.int fo), vp, vb, vc]) ∧ H' = L2.upd (L2.upd H st (.dK (stK gr cl r (t + 1)))) p (.lst [V.int 2147483629, V.int 2147483587, V.int 2147483579, V.int 2147483563, V.int 2147483549, V.int 2147483543])) ⟨⟨0, none, none, none, rfl⟩, rfl⟩ ?_ ?_ ?_
    · rintro i σ H' ⟨_, rfl⟩
      exact upd_same
    · rintro i x σ H1 hi hx ⟨⟨fo, vp, vb, vc, rfl⟩, rfl⟩
      obtain ⟨q, rfl, q0, q1⟩ : ∃ q : Int, x = .int q ∧ 0 < q ∧ q < 2147483648 := by
        have hm := List.mem_of_getElem? hx
        simp only [List.mem_cons, List.not_mem_nil, or_false] at hm
        rcases hm with rfl | rfl | rfl | rfl | rfl | rfl <;> exact ⟨_, rfl, by decide, by decide⟩
      walk_at "rr"
      refine rd_forl (xs := cs.map V.int) (by walk_at "h") (fun i σ H' => (∃ (bl : Int) (vc : Option V), σ = [some (.ref st), some (.int (t + 1)), some (.int fo), some (.int q), some (.int bl), vc] ∧ bl.natAbs < 2 ^ 64) ∧ H' = L2.upd (L2.upd H st (.dK (stK gr cl r (t + 1)))) p (.lst [V.int 2147483629, V.int 2147483587, V.int 2147483579, V.int 2147483563, V.int 2147483549, V.int 2147483543])) ⟨⟨_, vc, rfl, ?_⟩, rfl⟩ ?_ ?_ ?_
      · have hdv : q.fdiv 13 ≤ q := by
          rw [Int.fdiv_eq_ediv_of_nonneg _ (by decide)]; omega
        have hdv0 : 0 ≤ q.fdiv 13 := by
          rw [Int.fdiv_eq_ediv_of_nonneg _ (by decide)]; omega
        omega
      · rintro i σ H' ⟨_, rfl⟩
        walk_at "h"
      · rintro j y σ H2 hj hy ⟨⟨bl, vc, rfl, hbl⟩, rfl⟩
        obtain ⟨c, rfl⟩ : ∃ c : Int, y = .int c := by
          have hm := List.mem_of_getElem? hy
          obtain ⟨c, _, rfl⟩ := List.mem_map.mp hm
          exact ⟨c, rfl⟩
        walk_at "rr"
        refine ⟨⟨_, _, rfl, ?_⟩, rfl⟩
        have a1 := Int.fmod_nonneg_of_pos (bl * 48271 + c) q0
        have a2 := Int.fmod_lt_of_pos (bl * 48271 + c) q0
        omega
      · rintro σ H' ⟨⟨bl, vc, rfl, hbl⟩, rfl⟩
        walk_at "rr"
        exact ⟨⟨_, _, _, _, rfl⟩, rfl⟩
    · rintro σ H' ⟨⟨fo, vp, vb, vc, rfl⟩, rfl⟩
      walk_at "rr"
      exact k _ _ ⟨gs, cs, r, t + 1, by walk_at "h", by walk_at "h", by walk_at "h", gc, by omega, by omega⟩ (by walk_at "fr")
theorem ok_take {f : Addr} {fd : FuncData} (F : Fun K "_law_take" "_law_take" s__law_take f fd) (T : Tx K mg) (G : Gx0 γ Λ P w K mg base) : GOk γ P w K mg base 2 f fd ["state", "size"] (sp_take Λ) := by
  refine g_of F sc__law_take (fun vs H Q E h => ?_) (fun cdv A outer s H vs Q E hA hr h => ?_)
  · obtain ⟨st, gr, cl, n, b, rfl, _⟩ := h
    rfl
  · obtain ⟨st, gr, cl, n, b, rfl, hb0, hb1, hD, k⟩ := h
    have hu := hu_of hr
    refine ⟨_, (C8.pss_cut (ps_if (PW.pt (pw_and (pt_cmpR op_eq (pe_dget hu (pv 0) pe_str (fun _ _ => rfl)) pe_int (nomark _)) (pw_and1 (pt_cmpR (op_neNil hr.units0) (pe_dget hu (pv 0) pe_str (fun _ _ => rfl)) (pe_lst pa_nil) (nomark _)))))
      (pss_one (ps_dput hu (pv 0) pe_str (pe_bm PySem.F.plainAttrs_list PySem.F.slot_list_pop PySem.F.type_list_pop mt_popAt (pe_dget hu (pv 0) pe_str (fun _ _ => rfl)) (pa_cons pe_int pa_nil)) rfl))
      (pss_one (ps_if (pt_cmpR op_eq (pe_dget hu (pv 0) pe_str (fun _ _ => rfl)) pe_int (nomark _))
      (pss_one (ps_dput hu (pv 0) pe_str (pe_g G.law_mixed (by first | exact hA | exact fun z => nomatch z) (hr.mono (by first | decide | omega)) rfl passL (pa_cons (pv 0) pa_nil)) rfl))
      pss_nil)))
      (pss_cons (ps_set (i := 2) sc__law_take.nd rfl (.inl rfl) (pe_op op_modN (pe_callTy call_int1 (by rfl) T.b_int (by decide +kernel) (pa_cons (pe_dget hu (pv 0) pe_str (fun _ _ => rfl)) pa_nil)) (pv 1)))
      (pss_cons (ps_dput hu (pv 0) pe_str (pe_op op_fdivN (pe_dget hu (pv 0) pe_str (fun _ _ => rfl)) (pv 1)) rfl)
      (pss_one (ps_ret (pv 2)))))), ?_⟩
    obtain ⟨gs, cs, r, t, h1, h2, h3, gc, t0, tn⟩ := id hD
    refine rd_cut (fun σ H1 => σ = [some (.ref st), some (.int b), none] ∧ Dr st gr cl n H1 ∧ Fr Λ [st, gr] H H1) ?_ ?_
    · walk_at "rr"
      refine rd_ite (fun hr0 => ?_) (fun hr0 => ?_)
      · walk_at "rr"
        intro p hp
        walk_at "rr"
        refine rd_emptyt (fun hne => ?_) (fun he => ?_)
        · obtain ⟨g0, gs', rfl⟩ : ∃ g0 gs', gs = g0 :: gs' := by
            cases gs with
            | nil => exact absurd rfl hne
            | cons g0 gs' => exact ⟨g0, gs', rfl⟩
          walk_at "rr"
          refine rd_popAt (k := 0) (by walk_at "h") (by decide) rfl (by decide) rfl ?_
          walk_at "rr"
          rw [put_rest]
          exact ⟨rfl, ⟨gs', cs, g0, t, upd_same, by walk_at "h", by walk_at "h", gc, t0, by omega⟩, by walk_at "fr"⟩
        · walk_at "rr"
          refine rd_ite (fun _ => ?_) (fun h => absurd hr0 h)
          walk_at "rr"
          refine ⟨st, gr, cl, n, rfl, hD.new hp, fun r1 H1 hD1 hF1 => ?_⟩
          obtain ⟨gs, cs, r, t, g1, g2, g3, gc, t0, tn⟩ := hD1
          walk_at "rr"
          rw [put_rest]
          exact ⟨rfl, ⟨gs, cs, r1, t, upd_same, by walk_at "h", by walk_at "h", gc, t0, by omega⟩, by walk_at "fr"⟩
      · walk_at "rr"
        refine iteF ?_
        walk_at "rr"
        refine rd_ite (fun h => absurd h hr0) (fun h => ?_)
        walk_at "rr"
        exact ⟨rfl, hD.less (by omega), Fr.refl _ _⟩
    · rintro σ H1 ⟨rfl, ⟨gs, cs, r, t, g1, g2, g3, gc, t0, tn⟩, hF⟩
      walk_at "rr"
      rw [put_rest]
      exact k _ _ (Int.fmod_nonneg_of_pos _ hb0) (Int.fmod_lt_of_pos _ hb0) ⟨gs, cs, _, t, upd_same, by walk_at "h", by walk_at "h", gc, t0, tn⟩ (by walk_at "fr")
theorem ok_pick {f : Addr} {fd : FuncData} (F : Fun K "_law_pick" "_law_pick" s__law_pick f fd) (T : Tx K mg) (G : Gx γ Λ P w K mg base) : GOk γ P w K mg base 3 f fd ["state", "some"] (sp_pick Λ) := by
  refine g_of F sc__law_pick (fun vs H Q E h => ?_) (fun cdv A outer s H vs Q E hA hr h => ?_)
  · obtain ⟨st, gr, cl, n, x, rfl, _⟩ := h
    rfl
  · obtain ⟨st, gr, cl, n, x, rfl, hD, h⟩ := h
    have hu := hu_of hr
    refine ⟨_, (pss_one (ps_ret (pe_ix ix_seq (pv 1) (pe_g G.law_take (by first | exact hA | exact fun z => nomatch z) (hr.mono (by first | decide | omega)) rfl passL (pa_cons (pv 0) (pa_cons (pe_callB call_len (by rfl) T.b_len (by decide +kernel) (pa_cons (pv 1) pa_nil)) pa_nil))) (fun _ _ => rfl)))), ?_⟩
    obtain ⟨xd, hst⟩ := hD.stdict
    rcases h with ⟨a, xs, rfl, ha, hag, hne, hlen, k⟩ | ⟨z, rfl, hne, hlen, k⟩
    · walk_at "rr"
      have hp0 : 0 < xs.length := List.length_pos_iff.mpr hne
      refine ⟨st, gr, cl, n, _, rfl, by omega, by omega, hD, fun r H1 r0 r1 hD1 hF1 => ?_⟩
      obtain ⟨v, hv, hm⟩ := atI_of r0 r1
      exact .inl ⟨a, xs, r, v, rfl, rfl, SqL.of (by walk_at "h"), hv, k v H1 hm hD1 hF1⟩
    · walk_at "rr"
      have hp0 : 0 < z.cps.toList.length := List.length_pos_iff.mpr hne
      refine ⟨_, z.cps.toList.length, rfl, ⟨le_ok (by show z.cps.size ≤ _; rw [← Array.length_toList]; omega), by show _ = z.cps.size; rw [← Array.length_toList]⟩, ?_⟩
      refine ⟨st, gr, cl, n, _, rfl, by omega, by omega, hD, fun r H1 r0 r1 hD1 hF1 => ?_⟩
      obtain ⟨v, hv, hm⟩ := atI_of' r0 r1
      exact .inr (.inr ⟨z, r, v, rfl, rfl, le_ok (by show z.cps.size ≤ _; rw [← Array.length_toList]; omega), hv, k v H1 hm hD1 hF1⟩)
end
end Z

end
section
local macro_rules | `(tactic| walk_at "ne") => `(tactic| first
  | assumption
  | (refine Z.ne_sym ?_; assumption)
  | (refine' Z.ne_new ?ka ?kb; (case ka => assumption); (case kb => walk_at "h"))
  | (refine' Z.ne_sym (Z.ne_new ?ka ?kb); (case ka => assumption); (case kb => walk_at "h"))
  | ((with_reducible refine' Z.ne_nw ?ka ?kb ?kc); (case ka => assumption); (case kb => walk_at "h"); (case kc => rfl))
  | ((with_reducible refine' Z.ne_sym (Z.ne_nw ?ka ?kb ?kc)); (case ka => assumption); (case kb => walk_at "h"); (case kc => rfl))
  | exact L2.ne_of (by assumption) (by assumption) (by intro z; cases z)
  | exact Z.ne_sym (L2.ne_of (by assumption) (by assumption) (by intro z; cases z)))
local macro_rules | `(tactic| walk_at "nm") => `(tactic| first
  | exact Z.nm_nil
  | exact Z.nm_cons (by walk_at "ne") (by walk_at "nm"))
local macro_rules | `(tactic| walk_at "h") => `(tactic| first
  | assumption
  | exact L2.upd_same
  | ((with_reducible refine' Eq.trans (L2.upd_ne ?ka) ?kb); (case ka => walk_at "ne"); (case kb => walk_at "h"))
  | ((with_reducible refine' Z.Fr.at ?ka ?kb ?kc ?kd); (case ka => assumption); (case kb => walk_at "h"); (case kc => walk_at "nm"); (case kd => rfl))
  | ((with_reducible refine' Z.Fr.tup ?ka ?kb); (case ka => assumption); (case kb => walk_at "h")))
local macro_rules | `(tactic| walk_at "free") => `(tactic| first
  | assumption
  | exact Z.Nw.of (by assumption)
  | ((with_reducible refine' Z.Fr.free ?ka ?kb); (case ka => assumption); (case kb => walk_at "free")))
local macro_rules | `(tactic| walk_at "ms") => `(tactic| first
  | exact Or.inl List.mem_cons_self
  | exact Or.inl (List.mem_cons_of_mem _ List.mem_cons_self)
  | (left; simp; done)
  | (right; walk_at "free"))
local macro_rules | `(tactic| walk_at "sub") => `(tactic| first
  | exact Z.sub_nil
  | ((with_reducible refine' Z.sub_cons ?ka ?kb); (case ka => walk_at "ms"); (case kb => walk_at "sub")))
local macro_rules | `(tactic| walk_at "fr") => `(tactic| first
  | assumption
  | exact Z.Fr.refl _ _
  | ((with_reducible refine' Z.Fr.new ?ka ?kb); (case kb => assumption); (case ka => walk_at "fr"))
  | ((with_reducible refine' Z.Fr.upd ?ka ?kb ?kc ?kd ?ke); (case kb => walk_at "ms"); (case kc => walk_at "h"); (case kd => rfl); (case ke => rfl); (case ka => walk_at "fr"))
  | ((with_reducible refine' Z.Fr.step ?ka ?kb ?kc); (case ka => assumption); (case kb => walk_at "fr"); (case kc => walk_at "sub")))
local macro_rules | `(tactic| walk_at "dt") => `(tactic| first
  | assumption
  | (refine Z.DT.new ?_ (by assumption); walk_at "dt")
  | (refine Z.DTs.new ?_ (by assumption); walk_at "dt")
  | (refine' Z.DT.wr ?ka ?kb ?kc; (case kb => walk_at "h"); (case kc => rfl); (case ka => walk_at "dt"))
  | (refine' Z.DTs.wr ?ka ?kb ?kc; (case kb => walk_at "h"); (case kc => rfl); (case ka => walk_at "dt"))
  | (refine' Z.DT.fr ?ka ?kb; (case kb => assumption); (case ka => walk_at "dt"))
  | (refine' Z.DTs.fr ?ka ?kb; (case kb => assumption); (case ka => walk_at "dt")))
local macro_rules | `(tactic| walk_at "len") => `(tactic| first
  | exact Z.lt_ok (Nat.le_of_ble_eq_true (by with_unfolding_all rfl))
  | exact Z.le_ok (Nat.le_of_ble_eq_true (by with_unfolding_all rfl))
  | (apply Z.lt_ok; (try simp only [List.length_append, List.length_cons, List.length_nil, List.length_map, List.length_set, List.length_eraseIdx] at *); omega)
  | (apply Z.le_ok; (try simp only [List.length_append, List.length_cons, List.length_nil, List.length_map, List.length_set, List.length_eraseIdx] at *); omega))
local macro_rules | `(tactic| walk_at "r") => `(tactic| first
  | (with_reducible refine Z.rd_seq ?_)
  | (with_reducible refine Z.rd_asg ?_)
  | (with_reducible refine Z.rd_gname ?_)
  | (with_reducible refine Z.rd_ifs ?_)
  | (with_reducible refine Z.rd_next ?_)
  | (with_reducible refine Z.rd_and ?_)
  | (with_reducible refine Z.rd_or ?_)
  | (with_reducible refine Z.rd_not ?_)
  | (with_reducible refine Z.rd_test ?_)
  | (with_reducible refine Z.rd_tb ?_)
  | (with_reducible refine Z.rd_bl ?_)
  | (with_reducible refine Z.rd_op ?_)
  | (with_reducible refine Z.rd_c ?_)
  | ((with_reducible refine' Z.rd_var ?ka ?_); (case ka => with_unfolding_all rfl))
  | (with_reducible refine Z.rd_ret ?_)
  | (with_reducible refine Z.rd_retn ?_)
  | (with_reducible refine Z.rd_drop ?_)
  | (with_reducible refine Z.rd_nil ?_)
  | (with_reducible refine Z.rd_cons ?_)
  | (with_reducible refine Z.rd_cb ?_)
  | (with_reducible refine Z.rd_call ?_)
  | (with_reducible refine Z.rd_dget0 ?_)
  | ((with_reducible refine' Z.rd_dget1 ?ka ?kb ?_); (case ka => walk_at "h"); (case kb => with_unfolding_all rfl))
  | (with_reducible refine Z.rd_dput0 ?_)
  | ((with_reducible refine' Z.rd_dput1 ?ka ?kb ?_); (case ka => walk_at "h"); (case kb => walk_at "len"))
  | (with_reducible refine Z.rd_eqi ?_)
  | (with_reducible refine Z.rd_eqs ?_)
  | (with_reducible refine Z.rd_nei ?_)
  | (with_reducible refine Z.rd_nes ?_)
  | (with_reducible refine Z.rd_i0 ?_)
  | (with_reducible refine Z.rd_lst ?_)
  | (with_reducible refine Z.rd_tup ?_)
  | (with_reducible refine Z.rd_ifx ?_)
  | (with_reducible refine Z.rd_bm ?_)
  | (with_reducible refine Z.rd_bm0 ?_)
  | ((with_reducible refine' Z.rd_nil2 ?ka ?kb ?_); (case ka => walk_at "h"); (case kb => walk_at "h"))
  | ((with_reducible refine' Z.rd_nil2T ?ka ?kb ?_); (case ka => walk_at "h"); (case kb => walk_at "h"))
  | (with_reducible refine Z.rd_int1 ?_)
  | ((with_reducible refine' Z.rd_size ?ka ?_); (case ka => walk_at "len"))
  | ((with_reducible refine' Z.rd_tylist ?ka ?_); (case ka => walk_at "h"))
  | ((with_reducible refine' Z.rd_i ?ka ?_); (case ka => walk_at "num"))
  | ((with_reducible refine' Z.rd_append ?ka ?kb ?_); (case ka => walk_at "h"); (case kb => walk_at "len"))
  | (with_reducible refine Z.rd_for' ?_)
  | (with_reducible refine Z.rd_lc' ?_)
  | (with_reducible refine Z.rd_un ?_)
  | (with_reducible refine Z.rd_gm ?_)
  | (with_reducible refine Z.rd_xk ?_)
  | (with_reducible refine Z.rd_stard ?_)
  | ((with_reducible refine' Z.rd_stard1 ?ka ?_); (case ka => walk_at "h"))
  | (with_reducible refine Z.rd_star ?_)
  | ((with_reducible refine' Z.rd_star1 ?ka ?_); (case ka => walk_at "h"))
  | (with_reducible refine Z.rd_dc' ?_)
  | (with_reducible refine Z.rd_dnew ?_)
  | (with_reducible refine Z.rd_dpop ?_)
  | ((with_reducible refine' Z.rd_isd ?ka ?_); (case ka => walk_at "h"))
  | (with_reducible refine Z.rd_fldaug ?_)
  | (with_reducible refine Z.rd_ilt ?_)
  | (with_reducible refine Z.rd_mko ?_)
  | (with_reducible refine Z.rd_gk ?_)
  | (with_reducible refine Z.rd_gp ?_)
  | ((with_reducible refine' Z.rd_ins1 ?ka ?_); (case ka => walk_at "h"))
  | (with_reducible refine Z.rd_disp ?_)
  | (with_reducible refine Z.rd_pnil ?_)
  | (with_reducible refine Z.rd_pcons ?_)
  | (with_reducible refine Z.rd_m1 ?_)
  | (with_reducible refine Z.rd_isstr ?_)
  | (with_reducible refine Z.rd_sl ?_)
  | (with_reducible refine Z.rd_nopart ?_)
  | (with_reducible refine Z.rd_part ?_)
  | (with_reducible refine Z.rd_part1 ?_)
  | (with_reducible refine Z.rd_u ?_)
  | (with_reducible refine Z.rd_ilist ?_)
  | (with_reducible refine Z.rd_itup ?_)
  | (with_reducible refine Z.rd_istr ?_)
  | (with_reducible refine Z.rd_irng1 ?_)
  | (with_reducible refine Z.rd_yes ?_)
  | (with_reducible refine Z.rd_sfld0 ?_)
  | (with_reducible refine Z.rd_fld0 ?_)
  | (with_reducible refine Z.rd_din ?_)
  | (with_reducible refine Z.rd_dnotin ?_)
  | (with_reducible refine Z.rd_isn ?_)
  | (with_reducible refine Z.rd_notn ?_)
  | (with_reducible refine Z.rd_par ?_)
  | (with_reducible refine Z.rd_par1 ?_)
  | (with_reducible refine Z.rd_gnil ?_)
  | (with_reducible refine Z.rd_gcons ?_)
  | (with_reducible refine Z.rd_chain ?_)
  | (with_reducible refine Z.rd_andv ?_)
  | (with_reducible refine Z.rd_orv ?_)
  | (with_reducible refine Z.rd_notv ?_)
  | (with_reducible refine Z.rd_meth ?_)
  | (with_reducible refine Z.rd_while ?_)
  | ((with_reducible refine' Z.rd_ixl ?ka ?kb ?_); (case ka => walk_at "h"); (case kb => walk_at "ati"))
  | ((with_reducible refine' Z.rd_ixt ?ka ?kb ?_); (case ka => walk_at "h"); (case kb => walk_at "ati"))
  | ((with_reducible refine' Z.rd_len ?ka ?_); (case ka => walk_at "h"))
  | ((with_reducible refine' Z.rd_lens ?ka ?_); (case ka => walk_at "h"))
  | ((with_reducible refine' Z.rd_lent ?ka ?_); (case ka => walk_at "h"))
  | ((with_reducible refine' Z.rd_lstof ?ka ?_); (case ka => walk_at "h"))
  | ((with_reducible refine' Z.rd_tupof ?ka ?_); (case ka => walk_at "h"))
  | ((with_reducible refine' Z.rd_sfld1 ?ka ?kb ?kc ?kd ?_); (case ka => walk_at "h"); (case kb => assumption); (case kc => assumption); (case kd => (first | (with_unfolding_all decide) | exact Nat.le_of_ble_eq_true (by with_unfolding_all rfl))))
  | ((with_reducible refine' Z.rd_fld1 ?ka ?kb ?kc ?kd ?_); (case ka => walk_at "h"); (case kb => assumption); (case kc => assumption); (case kd => with_unfolding_all rfl))
  | ((with_reducible refine' Z.rd_din1 ?ka ?_); (case ka => walk_at "h"))
  | ((with_reducible refine' Z.rd_gtup ?ka ?kb ?_); (case ka => walk_at "h"); (case kb => with_unfolding_all rfl))
  | ((with_reducible refine' Z.rd_catl ?ka ?kb ?kc ?_); (case ka => walk_at "h"); (case kb => walk_at "h"); (case kc => walk_at "len"))
  | ((with_reducible refine' Z.rd_meth1 ?ka ?kb ?_); (case ka => walk_at "h"); (case kb => with_unfolding_all rfl))
  | ((with_reducible refine' Z.rd_addstr ?ka ?_); (case ka => walk_at "len")))
local macro_rules | `(tactic| walk_at "ati") => `(tactic| first
  | assumption
  | (with_unfolding_all rfl)
  | exact L2.atI_nat (by assumption)
  | exact L2.atI_nat (by with_unfolding_all rfl)
  | exact L2.atI_last _ _)
local macro_rules | `(tactic| walk_at "rr") => `(tactic| repeat (walk_at "r"))
local macro_rules | `(tactic| walk_at "num") => `(tactic| first
  | (with_unfolding_all decide)
  | (show (_ : Int) ≠ 0; omega)
  | (show (_ : Int) ≠ 0 ∧ _ < 1073741824; exact ⟨by omega, by omega⟩)
  | (show (0 : Int) ≤ _ ∧ _ ≤ (1000000 : Int) ∧ _; exact ⟨by decide, by decide, by omega⟩)
  | (show (-(2 ^ 64) < (_ : Int) ∧ _ < 2 ^ 64) ∨ _; (first | (left; exact ⟨by omega, by omega⟩) | (right; exact ⟨by omega, by omega⟩)))
  | omega)
namespace Z
open PySem PySem.Spec PyProof.Rows L2
abbrev s__law_value : Stmt := top 25
abbrev n__law_value : List Str := ["state", "deep", "way", "k"]
theorem sc__law_value : FnScope n__law_value ["state", "deep"] (defScope s__law_value) := ⟨rfl, rfl, rfl, by decide +kernel, rfl, by decide +kernel, by decide +kernel⟩
/-- data that is no tuple, small -/
def leafB : PyData → Bool
  | .none => true
  | .bool _ => true
  | .int i => decide (i.natAbs < 2 ^ 200)
  | .str x => decide (x.cps.size ≤ 40) && x.cps.all (· < 0x110000)
  | _ => false
/-- small data, tuples of at most two items nested at most n deep -/
inductive VL : Nat → PyData → Prop
  | leaf (n : Nat) (d : PyData) : leafB d = true → VL n d
  | tup (n : Nat) (ds : List PyData) : ds.length ≤ 2 → (∀ d ∈ ds, VL n d) → VL (n + 1) (.tuple ds)
def sp_value (Λ : List (Addr × Str)) (m : Nat) : Sp := fun vs H Q _ => ∃ (st gr cl : Addr) (n deep : Nat), vs = [.ref st, .int deep] ∧ deep < m ∧ Dr st gr cl (n + 4 * 3 ^ deep) H ∧ ∀ v d H', VL deep d → DT H' v d → Dr st gr cl n H' → Fr Λ [st, gr] H H' → Q v H'
structure G2 (γ : Bool) (Λ : List (Addr × Str)) (P : Program) (w : World) (K : PySem.W.Frag) (mg : Str → Option Value) (base : Heap) (m : Nat) : Prop where
  law_take : GD γ P w K mg base "_law_take" ["state", "size"] 2 (sp_take Λ)
  law_pick : GD γ P w K mg base "_law_pick" ["state", "some"] 3 (sp_pick Λ)
  law_value : GD γ P w K mg base "_law_value" ["state", "deep"] (3 + m) (sp_value Λ m)
structure T2 (K : PySem.W.Frag) (mg : Str → Option Value) : Prop where
  b_tuple : mg "tuple" = none
  b_range : mg "range" = none
theorem leaf_int {H : Hp} {i : Int} (h : i.natAbs < 2 ^ 200) : ∃ d, DT H (.int i) d ∧ leafB d = true := ⟨_, .int _, decide_eq_true h⟩
theorem leaf_str {H : Hp} {x : Str} (h : (decide (x.cps.size ≤ 40) && x.cps.all (· < 0x110000)) = true) : ∃ d, DT H (.str x) d ∧ leafB d = true := ⟨_, .str _, h⟩
section
variable {γ : Bool} {Λ : List (Addr × Str)} {P : Program} {w : World} {K : PySem.W.Frag} {mg : Str → Option Value} {base : Heap}
theorem ok_value {m : Nat} {f : Addr} {fd : FuncData} (F : Fun K "_law_value" "_law_value" s__law_value f fd) (T : T2 K mg) (G : G2 γ Λ P w K mg base m) : GOk γ P w K mg base (4 + m) f fd ["state", "deep"] (sp_value Λ (m + 1)) := by
  have e4 : 4 + m = (3 + m) + 1 := by omega
  rw [e4]
  refine g_of F sc__law_value (fun vs H Q E h => ?_) (fun cdv A outer s H vs Q E hA hr h => ?_)
  · obtain ⟨st, gr, cl, n, deep, rfl, _⟩ := h
    rfl
  · obtain ⟨st, gr, cl, n, deep, rfl, hdm, hD, k⟩ := h
    have hu := hu_of hr
    refine ⟨_, (pss_cons (ps_set (i := 2) sc__law_value.nd rfl (.inl rfl) (pe_g G.law_take (by first | exact hA | exact fun z => nomatch z) (hr.mono (by first | decide | omega)) rfl passL (pa_cons (pv 0) (pa_cons pe_int pa_nil))))
      (pss_cons (ps_if (pt_cmpR op_lt (pv 2) pe_int (nomark _))
      (pss_one (ps_ret (pe_g G.law_pick (by first | exact hA | exact fun z => nomatch z) (hr.mono (by first | decide | omega)) rfl passL (pa_cons (pv 0) (pa_cons (pe_lst (pa_cons pe_int (pa_cons pe_int (pa_cons pe_int (pa_cons pe_int (pa_cons (pe_un un_neg pe_int) (pa_cons pe_int (pa_cons pe_int (pa_cons (pe_op op_pow pe_int pe_int) pa_nil))))))))) pa_nil)))))
      pss_nil)
      (pss_cons (ps_if (pt_cmpR op_lt (pv 2) pe_int (nomark _))
      (pss_one (ps_ret (pe_g G.law_pick (by first | exact hA | exact fun z => nomatch z) (hr.mono (by first | decide | omega)) rfl passL (pa_cons (pv 0) (pa_cons (pe_lst (pa_cons pe_str (pa_cons pe_str (pa_cons pe_str (pa_cons pe_str (pa_cons pe_str (pa_cons pe_str (pa_cons pe_str (pa_cons pe_str (pa_cons pe_str (pa_cons pe_str pa_nil))))))))))) pa_nil)))))
      pss_nil)
      (pss_cons (ps_if (PW.pt (pw_or (pt_cmpR op_lt (pv 2) pe_int (nomark _)) (pw_or1 (pt_cmpR op_eq (pv 1) pe_int (nomark _)))))
      (pss_one (ps_ret (pe_g G.law_pick (by first | exact hA | exact fun z => nomatch z) (hr.mono (by first | decide | omega)) rfl passL (pa_cons (pv 0) (pa_cons (pe_lst (pa_cons pe_non (pa_cons pe_bl (pa_cons pe_bl (pa_cons pe_int (pa_cons pe_int (pa_cons pe_str pa_nil))))))) pa_nil)))))
      pss_nil)
      (pss_one (ps_ret (pe_callTy call_tuple_of (by rfl) T.b_tuple (by decide +kernel) (pa_cons (pe_lc (own := [("k", 3)]) (g := gName 3) (tt := tYes) rfl sc__law_value.nd (pi_range1 rfl T.b_range (pa_cons (pe_g G.law_take (by first | exact hA | exact fun z => nomatch z) (hr.mono (by first | decide | omega)) rfl passL (pa_cons (pv 0) (pa_cons pe_int pa_nil))) pa_nil)) (blkOk_by (own := [("k", 3)]) (N := n__law_value) (sc := defScope s__law_value) (by decide +kernel)) (fun _ _ _ _ _ => (pg_name (i := 3) sc__law_value.nd rfl (.inl rfl))) (fun _ _ _ _ _ => pts_nil) (fun _ _ _ _ _ => (pe_g G.law_value (by first | exact hA | exact fun z => nomatch z) (hr.mono (by first | decide | omega)) rfl passL (pa_cons (pv 0) (pa_cons (pe_op op_sub (pv 1) pe_int) pa_nil))))) pa_nil)))))))), ?_⟩
    obtain ⟨xd, hst⟩ := hD.stdict
    obtain ⟨xg, hgr⟩ := hD.grlist
    have hpow : 4 ≤ 4 * 3 ^ deep := by have := Nat.pow_pos (n := deep) (show 0 < 3 by decide); omega
    walk_at "rr"
    refine ⟨st, gr, cl, n + (4 * 3 ^ deep - 1), 8, rfl, by decide, by decide, hD.less (by omega), fun r H1 r0 r1 hD1 hF1 => ?_⟩
    obtain ⟨xg1, hgr1⟩ := hD1.grlist
    -- what a pick from a written list gives
    have leafy : ∀ (xs : List V) (H2 : Hp) (p : Addr), H1 p = none → H2 = L2.upd H1 p (.lst xs) → xs ≠ [] → xs.length ≤ 1000 → (∀ (y : V) (H : Hp), y ∈ xs → ∃ d, DT H y d ∧ leafB d = true) →
        (sp_pick Λ) [.ref st, .ref p] H2 Q E0 := by
      rintro xs H2 p hp rfl hne hlen hx
      refine ⟨st, gr, cl, n, _, rfl, (hD1.new hp).less (by omega), .inl ⟨p, xs, rfl, upd_same, by walk_at "ne", hne, hlen, fun y H3 hy hD3 hF3 => ?_⟩⟩
      obtain ⟨d, h1, h2⟩ := hx y H3 hy
      exact k y d H3 (.leaf _ _ h2) h1 hD3 (by walk_at "fr")
    walk_at "rr"
    refine rd_ite (fun hr2 => ?_) (fun hr2 => ?_)
    · walk_at "rr"
      intro p hp
      walk_at "rr"
      refine leafy _ _ p hp rfl (by simp) (by simp) fun y H hy => ?_
      simp only [List.mem_cons, List.not_mem_nil, or_false] at hy
      rcases hy with rfl | rfl | rfl | rfl | rfl | rfl | rfl | rfl <;> exact leaf_int (by decide)
    walk_at "rr"
    refine rd_ite (fun hr4 => ?_) (fun hr4 => ?_)
    · walk_at "rr"
      intro p hp
      walk_at "rr"
      refine leafy _ _ p hp rfl (by simp) (by simp) fun y H hy => ?_
      simp only [List.mem_cons, List.not_mem_nil, or_false] at hy
      rcases hy with rfl | rfl | rfl | rfl | rfl | rfl | rfl | rfl | rfl | rfl <;> exact leaf_str (by decide +kernel)
    -- the third way: one of the plain things
    have third : (r < 6 ∨ deep = 0) ∨ (¬ r < 6 ∧ deep ≠ 0) := by omega
    walk_at "rr"
    rcases third with hr6 | ⟨hr6, hdp⟩
    · have plain : ∀ (σ : L2.St) (Dn : Ends), Dn.rt = Q → σ[0]? = some (some (V.ref st)) → tRet (tCall (sp_pick Λ) [] E0 (tCons (tVar 0) (tCons (tLst (tCons (tC V.non) (tCons (tC (V.bl true)) (tCons (tC (V.bl false)) (tCons (tC (V.int 1)) (tCons (tC (V.int 0)) (tCons (tC (V.str (Str.ofString ""))) tNil))))))) tNil))) Dn σ H1 := by
        rintro σ Dn rfl e0
        refine rd_ret (rd_call (rd_cons (rd_var e0 (rd_cons (rd_lst ?_)))))
        walk_at "rr"
        intro p hp
        walk_at "rr"
        refine leafy _ _ p hp rfl (by simp) (by simp) fun y H hy => ?_
        simp only [List.mem_cons, List.not_mem_nil, or_false] at hy
        rcases hy with rfl | rfl | rfl | rfl | rfl | rfl
        · exact ⟨_, .non, rfl⟩
        · exact ⟨_, .bl _, rfl⟩
        · exact ⟨_, .bl _, rfl⟩
        · exact leaf_int (by decide)
        · exact leaf_int (by decide)
        · exact leaf_str (by decide +kernel)
      by_cases h6 : r < 6
      · rw [if_pos (decide_eq_true h6)]
        refine iteT ?_
        exact plain _ _ rfl rfl
      · rw [if_neg (by simpa using h6)]
        walk_at "rr"
        refine rd_ite (fun _ => ?_) (fun h => absurd (by omega) h)
        exact plain _ _ rfl rfl
    · rw [if_neg (by simpa using hr6)]
      walk_at "rr"
      refine rd_ite (fun h => absurd (by omega) hdp) (fun _ => ?_)
      obtain ⟨e, rfl⟩ : ∃ e, deep = e + 1 := ⟨deep - 1, by omega⟩
      have hpw : 4 * 3 ^ (e + 1) = 3 * (4 * 3 ^ e) := by rw [Nat.pow_succ]; omega
      rw [hpw] at hD hD1 hpow
      have hpow : 4 ≤ 4 * 3 ^ e := by have := Nat.pow_pos (n := e) (show 0 < 3 by decide); omega
      walk_at "rr"
      refine ⟨st, gr, cl, n + 2 * (4 * 3 ^ e), 3, rfl, by decide, by decide, hD1.less (by omega), fun r2 H2 r20 r21 hD2 hF2 => ?_⟩
      obtain ⟨xd2, hst2⟩ := hD2.stdict
      obtain ⟨xg2, hgr2⟩ := hD2.grlist
      walk_at "rr"
      obtain ⟨q, rfl⟩ : ∃ q : Nat, r2 = (q : Int) := ⟨r2.toNat, by omega⟩
      refine rd_lcr (n := q) rfl (by omega) fun D hD0 => ⟨fun i H' => ∃ acc ds, H' D = some (.lst acc) ∧ acc.length = i ∧ DTs H' acc ds ∧ (∀ d ∈ ds, VL e d) ∧ Dr st gr cl (n + (2 - i) * (4 * 3 ^ e)) H' ∧ Fr Λ [st, gr] H H',
        ⟨[], [], upd_same, rfl, .nil, fun _ h => absurd h (by simp), (hD2.new hD0).less (by omega), by walk_at "fr"⟩, ?_, ?_⟩
      · rintro i H3 hi ⟨acc, ds, ha, hl, hT, hv, hDr, hFr⟩
        have hD00 : Nw H D := hF1.free (hF2.free (Nw.of hD0))
        walk_at "rr"
        refine ⟨rfl, ?_⟩
        walk_at "rr"
        refine iteT ?_
        walk_at "rr"
        have hi2 : 2 - i = (2 - (i + 1)) + 1 := by omega
        rw [hi2, Nat.add_mul, Nat.one_mul] at hDr
        refine ⟨st, gr, cl, n + (2 - (i + 1)) * (4 * 3 ^ e), e, by rw [show (((e + 1 : Nat) : Int) - 1) = (e : Int) by omega]; rfl, by omega, hDr.less (by omega), fun v d H4 hvl hdt hD4 hF4 => ?_⟩
        have hD4' : H4 D = some (.lst acc) := by walk_at "h"
        obtain ⟨xc2, hcl2⟩ := hD2.cllist
        have hcD : cl ∉ [D] := nm_cons (ne_of_none hcl2 hD0) nm_nil
        exact ⟨acc, hD4', lt_ok (by omega), acc ++ [v], ds ++ [d], upd_same, by simp [hl], DTs.snoc ((hT.fr hF4).wr hD4' rfl) (hdt.wr hD4' rfl), fun d' hd' => (List.mem_append.mp hd').elim (hv d') fun z => by rw [List.mem_singleton.mp z]; exact hvl,
          hD4.keep ((Fr.refl (Λ := Λ) [D] H4).upd (.inl List.mem_cons_self) hD4' rfl) (by walk_at "nm") (by walk_at "nm") hcD, by walk_at "fr"⟩
      · rintro H3 ⟨acc, ds, ha, hl, hT, hv, hDr, hFr⟩
        walk_at "rr"
        intro l hl0
        walk_at "rr"
        exact k _ (.tuple ds) _ (.tup _ _ (by rw [← hT.length, hl]; omega) hv) (.tup upd_same (hT.new hl0)) ((hDr.new hl0).less (by omega)) (by walk_at "fr")
end
end Z

end
section
local macro_rules | `(tactic| walk_at "ne") => `(tactic| first
  | assumption
  | (refine Z.ne_sym ?_; assumption)
  | (refine' Z.ne_new ?ka ?kb; (case ka => assumption); (case kb => walk_at "h"))
  | (refine' Z.ne_sym (Z.ne_new ?ka ?kb); (case ka => assumption); (case kb => walk_at "h"))
  | ((with_reducible refine' Z.ne_nw ?ka ?kb ?kc); (case ka => assumption); (case kb => walk_at "h"); (case kc => rfl))
  | ((with_reducible refine' Z.ne_sym (Z.ne_nw ?ka ?kb ?kc)); (case ka => assumption); (case kb => walk_at "h"); (case kc => rfl))
  | exact L2.ne_of (by assumption) (by assumption) (by intro z; cases z)
  | exact Z.ne_sym (L2.ne_of (by assumption) (by assumption) (by intro z; cases z)))
local macro_rules | `(tactic| walk_at "nm") => `(tactic| first
  | exact Z.nm_nil
  | exact Z.nm_cons (by walk_at "ne") (by walk_at "nm"))
local macro_rules | `(tactic| walk_at "h") => `(tactic| first
  | assumption
  | exact L2.upd_same
  | ((with_reducible refine' Eq.trans (L2.upd_ne ?ka) ?kb); (case ka => walk_at "ne"); (case kb => walk_at "h"))
  | ((with_reducible refine' Z.Fr.at ?ka ?kb ?kc ?kd); (case ka => assumption); (case kb => walk_at "h"); (case kc => walk_at "nm"); (case kd => rfl))
  | ((with_reducible refine' Z.Fr.tup ?ka ?kb); (case ka => assumption); (case kb => walk_at "h")))
local macro_rules | `(tactic| walk_at "free") => `(tactic| first
  | assumption
  | exact Z.Nw.of (by assumption)
  | ((with_reducible refine' Z.Fr.free ?ka ?kb); (case ka => assumption); (case kb => walk_at "free")))
local macro_rules | `(tactic| walk_at "ms") => `(tactic| first
  | exact Or.inl List.mem_cons_self
  | exact Or.inl (List.mem_cons_of_mem _ List.mem_cons_self)
  | (left; simp; done)
  | (right; walk_at "free"))
local macro_rules | `(tactic| walk_at "sub") => `(tactic| first
  | exact Z.sub_nil
  | ((with_reducible refine' Z.sub_cons ?ka ?kb); (case ka => walk_at "ms"); (case kb => walk_at "sub")))
local macro_rules | `(tactic| walk_at "fr") => `(tactic| first
  | assumption
  | exact Z.Fr.refl _ _
  | ((with_reducible refine' Z.Fr.new ?ka ?kb); (case kb => assumption); (case ka => walk_at "fr"))
  | ((with_reducible refine' Z.Fr.upd ?ka ?kb ?kc ?kd ?ke); (case kb => walk_at "ms"); (case kc => walk_at "h"); (case kd => rfl); (case ke => rfl); (case ka => walk_at "fr"))
  | ((with_reducible refine' Z.Fr.step ?ka ?kb ?kc); (case ka => assumption); (case kb => walk_at "fr"); (case kc => walk_at "sub")))
local macro_rules | `(tactic| walk_at "dt") => `(tactic| first
  | assumption
  | (refine Z.DT.new ?_ (by assumption); walk_at "dt")
  | (refine Z.DTs.new ?_ (by assumption); walk_at "dt")
  | (refine' Z.DT.wr ?ka ?kb ?kc; (case kb => walk_at "h"); (case kc => rfl); (case ka => walk_at "dt"))
  | (refine' Z.DTs.wr ?ka ?kb ?kc; (case kb => walk_at "h"); (case kc => rfl); (case ka => walk_at "dt"))
  | (refine' Z.DT.fr ?ka ?kb; (case kb => assumption); (case ka => walk_at "dt"))
  | (refine' Z.DTs.fr ?ka ?kb; (case kb => assumption); (case ka => walk_at "dt")))
local macro_rules | `(tactic| walk_at "len") => `(tactic| first
  | exact Z.lt_ok (Nat.le_of_ble_eq_true (by with_unfolding_all rfl))
  | exact Z.le_ok (Nat.le_of_ble_eq_true (by with_unfolding_all rfl))
  | (apply Z.lt_ok; (try simp only [List.length_append, List.length_cons, List.length_nil, List.length_map, List.length_set, List.length_eraseIdx] at *); omega)
  | (apply Z.le_ok; (try simp only [List.length_append, List.length_cons, List.length_nil, List.length_map, List.length_set, List.length_eraseIdx] at *); omega))
local macro_rules | `(tactic| walk_at "r") => `(tactic| first
  | (with_reducible refine Z.rd_seq ?_)
  | (with_reducible refine Z.rd_asg ?_)
  | (with_reducible refine Z.rd_gname ?_)
  | (with_reducible refine Z.rd_ifs ?_)
  | (with_reducible refine Z.rd_next ?_)
  | (with_reducible refine Z.rd_and ?_)
  | (with_reducible refine Z.rd_or ?_)
  | (with_reducible refine Z.rd_not ?_)
  | (with_reducible refine Z.rd_test ?_)
  | (with_reducible refine Z.rd_tb ?_)
  | (with_reducible refine Z.rd_bl ?_)
  | (with_reducible refine Z.rd_op ?_)
  | (with_reducible refine Z.rd_c ?_)
  | ((with_reducible refine' Z.rd_var ?ka ?_); (case ka => with_unfolding_all rfl))
  | (with_reducible refine Z.rd_ret ?_)
  | (with_reducible refine Z.rd_retn ?_)
  | (with_reducible refine Z.rd_drop ?_)
  | (with_reducible refine Z.rd_nil ?_)
  | (with_reducible refine Z.rd_cons ?_)
  | (with_reducible refine Z.rd_cb ?_)
  | (with_reducible refine Z.rd_call ?_)
  | (with_reducible refine Z.rd_dget0 ?_)
  | ((with_reducible refine' Z.rd_dget1 ?ka ?kb ?_); (case ka => walk_at "h"); (case kb => with_unfolding_all rfl))
  | (with_reducible refine Z.rd_dput0 ?_)
  | ((with_reducible refine' Z.rd_dput1 ?ka ?kb ?_); (case ka => walk_at "h"); (case kb => walk_at "len"))
  | (with_reducible refine Z.rd_eqi ?_)
  | (with_reducible refine Z.rd_eqs ?_)
  | (with_reducible refine Z.rd_nei ?_)
  | (with_reducible refine Z.rd_nes ?_)
  | (with_reducible refine Z.rd_i0 ?_)
  | (with_reducible refine Z.rd_lst ?_)
  | (with_reducible refine Z.rd_tup ?_)
  | (with_reducible refine Z.rd_ifx ?_)
  | (with_reducible refine Z.rd_bm ?_)
  | (with_reducible refine Z.rd_bm0 ?_)
  | ((with_reducible refine' Z.rd_nil2 ?ka ?kb ?_); (case ka => walk_at "h"); (case kb => walk_at "h"))
  | ((with_reducible refine' Z.rd_nil2T ?ka ?kb ?_); (case ka => walk_at "h"); (case kb => walk_at "h"))
  | (with_reducible refine Z.rd_int1 ?_)
  | ((with_reducible refine' Z.rd_size ?ka ?_); (case ka => walk_at "len"))
  | ((with_reducible refine' Z.rd_tylist ?ka ?_); (case ka => walk_at "h"))
  | ((with_reducible refine' Z.rd_i ?ka ?_); (case ka => walk_at "num"))
  | ((with_reducible refine' Z.rd_append ?ka ?kb ?_); (case ka => walk_at "h"); (case kb => walk_at "len"))
  | (with_reducible refine Z.rd_for' ?_)
  | (with_reducible refine Z.rd_lc' ?_)
  | (with_reducible refine Z.rd_un ?_)
  | (with_reducible refine Z.rd_gm ?_)
  | (with_reducible refine Z.rd_xk ?_)
  | (with_reducible refine Z.rd_stard ?_)
  | ((with_reducible refine' Z.rd_stard1 ?ka ?_); (case ka => walk_at "h"))
  | (with_reducible refine Z.rd_star ?_)
  | ((with_reducible refine' Z.rd_star1 ?ka ?_); (case ka => walk_at "h"))
  | (with_reducible refine Z.rd_dc' ?_)
  | (with_reducible refine Z.rd_dnew ?_)
  | (with_reducible refine Z.rd_dpop ?_)
  | ((with_reducible refine' Z.rd_isd ?ka ?_); (case ka => walk_at "h"))
  | (with_reducible refine Z.rd_fldaug ?_)
  | (with_reducible refine Z.rd_ilt ?_)
  | (with_reducible refine Z.rd_mko ?_)
  | (with_reducible refine Z.rd_gk ?_)
  | (with_reducible refine Z.rd_gp ?_)
  | ((with_reducible refine' Z.rd_ins1 ?ka ?_); (case ka => walk_at "h"))
  | (with_reducible refine Z.rd_disp ?_)
  | (with_reducible refine Z.rd_pnil ?_)
  | (with_reducible refine Z.rd_pcons ?_)
  | (with_reducible refine Z.rd_m1 ?_)
  | (with_reducible refine Z.rd_isstr ?_)
  | (with_reducible refine Z.rd_sl ?_)
  | (with_reducible refine Z.rd_nopart ?_)
  | (with_reducible refine Z.rd_part ?_)
  | (with_reducible refine Z.rd_part1 ?_)
  | (with_reducible refine Z.rd_u ?_)
  | (with_reducible refine Z.rd_ilist ?_)
  | (with_reducible refine Z.rd_itup ?_)
  | (with_reducible refine Z.rd_istr ?_)
  | (with_reducible refine Z.rd_irng1 ?_)
  | (with_reducible refine Z.rd_yes ?_)
  | (with_reducible refine Z.rd_sfld0 ?_)
  | (with_reducible refine Z.rd_fld0 ?_)
  | (with_reducible refine Z.rd_din ?_)
  | (with_reducible refine Z.rd_dnotin ?_)
  | (with_reducible refine Z.rd_isn ?_)
  | (with_reducible refine Z.rd_notn ?_)
  | (with_reducible refine Z.rd_par ?_)
  | (with_reducible refine Z.rd_par1 ?_)
  | (with_reducible refine Z.rd_gnil ?_)
  | (with_reducible refine Z.rd_gcons ?_)
  | (with_reducible refine Z.rd_chain ?_)
  | (with_reducible refine Z.rd_andv ?_)
  | (with_reducible refine Z.rd_orv ?_)
  | (with_reducible refine Z.rd_notv ?_)
  | (with_reducible refine Z.rd_meth ?_)
  | (with_reducible refine Z.rd_while ?_)
  | ((with_reducible refine' Z.rd_ixl ?ka ?kb ?_); (case ka => walk_at "h"); (case kb => walk_at "ati"))
  | ((with_reducible refine' Z.rd_ixt ?ka ?kb ?_); (case ka => walk_at "h"); (case kb => walk_at "ati"))
  | ((with_reducible refine' Z.rd_len ?ka ?_); (case ka => walk_at "h"))
  | ((with_reducible refine' Z.rd_lens ?ka ?_); (case ka => walk_at "h"))
  | ((with_reducible refine' Z.rd_lent ?ka ?_); (case ka => walk_at "h"))
  | ((with_reducible refine' Z.rd_lstof ?ka ?_); (case ka => walk_at "h"))
  | ((with_reducible refine' Z.rd_tupof ?ka ?_); (case ka => walk_at "h"))
  | ((with_reducible refine' Z.rd_sfld1 ?ka ?kb ?kc ?kd ?_); (case ka => walk_at "h"); (case kb => assumption); (case kc => assumption); (case kd => (first | (with_unfolding_all decide) | exact Nat.le_of_ble_eq_true (by with_unfolding_all rfl))))
  | ((with_reducible refine' Z.rd_fld1 ?ka ?kb ?kc ?kd ?_); (case ka => walk_at "h"); (case kb => assumption); (case kc => assumption); (case kd => with_unfolding_all rfl))
  | ((with_reducible refine' Z.rd_din1 ?ka ?_); (case ka => walk_at "h"))
  | ((with_reducible refine' Z.rd_gtup ?ka ?kb ?_); (case ka => walk_at "h"); (case kb => with_unfolding_all rfl))
  | ((with_reducible refine' Z.rd_catl ?ka ?kb ?kc ?_); (case ka => walk_at "h"); (case kb => walk_at "h"); (case kc => walk_at "len"))
  | ((with_reducible refine' Z.rd_meth1 ?ka ?kb ?_); (case ka => walk_at "h"); (case kb => with_unfolding_all rfl))
  | ((with_reducible refine' Z.rd_addstr ?ka ?_); (case ka => walk_at "len")))
local macro_rules | `(tactic| walk_at "ati") => `(tactic| first
  | assumption
  | (with_unfolding_all rfl)
  | exact L2.atI_nat (by assumption)
  | exact L2.atI_nat (by with_unfolding_all rfl)
  | exact L2.atI_last _ _)
local macro_rules | `(tactic| walk_at "rr") => `(tactic| repeat (walk_at "r"))
local macro_rules | `(tactic| walk_at "num") => `(tactic| first
  | (with_unfolding_all decide)
  | (show (_ : Int) ≠ 0; omega)
  | (show (_ : Int) ≠ 0 ∧ _ < 1073741824; exact ⟨by omega, by omega⟩)
  | (show (0 : Int) ≤ _ ∧ _ ≤ (1000000 : Int) ∧ _; exact ⟨by decide, by decide, by omega⟩)
  | (show (-(2 ^ 64) < (_ : Int) ∧ _ < 2 ^ 64) ∨ _; (first | (left; exact ⟨by omega, by omega⟩) | (right; exact ⟨by omega, by omega⟩)))
  | omega)
namespace Z
open PySem PySem.Spec PyProof.Rows L2
abbrev s__law_names : Stmt := top 24
abbrev n__law_names : List Str := ["state", "many", "letters", "words", "names", "k", "way", "name", "j", "letter"]
theorem sc__law_names : FnScope n__law_names ["state", "many"] (defScope s__law_names) := ⟨rfl, rfl, rfl, by decide +kernel, rfl, by decide +kernel, by decide +kernel⟩
def sp_names (Λ : List (Addr × Str)) : Sp := fun vs H Q _ => ∃ (st gr cl0 : Addr) (n many : Nat), vs = [.ref st, .int many] ∧ many ≤ 10 ∧ Dr st gr cl0 (n + 20 * many) H ∧
  ∀ (p : Addr) (ns : List Str) H', ns.length = many → ns.Nodup → (∀ x ∈ ns, nmB x = true) → H p = none → H' p = some (.lst (ns.map V.str)) → Dr st gr cl0 n H' → Fr Λ [st, gr] H H' → Q (.ref p) H'
structure G3 (γ : Bool) (Λ : List (Addr × Str)) (P : Program) (w : World) (K : PySem.W.Frag) (mg : Str → Option Value) (base : Heap) : Prop where
  law_take : GD γ P w K mg base "_law_take" ["state", "size"] 2 (sp_take Λ)
  law_pick : GD γ P w K mg base "_law_pick" ["state", "some"] 3 (sp_pick Λ)
structure T3 (K : PySem.W.Frag) (mg : Str → Option Value) : Prop where
  b_range : mg "range" = none
  b_list : mg "list" = none
  b_len : mg "len" = none
abbrev one (c : Nat) : Str := ⟨#[c]⟩
abbrev lawWords : List Str := ["it", "db", "open", "mode", "any", "none", "a", "aa", "ab", "kept", "gives", "zzzzzzzz", "after", "not"]
theorem lawWords_wd : ∀ x ∈ lawWords, wdB x = true := by
  have : lawWords.all wdB = true := by decide +kernel
  exact fun x hx => List.all_eq_true.mp this x hx
section
variable {γ : Bool} {Λ : List (Addr × Str)} {P : Program} {w : World} {K : PySem.W.Frag} {mg : Str → Option Value} {base : Heap}
theorem ok_names {f : Addr} {fd : FuncData} (F : Fun K "_law_names" "_law_names" s__law_names f fd) (T : T3 K mg) (G : G3 γ Λ P w K mg base) : GOk γ P w K mg base 4 f fd ["state", "many"] (sp_names Λ) := by
  refine g_of F sc__law_names (fun vs H Q E h => ?_) (fun cdv A outer s H vs Q E hA hr h => ?_)
  · obtain ⟨st, gr, cl0, n, many, rfl, _⟩ := h
    rfl
  · obtain ⟨st, gr, cl0, n, many, rfl, hmany, hD, k⟩ := h
    have hu := hu_of hr
    refine ⟨_, (pss_cons (ps_set (i := 2) sc__law_names.nd rfl (.inr rfl) pe_str)
      (pss_cons (ps_set (i := 3) sc__law_names.nd rfl (.inl rfl) (pe_lst (pa_cons pe_str (pa_cons pe_str (pa_cons pe_str (pa_cons pe_str (pa_cons pe_str (pa_cons pe_str (pa_cons pe_str (pa_cons pe_str (pa_cons pe_str (pa_cons pe_str (pa_cons pe_str pa_nil)))))))))))))
      (pss_cons (ps_set (i := 3) sc__law_names.nd rfl (.inl rfl) (pe_op op_cat (pv 3) (pe_lst (pa_cons pe_str (pa_cons pe_str (pa_cons pe_str pa_nil))))))
      (pss_cons (ps_set (i := 4) sc__law_names.nd rfl (.inr rfl) (pe_lst pa_nil))
      (pss_cons (ps_for (passes_of rfl) rfl (pi_range1 rfl T.b_range (pa_cons (pv 1) pa_nil)) (pg_name (i := 5) sc__law_names.nd rfl (.inl rfl))
      (pss_cons (ps_par rfl sc__law_names.nd (i := 6) (j := 7) rfl rfl (by decide) rfl rfl (pa_cons (pe_g G.law_take (by first | exact hA | exact fun z => nomatch z) (hr.mono (by first | decide | omega)) rfl passL (pa_cons (pv 0) (pa_cons pe_int pa_nil))) (pa_cons (pe_g G.law_pick (by first | exact hA | exact fun z => nomatch z) (hr.mono (by first | decide | omega)) rfl passL (pa_cons (pv 0) (pa_cons (pv 3) pa_nil))) pa_nil)) (by rfl))
      (C8.pss_cut (ps_if (pt_cmpR op_eq (pv 6) pe_int (nomark _))
      (pss_one (ps_set (i := 7) sc__law_names.nd rfl (.inl rfl) (pe_join pe_str (pe_lc (own := [("j", 8)]) (g := gName 8) (tt := tYes) rfl sc__law_names.nd (pi_range1 rfl T.b_range (pa_cons (pe_op op_add pe_int (pe_g G.law_take (by first | exact hA | exact fun z => nomatch z) (hr.mono (by first | decide | omega)) rfl passL (pa_cons (pv 0) (pa_cons pe_int pa_nil)))) pa_nil)) (blkOk_by (own := [("j", 8)]) (N := n__law_names) (sc := defScope s__law_names) (by decide +kernel)) (fun _ _ _ _ _ => (pg_name (i := 8) sc__law_names.nd rfl (.inl rfl))) (fun _ _ _ _ _ => pts_nil) (fun _ _ _ _ _ => (pe_g G.law_pick (by first | exact hA | exact fun z => nomatch z) (hr.mono (by first | decide | omega)) rfl passL (pa_cons (pv 0) (pa_cons (pv 2) pa_nil))))))))
      pss_nil)
      (C8.pss_cut (ps_if (PW.pt (pw_and (pt_cmpR op_eq (pv 6) pe_int (nomark _)) (pw_and1 (pt_cmpR (op_neNil hr.units0) (pv 4) (pe_lst pa_nil) (nomark _)))))
      (pss_one (ps_set (i := 7) sc__law_names.nd rfl (.inl rfl) (pe_slice sl_str (pe_op op_add_str (pe_ix ix_list (pv 4) (pe_un un_neg pe_int) (fun _ _ => rfl)) (pe_g G.law_pick (by first | exact hA | exact fun z => nomatch z) (hr.mono (by first | decide | omega)) rfl passL (pa_cons (pv 0) (pa_cons (pv 2) pa_nil)))) po_none (po_some pe_int))))
      pss_nil)
      (C8.pss_cut (ps_if (pt_cmpR op_in_seq (pv 7) (pe_op op_cat (pv 4) (pe_lst (pa_cons pe_str (pa_cons pe_str pa_nil)))) rfl)
      (pss_one (ps_set (i := 7) sc__law_names.nd rfl (.inl rfl) (pe_ix ix_list (pe_lc (own := [("letter", 9)]) (g := gName 9) (tt := _) rfl sc__law_names.nd (pi_str (pv 2)) (blkOk_by (own := [("letter", 9)]) (N := n__law_names) (sc := defScope s__law_names) (by decide +kernel)) (fun _ _ _ _ _ => (pg_name (i := 9) sc__law_names.nd rfl (.inl rfl))) (fun _ _ _ _ _ => (pts_one (pt_cmpR (Z.k_notIn K) (pv 9) (pv 4) rfl))) (fun _ _ _ _ _ => (pv 9))) pe_int (fun _ _ => rfl))))
      pss_nil)
      (pss_one (ps_expr (pe_bm PySem.F.plainAttrs_list PySem.F.slot_list_append PySem.F.type_list_append mt_append (pv 4) (pa_cons (pv 7) pa_nil)))))))))
      (pss_one (ps_ret (pv 4)))))))), ?_⟩
    obtain ⟨xd, hst⟩ := hD.stdict
    obtain ⟨xg, hgr⟩ := hD.grlist
    obtain ⟨xc, hcl⟩ := hD.cllist
    walk_at "rr"
    intro p hp
    walk_at "rr"
    intro p2 hp2
    walk_at "rr"
    intro wl hwl
    walk_at "rr"
    intro nl hnl
    have hwl0 := (free_upd (free_upd hwl).1).1
    have hnl1 := (free_upd hnl).1
    have hnw := (free_upd hnl).2
    have hnl0 := (free_upd (free_upd hnl1).1).1
    walk_at "rr"
    refine rd_forr (n := many) rfl (by omega) (fun i σ H' => ∃ (ns : List Str) (v5 v6 v7 v8 v9 : Option V), σ = [some (.ref st), some (.int many), some (.str abc), some (.ref wl), some (.ref nl), v5, v6, v7, v8, v9] ∧ ns.length = i ∧ ns.Nodup ∧ (∀ x ∈ ns, nmB x = true) ∧
      H' nl = some (.lst (ns.map V.str)) ∧ H' wl = some (.lst (lawWords.map V.str)) ∧ Dr st gr cl0 (n + 20 * (many - i)) H' ∧ Fr Λ [st, gr] H H') ?_ ?_ ?_
    · refine ⟨[], none, none, none, none, none, rfl, rfl, .nil, fun x hx => absurd hx (by simp), upd_same, by walk_at "h", ?_, by walk_at "fr"⟩
      exact (((hD.new hp).new hp2).new hwl).new hnl
    · rintro i σ H1 hi ⟨ns, v5, v6, v7, v8, v9, rfl, hlen, hnd, hnm, hl1, hw1, hD1, hF1⟩
      have hbud : n + 20 * (many - i) = n + 20 * (many - (i + 1)) + 20 := by omega
      rw [hbud] at hD1
      generalize n + 20 * (many - (i + 1)) = b at hD1
      walk_at "rr"
      refine ⟨st, gr, cl0, b + 19, 4, rfl, by decide, by decide, hD1, fun way H2 w0 w1 hD2 hF2 => ?_⟩
      obtain ⟨xd1, hst1⟩ := hD1.stdict
      obtain ⟨xg1, hgr1⟩ := hD1.grlist
      obtain ⟨xc1, hcl1⟩ := hD1.cllist
      have hwg : wl ≠ gr := ne_sym (ne_of_none hgr hwl0)
      have hng : nl ≠ gr := ne_sym (ne_of_none hgr hnl0)
      have hws : wl ≠ st := ne_sym (ne_of_none hst hwl0)
      have hns : nl ≠ st := ne_sym (ne_of_none hst hnl0)
      have hwc : wl ≠ cl0 := ne_sym (ne_of_none hcl hwl0)
      have hnc : nl ≠ cl0 := ne_sym (ne_of_none hcl hnl0)
      walk_at "rr"
      refine ⟨st, gr, cl0, b + 18, _, rfl, hD2, .inl ⟨wl, _, rfl, by walk_at "h", hwg, by simp, by simp, fun y H3 hy hD3 hF3 => ?_⟩⟩
      obtain ⟨nm, hnmw, rfl⟩ := List.mem_map.mp hy
      have hwd := lawWords_wd nm hnmw
      walk_at "rr"
      refine rd_cut (fun σ H' => ∃ (nm : Str) (v8 v9 : Option V), wdB nm = true ∧ σ = [some (.ref st), some (.int many), some (.str abc), some (.ref wl), some (.ref nl), some (.int i), some (.int way), some (.str nm), v8, v9] ∧
        H' nl = some (.lst (ns.map V.str)) ∧ H' wl = some (.lst (lawWords.map V.str)) ∧ Dr st gr cl0 (b + 9) H' ∧ Fr Λ [st, gr] H H') ?_ ?_
      · walk_at "rr"
        refine rd_ite (fun hw0 => ?_) (fun hw0 => ?_)
        · walk_at "rr"
          refine ⟨st, gr, cl0, b + 17, 8, rfl, by decide, by decide, hD3, fun r H4 r0 r1 hD4 hF4 => ?_⟩
          obtain ⟨q, rfl⟩ : ∃ q : Nat, r = (q : Int) := ⟨r.toNat, by omega⟩
          have hnl4 : H4 nl = some (.lst (ns.map V.str)) := by walk_at "h"
          have hwl4 : H4 wl = some (.lst (lawWords.map V.str)) := by walk_at "h"
          have hF04 : Fr Λ [st, gr] H H4 := ((hF1.trans hF2).trans hF3).trans hF4
          walk_at "rr"
          refine rd_lcr (n := q + 1) (by omega) (by omega) fun D hD0 => ⟨fun i H' => ∃ cs : List Nat, H' D = some (.lst ((cs.map one).map V.str)) ∧ cs.length = i ∧ (∀ c ∈ cs, lowB c = true) ∧ Dr st gr cl0 (b + 9 + (8 - i)) H' ∧ Fr Λ [st, gr] H4 H',
            ⟨[], upd_same, rfl, fun c hc => absurd hc (by simp), (hD4.new hD0).less (by omega), by walk_at "fr"⟩, ?_, ?_⟩
          · rintro j H5 hj ⟨cs, ha, hl, hc, hD5, hF5⟩
            walk_at "rr"
            refine ⟨rfl, ?_⟩
            walk_at "rr"
            refine iteT ?_
            walk_at "rr"
            have hbj : b + 9 + (8 - j) = b + 9 + (8 - (j + 1)) + 1 := by omega
            rw [hbj] at hD5
            refine ⟨st, gr, cl0, _, _, rfl, hD5, .inr ⟨abc, rfl, ?_, ?_, fun c H6 hm hD6 hF6 => ?_⟩⟩
            · show cl abc ≠ []
              rw [abc_cl]; simp
            · show (cl abc).length ≤ 1000
              rw [abc_cl]; decide
            have hst4 := hD4.stdict
            have hDst : D ≠ st := (by obtain ⟨x, hx⟩ := hD4.stdict; exact ne_sym (ne_of_none hx hD0))
            have hDgr : D ≠ gr := (by obtain ⟨x, hx⟩ := hD4.grlist; exact ne_sym (ne_of_none hx hD0))
            have hDcl : cl0 ≠ D := (by obtain ⟨x, hx⟩ := hD4.cllist; exact ne_of_none hx hD0)
            have ha6 : H6 D = some (.lst ((cs.map one).map V.str)) := by walk_at "h"
            refine ⟨_, ha6, lt_ok (by simp; omega), cs ++ [c], ?_, by simp [hl], fun d hd => (List.mem_append.mp hd).elim (hc d) fun z => by rw [List.mem_singleton.mp z]; exact abc_mem.mp hm, ?_, by walk_at "fr"⟩
            · rw [upd_same, List.map_append, List.map_append]; rfl
            · exact hD6.keep ((Fr.refl (Λ := Λ) [D] H6).upd (.inl List.mem_cons_self) ha6 rfl) (by walk_at "nm") (by walk_at "nm") (nm_cons hDcl nm_nil)
          · rintro H5 ⟨cs, ha, hl, hc, hD5, hF5⟩
            refine ⟨_, D, cs.map one, rfl, rfl, .inl (SqL.of ha), ?_, ?_⟩
            · rw [ones_sum]
              show _ + _ * 0 ≤ _
              omega
            · walk_at "rr"
              exact ⟨_, _, _, join_wd (by omega) (by omega) hc, rfl, by walk_at "h", by walk_at "h", hD5.less (by omega), by walk_at "fr"⟩
        · walk_at "rr"
          exact ⟨_, _, _, hwd, rfl, by walk_at "h", by walk_at "h", hD3.less (by omega), by walk_at "fr"⟩
      · rintro σ H4 ⟨nm, v8, v9, hwd, rfl, hnl4, hwl4, hD4, hF4⟩
        refine rd_cut (fun σ H' => ∃ (nm : Str) (v8 v9 : Option V), wdB nm = true ∧ σ = [some (.ref st), some (.int many), some (.str abc), some (.ref wl), some (.ref nl), some (.int i), some (.int way), some (.str nm), v8, v9] ∧
          H' nl = some (.lst (ns.map V.str)) ∧ H' wl = some (.lst (lawWords.map V.str)) ∧ Dr st gr cl0 b H' ∧ Fr Λ [st, gr] H H') ?_ ?_
        · walk_at "rr"
          refine rd_ite (fun hw1 => ?_) (fun hw1 => ?_)
          · walk_at "rr"
            intro e he
            walk_at "rr"
            refine rd_emptyt (fun hne => ?_) (fun hne => ?_)
            · obtain ⟨ns', z, rfl⟩ : ∃ ns' z, ns = ns' ++ [z] := by
                rcases List.eq_nil_or_concat ns with rfl | ⟨a, b, e⟩
                · exact absurd rfl hne
                · exact ⟨a, b, by simpa using e⟩
              have hz := nmB_wd (hnm z (by simp))
              obtain ⟨hz1, hz2, hz3⟩ := wdB_le hz
              walk_at "rr"
              refine rd_ixl (xs := (ns' ++ [z]).map V.str) (v := .str z) (by walk_at "h") ?_ ?_
              · rw [List.map_append]; exact atI_last _ _
              walk_at "rr"
              refine ⟨st, gr, cl0, b, _, rfl, (hD4.new he).less (by omega), .inr ⟨abc, rfl, ?_, ?_, fun c H6 hm hD6 hF6 => ?_⟩⟩
              · show cl abc ≠ []
                rw [abc_cl]; simp
              · show (cl abc).length ≤ 1000
                rw [abc_cl]; decide
              have hl9 : z.length + (⟨#[c]⟩ : Str).length ≤ 9 := by
                rw [cl_len z]
                show _ + 1 ≤ 9
                omega
              refine ⟨_, _, rfl, rfl, Nat.le_trans hl9 (by decide), ?_⟩
              walk_at "rr"
              refine ⟨_, rfl, Nat.le_trans (show (z ++ (⟨#[c]⟩ : Str)).length ≤ 9 by rw [cl_len, cl_app, List.length_append]; rw [cl_len, cl_len] at hl9; exact hl9) (by decide), ?_⟩
              walk_at "rr"
              exact ⟨_, _, _, cut_wd hz (abc_mem.mp hm), rfl, by walk_at "h", by walk_at "h", hD6, by walk_at "fr"⟩
            · walk_at "rr"
              exact ⟨_, _, _, hwd, rfl, by walk_at "h", by walk_at "h", (hD4.new he).less (by omega), by walk_at "fr"⟩
          · walk_at "rr"
            refine iteF ?_
            walk_at "rr"
            exact ⟨_, _, _, hwd, rfl, by walk_at "h", by walk_at "h", hD4.less (by omega), by walk_at "fr"⟩
        · clear hwd hD4 hF4
          rintro σ H5 ⟨nm, v8, v9, hwd, rfl, hnl5, hwl5, hD5, hF5⟩
          refine rd_cut (fun σ H' => ∃ (nm : Str) (v8 v9 : Option V), nmB nm = true ∧ nm ∉ ns ∧ σ = [some (.ref st), some (.int many), some (.str abc), some (.ref wl), some (.ref nl), some (.int i), some (.int way), some (.str nm), v8, v9] ∧
            H' nl = some (.lst (ns.map V.str)) ∧ H' wl = some (.lst (lawWords.map V.str)) ∧ Dr st gr cl0 b H' ∧ Fr Λ [st, gr] H H') ?_ ?_
          · walk_at "rr"
            intro e he
            walk_at "rr"
            intro e2 he2
            refine rd_in (xs := (ns ++ [("self" : Str), ("path" : Str)]).map V.str) (by rw [List.map_append]; exact upd_same) rfl (flat_strs _) ?_
            walk_at "rr"
            rw [if_neg Bool.false_ne_true, inV_str]
            have hnl6 : L2.upd (L2.upd H5 e (.lst [.str "self", .str "path"])) e2 (.lst (ns.map V.str ++ [.str "self", .str "path"])) nl = some (.lst (ns.map V.str)) := by
              rw [upd_ne (ne_new he2 (by rw [upd_ne (ne_new he hnl5)]; exact hnl5)), upd_ne (ne_new he hnl5)]; exact hnl5
            have hwl6 : L2.upd (L2.upd H5 e (.lst [.str "self", .str "path"])) e2 (.lst (ns.map V.str ++ [.str "self", .str "path"])) wl = some (.lst (lawWords.map V.str)) := by walk_at "h"
            have hD6 : Dr st gr cl0 b (L2.upd (L2.upd H5 e (.lst [.str "self", .str "path"])) e2 (.lst (ns.map V.str ++ [.str "self", .str "path"]))) := (hD5.new he).new he2
            have hF6 : Fr Λ [st, gr] H (L2.upd (L2.upd H5 e (.lst [.str "self", .str "path"])) e2 (.lst (ns.map V.str ++ [.str "self", .str "path"]))) := by walk_at "fr"
            generalize L2.upd (L2.upd H5 e (.lst [.str "self", .str "path"])) e2 (.lst (ns.map V.str ++ [.str "self", .str "path"])) = H6 at hnl6 hwl6 hD6 hF6 ⊢
            refine rd_ite (fun hin => ?_) (fun hin => ?_)
            · walk_at "rr"
              refine rd_lcs fun D hD0 => ⟨fun j H' => ∃ cs : List Nat, H' D = some (.lst ((cs.map one).map V.str)) ∧ cs.length ≤ j ∧ (∀ c ∈ cs, c ∈ cl abc ∧ one c ∉ ns) ∧ (∀ m < j, ∀ c, (cl abc)[m]? = some c → one c ∉ ns → c ∈ cs) ∧ Fr Λ [] H6 H',
                ⟨[], upd_same, Nat.le_refl _, fun c hc => absurd hc (by simp), fun m hm => absurd hm (by omega), by walk_at "fr"⟩, ?_, ?_⟩
              · rintro j c H7 hj ⟨cs, ha, hl, hc, hall, hF7⟩
                have hj' : (cl abc)[j]? = some c := by rw [← hj]; unfold cl; simp
                have hjl : j < 26 := by
                  have := (List.getElem?_eq_some_iff.mp hj').1
                  rw [abc_cl] at this
                  exact this
                walk_at "rr"
                refine ⟨rfl, ?_⟩
                walk_at "rr"
                refine rd_in (xs := ns.map V.str) (by walk_at "h") rfl (flat_strs _) ?_
                walk_at "rr"
                rw [if_pos rfl, inV_str]
                refine rd_iten (fun hnin => ?_) (fun hin2 => ?_)
                · walk_at "rr"
                  refine ⟨_, ha, lt_ok (by simp; omega), cs ++ [c], ?_, by simp; omega, fun d hd => (List.mem_append.mp hd).elim (hc d) fun z => by rw [List.mem_singleton.mp z]; exact ⟨List.mem_of_getElem? hj', hnin⟩, fun m hm d hd hdn => ?_, by walk_at "fr"⟩
                  · rw [upd_same, List.map_append, List.map_append]; rfl
                  · by_cases hmj : m = j
                    · subst hmj
                      rw [hj'] at hd
                      cases hd
                      simp
                    · exact List.mem_append_left _ (hall m (by omega) d hd hdn)
                · refine ⟨cs, ha, by omega, hc, fun m hm d hd hdn => ?_, hF7⟩
                  by_cases hmj : m = j
                  · subst hmj
                    rw [hj'] at hd
                    cases hd
                    exact absurd hin2 hdn
                  · exact hall m (by omega) d hd hdn
              · rintro H7 ⟨cs, ha, hl, hc, hall, hF7⟩
                obtain ⟨c0, hc0, hc1⟩ := letter_free (ns := ns) (by omega)
                obtain ⟨m, hm⟩ := List.mem_iff_getElem?.mp hc0
                have hm26 : m < 26 := by
                  have := (List.getElem?_eq_some_iff.mp hm).1
                  rw [abc_cl] at this
                  exact this
                have hin0 := hall m (by rw [← Array.length_toList]; show m < (cl abc).length; rw [abc_cl]; exact hm26) c0 hm hc1
                obtain ⟨c, cs', rfl⟩ : ∃ c cs', cs = c :: cs' := by
                  cases cs with
                  | nil => exact absurd hin0 (by simp)
                  | cons c cs' => exact ⟨c, cs', rfl⟩
                walk_at "rr"
                have hcc := hc c (by simp)
                exact ⟨_, _, _, one_nm (abc_mem.mp hcc.1), hcc.2, rfl, by walk_at "h", by walk_at "h", hD6.keep hF7 nm_nil nm_nil nm_nil, by walk_at "fr"⟩
            · walk_at "rr"
              exact ⟨_, _, _, nmB_of hwd (fun z => hin (by simp [z])) (fun z => hin (by simp [z])), fun z => hin (by simp [z]), rfl, hnl6, hwl6, hD6, hF6⟩
          · clear hwd hD5 hF5
            rintro σ H6 ⟨nm, v8, v9, hnmB, hnin, rfl, hnl6, hwl6, hD6, hF6⟩
            walk_at "rr"
            refine ⟨ns ++ [nm], _, _, _, _, _, rfl, by simp [hlen], ?_, fun x hx => (List.mem_append.mp hx).elim (hnm x) fun z => by rw [List.mem_singleton.mp z]; exact hnmB, ?_, by walk_at "h", ?_, by walk_at "fr"⟩
            · exact List.nodup_append.mpr ⟨hnd, by simp, fun a ha b hb e => hnin (by rw [← List.mem_singleton.mp hb, ← e]; exact ha)⟩
            · rw [upd_same, List.map_append]; rfl
            · exact hD6.keep ((Fr.refl (Λ := Λ) [nl] H6).upd (.inl List.mem_cons_self) hnl6 rfl) (by walk_at "nm") (by walk_at "nm") (by walk_at "nm")
    · rintro σ H1 ⟨ns, v5, v6, v7, v8, v9, rfl, hlen, hnd, hnm, hl1, hw1, hD1, hF1⟩
      walk_at "rr"
      exact k nl ns H1 hlen hnd hnm hnl0 hl1 (hD1.less (by omega)) hF1
end
end Z

end
section
local macro_rules | `(tactic| walk_at "ne") => `(tactic| first
  | assumption
  | (refine Z.ne_sym ?_; assumption)
  | (refine' Z.ne_new ?ka ?kb; (case ka => assumption); (case kb => walk_at "h"))
  | (refine' Z.ne_sym (Z.ne_new ?ka ?kb); (case ka => assumption); (case kb => walk_at "h"))
  | ((with_reducible refine' Z.ne_nw ?ka ?kb ?kc); (case ka => assumption); (case kb => walk_at "h"); (case kc => rfl))
  | ((with_reducible refine' Z.ne_sym (Z.ne_nw ?ka ?kb ?kc)); (case ka => assumption); (case kb => walk_at "h"); (case kc => rfl))
  | exact L2.ne_of (by assumption) (by assumption) (by intro z; cases z)
  | exact Z.ne_sym (L2.ne_of (by assumption) (by assumption) (by intro z; cases z)))
local macro_rules | `(tactic| walk_at "nm") => `(tactic| first
  | exact Z.nm_nil
  | exact Z.nm_cons (by walk_at "ne") (by walk_at "nm"))
local macro_rules | `(tactic| walk_at "h") => `(tactic| first
  | assumption
  | exact L2.upd_same
  | ((with_reducible refine' Eq.trans (L2.upd_ne ?ka) ?kb); (case ka => walk_at "ne"); (case kb => walk_at "h"))
  | ((with_reducible refine' Z.Fr.at ?ka ?kb ?kc ?kd); (case ka => assumption); (case kb => walk_at "h"); (case kc => walk_at "nm"); (case kd => rfl))
  | ((with_reducible refine' Z.Fr.tup ?ka ?kb); (case ka => assumption); (case kb => walk_at "h")))
local macro_rules | `(tactic| walk_at "free") => `(tactic| first
  | assumption
  | exact Z.Nw.of (by assumption)
  | ((with_reducible refine' Z.Fr.free ?ka ?kb); (case ka => assumption); (case kb => walk_at "free")))
local macro_rules | `(tactic| walk_at "ms") => `(tactic| first
  | exact Or.inl List.mem_cons_self
  | exact Or.inl (List.mem_cons_of_mem _ List.mem_cons_self)
  | (left; simp; done)
  | (right; walk_at "free"))
local macro_rules | `(tactic| walk_at "sub") => `(tactic| first
  | exact Z.sub_nil
  | ((with_reducible refine' Z.sub_cons ?ka ?kb); (case ka => walk_at "ms"); (case kb => walk_at "sub")))
local macro_rules | `(tactic| walk_at "fr") => `(tactic| first
  | assumption
  | exact Z.Fr.refl _ _
  | ((with_reducible refine' Z.Fr.new ?ka ?kb); (case kb => assumption); (case ka => walk_at "fr"))
  | ((with_reducible refine' Z.Fr.upd ?ka ?kb ?kc ?kd ?ke); (case kb => walk_at "ms"); (case kc => walk_at "h"); (case kd => rfl); (case ke => rfl); (case ka => walk_at "fr"))
  | ((with_reducible refine' Z.Fr.step ?ka ?kb ?kc); (case ka => assumption); (case kb => walk_at "fr"); (case kc => walk_at "sub")))
local macro_rules | `(tactic| walk_at "dt") => `(tactic| first
  | assumption
  | (refine Z.DT.new ?_ (by assumption); walk_at "dt")
  | (refine Z.DTs.new ?_ (by assumption); walk_at "dt")
  | (refine' Z.DT.wr ?ka ?kb ?kc; (case kb => walk_at "h"); (case kc => rfl); (case ka => walk_at "dt"))
  | (refine' Z.DTs.wr ?ka ?kb ?kc; (case kb => walk_at "h"); (case kc => rfl); (case ka => walk_at "dt"))
  | (refine' Z.DT.fr ?ka ?kb; (case kb => assumption); (case ka => walk_at "dt"))
  | (refine' Z.DTs.fr ?ka ?kb; (case kb => assumption); (case ka => walk_at "dt")))
local macro_rules | `(tactic| walk_at "len") => `(tactic| first
  | exact Z.lt_ok (Nat.le_of_ble_eq_true (by with_unfolding_all rfl))
  | exact Z.le_ok (Nat.le_of_ble_eq_true (by with_unfolding_all rfl))
  | (apply Z.lt_ok; (try simp only [List.length_append, List.length_cons, List.length_nil, List.length_map, List.length_set, List.length_eraseIdx] at *); omega)
  | (apply Z.le_ok; (try simp only [List.length_append, List.length_cons, List.length_nil, List.length_map, List.length_set, List.length_eraseIdx] at *); omega))
local macro_rules | `(tactic| walk_at "r") => `(tactic| first
  | (with_reducible refine Z.rd_seq ?_)
  | (with_reducible refine Z.rd_asg ?_)
  | (with_reducible refine Z.rd_gname ?_)
  | (with_reducible refine Z.rd_ifs ?_)
  | (with_reducible refine Z.rd_next ?_)
  | (with_reducible refine Z.rd_and ?_)
  | (with_reducible refine Z.rd_or ?_)
  | (with_reducible refine Z.rd_not ?_)
  | (with_reducible refine Z.rd_test ?_)
  | (with_reducible refine Z.rd_tb ?_)
  | (with_reducible refine Z.rd_bl ?_)
  | (with_reducible refine Z.rd_op ?_)
  | (with_reducible refine Z.rd_c ?_)
  | ((with_reducible refine' Z.rd_var ?ka ?_); (case ka => with_unfolding_all rfl))
  | (with_reducible refine Z.rd_ret ?_)
  | (with_reducible refine Z.rd_retn ?_)
  | (with_reducible refine Z.rd_drop ?_)
  | (with_reducible refine Z.rd_nil ?_)
  | (with_reducible refine Z.rd_cons ?_)
  | (with_reducible refine Z.rd_cb ?_)
  | (with_reducible refine Z.rd_call ?_)
  | (with_reducible refine Z.rd_dget0 ?_)
  | ((with_reducible refine' Z.rd_dget1 ?ka ?kb ?_); (case ka => walk_at "h"); (case kb => with_unfolding_all rfl))
  | (with_reducible refine Z.rd_dput0 ?_)
  | ((with_reducible refine' Z.rd_dput1 ?ka ?kb ?_); (case ka => walk_at "h"); (case kb => walk_at "len"))
  | (with_reducible refine Z.rd_eqi ?_)
  | (with_reducible refine Z.rd_eqs ?_)
  | (with_reducible refine Z.rd_nei ?_)
  | (with_reducible refine Z.rd_nes ?_)
  | (with_reducible refine Z.rd_i0 ?_)
  | (with_reducible refine Z.rd_lst ?_)
  | (with_reducible refine Z.rd_tup ?_)
  | (with_reducible refine Z.rd_ifx ?_)
  | (with_reducible refine Z.rd_bm ?_)
  | (with_reducible refine Z.rd_bm0 ?_)
  | ((with_reducible refine' Z.rd_nil2 ?ka ?kb ?_); (case ka => walk_at "h"); (case kb => walk_at "h"))
  | ((with_reducible refine' Z.rd_nil2T ?ka ?kb ?_); (case ka => walk_at "h"); (case kb => walk_at "h"))
  | (with_reducible refine Z.rd_int1 ?_)
  | ((with_reducible refine' Z.rd_size ?ka ?_); (case ka => walk_at "len"))
  | ((with_reducible refine' Z.rd_tylist ?ka ?_); (case ka => walk_at "h"))
  | ((with_reducible refine' Z.rd_i ?ka ?_); (case ka => walk_at "num"))
  | ((with_reducible refine' Z.rd_append ?ka ?kb ?_); (case ka => walk_at "h"); (case kb => walk_at "len"))
  | (with_reducible refine Z.rd_for' ?_)
  | (with_reducible refine Z.rd_lc' ?_)
  | (with_reducible refine Z.rd_un ?_)
  | (with_reducible refine Z.rd_gm ?_)
  | (with_reducible refine Z.rd_xk ?_)
  | (with_reducible refine Z.rd_stard ?_)
  | ((with_reducible refine' Z.rd_stard1 ?ka ?_); (case ka => walk_at "h"))
  | (with_reducible refine Z.rd_star ?_)
  | ((with_reducible refine' Z.rd_star1 ?ka ?_); (case ka => walk_at "h"))
  | (with_reducible refine Z.rd_dc' ?_)
  | (with_reducible refine Z.rd_dnew ?_)
  | (with_reducible refine Z.rd_dpop ?_)
  | ((with_reducible refine' Z.rd_isd ?ka ?_); (case ka => walk_at "h"))
  | (with_reducible refine Z.rd_fldaug ?_)
  | (with_reducible refine Z.rd_ilt ?_)
  | (with_reducible refine Z.rd_mko ?_)
  | (with_reducible refine Z.rd_gk ?_)
  | (with_reducible refine Z.rd_gp ?_)
  | ((with_reducible refine' Z.rd_ins1 ?ka ?_); (case ka => walk_at "h"))
  | (with_reducible refine Z.rd_disp ?_)
  | (with_reducible refine Z.rd_pnil ?_)
  | (with_reducible refine Z.rd_pcons ?_)
  | (with_reducible refine Z.rd_m1 ?_)
  | (with_reducible refine Z.rd_isstr ?_)
  | (with_reducible refine Z.rd_sl ?_)
  | (with_reducible refine Z.rd_nopart ?_)
  | (with_reducible refine Z.rd_part ?_)
  | (with_reducible refine Z.rd_part1 ?_)
  | (with_reducible refine Z.rd_u ?_)
  | (with_reducible refine Z.rd_ilist ?_)
  | (with_reducible refine Z.rd_itup ?_)
  | (with_reducible refine Z.rd_istr ?_)
  | (with_reducible refine Z.rd_irng1 ?_)
  | (with_reducible refine Z.rd_yes ?_)
  | (with_reducible refine Z.rd_sfld0 ?_)
  | (with_reducible refine Z.rd_fld0 ?_)
  | (with_reducible refine Z.rd_din ?_)
  | (with_reducible refine Z.rd_dnotin ?_)
  | (with_reducible refine Z.rd_isn ?_)
  | (with_reducible refine Z.rd_notn ?_)
  | (with_reducible refine Z.rd_par ?_)
  | (with_reducible refine Z.rd_par1 ?_)
  | (with_reducible refine Z.rd_gnil ?_)
  | (with_reducible refine Z.rd_gcons ?_)
  | (with_reducible refine Z.rd_chain ?_)
  | (with_reducible refine Z.rd_andv ?_)
  | (with_reducible refine Z.rd_orv ?_)
  | (with_reducible refine Z.rd_notv ?_)
  | (with_reducible refine Z.rd_meth ?_)
  | (with_reducible refine Z.rd_while ?_)
  | ((with_reducible refine' Z.rd_ixl ?ka ?kb ?_); (case ka => walk_at "h"); (case kb => walk_at "ati"))
  | ((with_reducible refine' Z.rd_ixt ?ka ?kb ?_); (case ka => walk_at "h"); (case kb => walk_at "ati"))
  | ((with_reducible refine' Z.rd_len ?ka ?_); (case ka => walk_at "h"))
  | ((with_reducible refine' Z.rd_lens ?ka ?_); (case ka => walk_at "h"))
  | ((with_reducible refine' Z.rd_lent ?ka ?_); (case ka => walk_at "h"))
  | ((with_reducible refine' Z.rd_lstof ?ka ?_); (case ka => walk_at "h"))
  | ((with_reducible refine' Z.rd_tupof ?ka ?_); (case ka => walk_at "h"))
  | ((with_reducible refine' Z.rd_sfld1 ?ka ?kb ?kc ?kd ?_); (case ka => walk_at "h"); (case kb => assumption); (case kc => assumption); (case kd => (first | (with_unfolding_all decide) | exact Nat.le_of_ble_eq_true (by with_unfolding_all rfl))))
  | ((with_reducible refine' Z.rd_fld1 ?ka ?kb ?kc ?kd ?_); (case ka => walk_at "h"); (case kb => assumption); (case kc => assumption); (case kd => with_unfolding_all rfl))
  | ((with_reducible refine' Z.rd_din1 ?ka ?_); (case ka => walk_at "h"))
  | ((with_reducible refine' Z.rd_gtup ?ka ?kb ?_); (case ka => walk_at "h"); (case kb => with_unfolding_all rfl))
  | ((with_reducible refine' Z.rd_catl ?ka ?kb ?kc ?_); (case ka => walk_at "h"); (case kb => walk_at "h"); (case kc => walk_at "len"))
  | ((with_reducible refine' Z.rd_meth1 ?ka ?kb ?_); (case ka => walk_at "h"); (case kb => with_unfolding_all rfl))
  | ((with_reducible refine' Z.rd_addstr ?ka ?_); (case ka => walk_at "len")))
local macro_rules | `(tactic| walk_at "ati") => `(tactic| first
  | assumption
  | (with_unfolding_all rfl)
  | exact L2.atI_nat (by assumption)
  | exact L2.atI_nat (by with_unfolding_all rfl)
  | exact L2.atI_last _ _)
local macro_rules | `(tactic| walk_at "rr") => `(tactic| repeat (walk_at "r"))
local macro_rules | `(tactic| walk_at "num") => `(tactic| first
  | (with_unfolding_all decide)
  | (show (_ : Int) ≠ 0; omega)
  | (show (_ : Int) ≠ 0 ∧ _ < 1073741824; exact ⟨by omega, by omega⟩)
  | (show (0 : Int) ≤ _ ∧ _ ≤ (1000000 : Int) ∧ _; exact ⟨by decide, by decide, by omega⟩)
  | (show (-(2 ^ 64) < (_ : Int) ∧ _ < 2 ^ 64) ∨ _; (first | (left; exact ⟨by omega, by omega⟩) | (right; exact ⟨by omega, by omega⟩)))
  | omega)
namespace Z
open PySem PySem.Spec PyProof.Rows L2
abbrev s__law_shuffled : Stmt := top 23
abbrev n__law_shuffled : List Str := ["state", "some", "left", "found"]
theorem sc__law_shuffled : FnScope n__law_shuffled ["state", "some"] (defScope s__law_shuffled) := ⟨rfl, rfl, rfl, by decide +kernel, rfl, by decide +kernel, by decide +kernel⟩
abbrev s__law_begun : Stmt := top 19
abbrev n__law_begun : List Str := ["script", "cell", "wide"]
theorem sc__law_begun : FnScope n__law_begun ["script"] (defScope s__law_begun) := ⟨rfl, rfl, rfl, by decide +kernel, rfl, by decide +kernel, by decide +kernel⟩
def sp_shuffled (Λ : List (Addr × Str)) : Sp := fun vs H Q _ => ∃ (st gr cl0 a : Addr) (xs : List V) (n : Nat), vs = [.ref st, .ref a] ∧ H a = some (.lst xs) ∧ a ≠ gr ∧ xs.length ≤ 1000 ∧ Dr st gr cl0 (n + xs.length) H ∧
  ∀ (p : Addr) (ys : List V) H', ys.Perm xs → H p = none → H' p = some (.lst ys) → Dr st gr cl0 n H' → Fr Λ [st, gr] H H' → Q (.ref p) H'
def sp_begun (Λ : List (Addr × Str)) (K : PySem.W.Frag) : Sp := fun vs H Q _ => ∃ (a : Addr) (is : List Int), vs = [.ref a] ∧ SqL K H a (is.map V.int) ∧ is.length ≤ 1000 ∧
  ∀ (st gr cl0 : Addr) H', Nw H st → Nw H gr → Nw H cl0 → st ≠ gr → st ≠ cl0 → Dr st gr cl0 (2 ^ 40) H' → Fr Λ [] H H' → Q (.ref st) H'
theorem perm_erase : ∀ (l : List V) (q : Nat) (h : q < l.length), (l[q] :: l.eraseIdx q).Perm l
  | [], _, h => absurd h (by simp)
  | a :: l, 0, _ => .refl _
  | a :: l, q + 1, h => by
    have ih := perm_erase l q (by simpa using h)
    exact (List.Perm.swap _ _ _).trans (ih.cons a)
structure G4 (γ : Bool) (Λ : List (Addr × Str)) (P : Program) (w : World) (K : PySem.W.Frag) (mg : Str → Option Value) (base : Heap) : Prop where
  law_take : GD γ P w K mg base "_law_take" ["state", "size"] 2 (sp_take Λ)
section
variable {γ : Bool} {Λ : List (Addr × Str)} {P : Program} {w : World} {K : PySem.W.Frag} {mg : Str → Option Value} {base : Heap}
theorem ok_shuffled {f : Addr} {fd : FuncData} (F : Fun K "_law_shuffled" "_law_shuffled" s__law_shuffled f fd) (T : T3 K mg) (G : G4 γ Λ P w K mg base) : GOk γ P w K mg base 3 f fd ["state", "some"] (sp_shuffled Λ) := by
  refine g_of F sc__law_shuffled (fun vs H Q E h => ?_) (fun cdv A outer s H vs Q E hA hr h => ?_)
  · obtain ⟨st, gr, cl0, a, xs, n, rfl, _⟩ := h
    rfl
  · obtain ⟨st, gr, cl0, a, xs, n, rfl, ha, hag, hlen, hD, k⟩ := h
    have hu := hu_of hr
    refine ⟨_, (pss_cons (ps_par rfl sc__law_shuffled.nd (i := 2) (j := 3) rfl rfl (by decide) rfl rfl (pa_cons (pe_callTy call_list_of (by rfl) T.b_list (by decide +kernel) (pa_cons (pv 1) pa_nil)) (pa_cons (pe_lst pa_nil) pa_nil)) (by rfl))
      (pss_cons (ps_while (passes_of rfl) (pt_cmpR (op_neNil hr.units0) (pv 2) (pe_lst pa_nil) (nomark _)) (pss_one (ps_expr (pe_bm PySem.F.plainAttrs_list PySem.F.slot_list_append PySem.F.type_list_append mt_append (pv 3) (pa_cons (pe_bm PySem.F.plainAttrs_list PySem.F.slot_list_pop PySem.F.type_list_pop mt_popAt (pv 2) (pa_cons (pe_g G.law_take (by first | exact hA | exact fun z => nomatch z) (hr.mono (by first | decide | omega)) rfl passL (pa_cons (pv 0) (pa_cons (pe_callB call_len_seq (by rfl) T.b_len (by decide +kernel) (pa_cons (pv 2) pa_nil)) pa_nil))) pa_nil)) pa_nil)))))
      (pss_one (ps_ret (pv 3))))), ?_⟩
    obtain ⟨xd, hst⟩ := hD.stdict
    obtain ⟨xg, hgr⟩ := hD.grlist
    obtain ⟨xc, hcl⟩ := hD.cllist
    walk_at "rr"
    intro l hl
    walk_at "rr"
    intro fd1 hfd
    have hl0 := hl
    have hf0 := (free_upd hfd).1
    have hfl := (free_upd hfd).2
    walk_at "rr"
    refine ⟨fun m σ H' => ∃ left found : List V, σ = [some (.ref st), some (.ref a), some (.ref l), some (.ref fd1)] ∧ left.length = m ∧ m ≤ xs.length ∧ (found ++ left).Perm xs ∧ H' l = some (.lst left) ∧ H' fd1 = some (.lst found) ∧ Dr st gr cl0 (n + m) H' ∧ Fr Λ [st, gr] H H', ⟨xs.length, xs, [], rfl, rfl, Nat.le_refl _, by simp, by walk_at "h", upd_same, (hD.new hl).new hfd, by walk_at "fr"⟩, ?_⟩
    rintro m σ H1 ⟨left, found, rfl, hm, hmx, hp, hl1, hf1, hD1, hF1⟩
    walk_at "rr"
    intro e he
    walk_at "rr"
    refine rd_emptyt (fun hne => ?_) (fun hnil => ?_)
    · obtain ⟨m, rfl⟩ : ∃ m', m = m' + 1 := by
        cases m with
        | zero => exact absurd (List.length_eq_zero_iff.mp hm) hne
        | succ m => exact ⟨m, rfl⟩
      refine ⟨fun σ H' => ∃ left found : List V, σ = [some (.ref st), some (.ref a), some (.ref l), some (.ref fd1)] ∧ left.length = m ∧ m ≤ xs.length ∧ (found ++ left).Perm xs ∧ H' l = some (.lst left) ∧ H' fd1 = some (.lst found) ∧ Dr st gr cl0 (n + m) H' ∧ Fr Λ [st, gr] H H', fun σ' H' h => ⟨m, Nat.lt_succ_self m, h⟩, ?_⟩
      have hl2 : L2.upd H1 e (.lst []) l = some (.lst left) := by walk_at "h"
      walk_at "rr"
      refine ⟨st, gr, cl0, n + m, _, rfl, by omega, by omega, hD1.new he, fun r H2 r0 r1 hD2 hF2 => ?_⟩
      have hls : l ≠ st := ne_sym (ne_of_none hst hl0)
      have hlg : l ≠ gr := ne_sym (ne_of_none hgr hl0)
      have hlc : cl0 ≠ l := (ne_of_none hcl hl0)
      have hfs : fd1 ≠ st := ne_sym (ne_of_none hst hf0)
      have hfg : fd1 ≠ gr := ne_sym (ne_of_none hgr hf0)
      have hfc : cl0 ≠ fd1 := (ne_of_none hcl hf0)
      obtain ⟨q, rfl⟩ : ∃ q : Nat, r = (q : Int) := ⟨r.toNat, by omega⟩
      have hq : q < left.length := by omega
      have hl3 : H2 l = some (.lst left) := by walk_at "h"
      walk_at "rr"
      refine rd_popAt (k := q) hl3 (by omega) rfl (by omega) (List.getElem?_eq_getElem hq) ?_
      have hf3 : L2.upd H2 l (.lst (left.eraseIdx q)) fd1 = some (.lst found) := by walk_at "h"
      have hfl2 : found.length ≤ 1000 := by
        have := hp.length_eq
        rw [List.length_append] at this
        omega
      walk_at "rr"
      refine ⟨left.eraseIdx q, found ++ [left[q]], rfl, ?_, by omega, ?_, by walk_at "h", upd_same, ?_, by walk_at "fr"⟩
      · rw [List.length_eraseIdx, if_pos hq]; omega
      · refine List.Perm.trans ?_ hp
        rw [List.append_assoc]
        refine List.Perm.append_left _ ?_
        rw [List.singleton_append]
        exact perm_erase left q hq
      · exact (hD2.keep ((Fr.refl (Λ := Λ) [l] H2).upd (.inl List.mem_cons_self) hl3 rfl) (by walk_at "nm") (by walk_at "nm") (nm_cons hlc nm_nil)).keep ((Fr.refl (Λ := Λ) [fd1] _).upd (.inl List.mem_cons_self) hf3 rfl) (by walk_at "nm") (by walk_at "nm") (nm_cons hfc nm_nil)
    · subst hnil
      have hm0 : m = 0 := hm.symm
      subst hm0
      walk_at "rr"
      rw [List.append_nil] at hp
      exact k fd1 found _ hp hf0 (by walk_at "h") (hD1.new he) (by walk_at "fr")
theorem ok_begun {f : Addr} {fd : FuncData} (F : Fun K "_law_begun" "_law_begun" s__law_begun f fd) (T : T3 K mg) : GOk γ P w K mg base 1 f fd ["script"] (sp_begun Λ K) := by
  refine g_of F sc__law_begun (fun vs H Q E h => ?_) (fun cdv A outer s H vs Q E hA hr h => ?_)
  · obtain ⟨a, is, rfl, _⟩ := h
    rfl
  · obtain ⟨a, is, rfl, ha, hlen, k⟩ := h
    have hu := hu_of hr
    refine ⟨_, (pss_cons (ps_setLc (i := 2) (own := [("cell", 1)]) (g := gName 1) (tt := _) rfl sc__law_begun.nd rfl rfl (sw_true rfl rfl rfl (by decide +kernel)) (pi_list (pv 0)) (blkOk_by (own := [("cell", 1)]) (N := n__law_begun) (sc := defScope s__law_begun) (by decide +kernel)) (fun _ _ _ _ _ => (pg_name (i := 1) sc__law_begun.nd rfl (.inl rfl))) (fun _ _ _ _ _ => (pts_one (pt_cmpR op_ge (pv 1) (pe_op op_pow pe_int pe_int) (nomark _)))) (fun _ _ _ _ _ => (pe_op op_sub (pv 1) (pe_op op_pow pe_int pe_int))))
      (pss_one (ps_ret (pe_disp (pps_cons pe_str (pv 2) (pps_cons pe_str (pe_callTy call_list_of (by rfl) T.b_list (by decide +kernel) (pa_cons (pv 0) pa_nil)) (pps_cons pe_str pe_int (pps_cons pe_str pe_int pps_nil)))) (by rfl) (by rfl) (fun z => by cases z) (by decide))))), ?_⟩
    walk_at "rr"
    refine rd_lclS ha fun D hD0 => ⟨fun i H' => ∃ gs : List Int, H' D = some (.lst (gs.map V.int)) ∧ gs.length ≤ i ∧ Fr Λ [] H H', ⟨[], upd_same, Nat.le_refl _, by walk_at "fr"⟩, fun i H' ⟨gs, h1, h2, h3⟩ => SqL_fr ha h3 nm_nil, ?_, ?_⟩
    · rintro i x H1 hi hx ⟨gs, h1, h2, h3⟩
      rw [List.length_map] at hi
      obtain ⟨v, _, rfl⟩ := List.mem_map.mp (List.mem_of_getElem? hx)
      walk_at "rr"
      refine ⟨rfl, ?_⟩
      walk_at "rr"
      refine rd_ite (fun _ => ?_) (fun _ => ?_)
      · walk_at "rr"
        refine ⟨_, h1, lt_ok (by simp; omega), gs ++ [v - 10 ^ Int.toNat 18], ?_, by simp; omega, by walk_at "fr"⟩
        rw [upd_same, List.map_append]; rfl
      · exact ⟨gs, h1, by omega, h3⟩
    · rintro H1 ⟨gs, h1, h2, h3⟩
      walk_at "rr"
      intro st hst
      walk_at "rr"
      refine ⟨a, is.map V.int, rfl, .inl (SqL_fr ha (by walk_at "fr" : Fr Λ [] H _) nm_nil), fun l hl => ?_⟩
      have hDs : D ≠ st := ne_of_none h1 hst
      have hDl : D ≠ l := ne_of_none (show L2.upd H1 st (.dK []) D = _ by rw [upd_ne hDs]; exact h1) hl
      have hls := (free_upd hl).2
      walk_at "rr"
      refine ⟨by walk_at "h", [(.inr "great", .ref D), (.inr "cells", .ref l), (.inr "rest", .int 0), (.inr "turn", .int 0)], rfl, by simp, ?_⟩
      have hst' : L2.upd (L2.upd H1 st (.dK [])) l (.lst (is.map V.int)) st = some (.dK []) := by walk_at "h"
      exact k st D l _ (h3.free (.of hst)) (.of hD0) (h3.free (.of (free_upd hl).1)) (ne_sym hDs) (ne_sym hls) ⟨gs, is, 0, 0, upd_same, by walk_at "h", by walk_at "h", hDl, by decide, by decide⟩ (Fr.upd (by walk_at "fr") (.inr (h3.free (.of hst))) hst' rfl)
end
end Z

end
section
local macro_rules | `(tactic| walk_at "ne") => `(tactic| first
  | assumption
  | (refine Z.ne_sym ?_; assumption)
  | (refine' Z.ne_new ?ka ?kb; (case ka => assumption); (case kb => walk_at "h"))
  | (refine' Z.ne_sym (Z.ne_new ?ka ?kb); (case ka => assumption); (case kb => walk_at "h"))
  | ((with_reducible refine' Z.ne_nw ?ka ?kb ?kc); (case ka => assumption); (case kb => walk_at "h"); (case kc => rfl))
  | ((with_reducible refine' Z.ne_sym (Z.ne_nw ?ka ?kb ?kc)); (case ka => assumption); (case kb => walk_at "h"); (case kc => rfl))
  | exact L2.ne_of (by assumption) (by assumption) (by intro z; cases z)
  | exact Z.ne_sym (L2.ne_of (by assumption) (by assumption) (by intro z; cases z)))
local macro_rules | `(tactic| walk_at "nm") => `(tactic| first
  | exact Z.nm_nil
  | exact Z.nm_cons (by walk_at "ne") (by walk_at "nm"))
local macro_rules | `(tactic| walk_at "h") => `(tactic| first
  | assumption
  | exact L2.upd_same
  | ((with_reducible refine' Eq.trans (L2.upd_ne ?ka) ?kb); (case ka => walk_at "ne"); (case kb => walk_at "h"))
  | ((with_reducible refine' Z.Fr.at ?ka ?kb ?kc ?kd); (case ka => assumption); (case kb => walk_at "h"); (case kc => walk_at "nm"); (case kd => rfl))
  | ((with_reducible refine' Z.Fr.tup ?ka ?kb); (case ka => assumption); (case kb => walk_at "h")))
local macro_rules | `(tactic| walk_at "free") => `(tactic| first
  | assumption
  | exact Z.Nw.of (by assumption)
  | ((with_reducible refine' Z.Fr.free ?ka ?kb); (case ka => assumption); (case kb => walk_at "free")))
local macro_rules | `(tactic| walk_at "ms") => `(tactic| first
  | exact Or.inl List.mem_cons_self
  | exact Or.inl (List.mem_cons_of_mem _ List.mem_cons_self)
  | (left; simp; done)
  | (right; walk_at "free"))
local macro_rules | `(tactic| walk_at "sub") => `(tactic| first
  | exact Z.sub_nil
  | ((with_reducible refine' Z.sub_cons ?ka ?kb); (case ka => walk_at "ms"); (case kb => walk_at "sub")))
local macro_rules | `(tactic| walk_at "fr") => `(tactic| first
  | assumption
  | exact Z.Fr.refl _ _
  | ((with_reducible refine' Z.Fr.new ?ka ?kb); (case kb => assumption); (case ka => walk_at "fr"))
  | ((with_reducible refine' Z.Fr.upd ?ka ?kb ?kc ?kd ?ke); (case kb => walk_at "ms"); (case kc => walk_at "h"); (case kd => rfl); (case ke => rfl); (case ka => walk_at "fr"))
  | ((with_reducible refine' Z.Fr.step ?ka ?kb ?kc); (case ka => assumption); (case kb => walk_at "fr"); (case kc => walk_at "sub")))
local macro_rules | `(tactic| walk_at "dt") => `(tactic| first
  | assumption
  | (refine Z.DT.new ?_ (by assumption); walk_at "dt")
  | (refine Z.DTs.new ?_ (by assumption); walk_at "dt")
  | (refine' Z.DT.wr ?ka ?kb ?kc; (case kb => walk_at "h"); (case kc => rfl); (case ka => walk_at "dt"))
  | (refine' Z.DTs.wr ?ka ?kb ?kc; (case kb => walk_at "h"); (case kc => rfl); (case ka => walk_at "dt"))
  | (refine' Z.DT.fr ?ka ?kb; (case kb => assumption); (case ka => walk_at "dt"))
  | (refine' Z.DTs.fr ?ka ?kb; (case kb => assumption); (case ka => walk_at "dt")))
local macro_rules | `(tactic| walk_at "len") => `(tactic| first
  | exact Z.lt_ok (Nat.le_of_ble_eq_true (by with_unfolding_all rfl))
  | exact Z.le_ok (Nat.le_of_ble_eq_true (by with_unfolding_all rfl))
  | (apply Z.lt_ok; (try simp only [List.length_append, List.length_cons, List.length_nil, List.length_map, List.length_set, List.length_eraseIdx] at *); omega)
  | (apply Z.le_ok; (try simp only [List.length_append, List.length_cons, List.length_nil, List.length_map, List.length_set, List.length_eraseIdx] at *); omega))
local macro_rules | `(tactic| walk_at "r") => `(tactic| first
  | (with_reducible refine Z.rd_seq ?_)
  | (with_reducible refine Z.rd_asg ?_)
  | (with_reducible refine Z.rd_gname ?_)
  | (with_reducible refine Z.rd_ifs ?_)
  | (with_reducible refine Z.rd_next ?_)
  | (with_reducible refine Z.rd_and ?_)
  | (with_reducible refine Z.rd_or ?_)
  | (with_reducible refine Z.rd_not ?_)
  | (with_reducible refine Z.rd_test ?_)
  | (with_reducible refine Z.rd_tb ?_)
  | (with_reducible refine Z.rd_bl ?_)
  | (with_reducible refine Z.rd_op ?_)
  | (with_reducible refine Z.rd_c ?_)
  | ((with_reducible refine' Z.rd_var ?ka ?_); (case ka => with_unfolding_all rfl))
  | (with_reducible refine Z.rd_ret ?_)
  | (with_reducible refine Z.rd_retn ?_)
  | (with_reducible refine Z.rd_drop ?_)
  | (with_reducible refine Z.rd_nil ?_)
  | (with_reducible refine Z.rd_cons ?_)
  | (with_reducible refine Z.rd_cb ?_)
  | (with_reducible refine Z.rd_call ?_)
  | (with_reducible refine Z.rd_dget0 ?_)
  | ((with_reducible refine' Z.rd_dget1 ?ka ?kb ?_); (case ka => walk_at "h"); (case kb => with_unfolding_all rfl))
  | (with_reducible refine Z.rd_dput0 ?_)
  | ((with_reducible refine' Z.rd_dput1 ?ka ?kb ?_); (case ka => walk_at "h"); (case kb => walk_at "len"))
  | (with_reducible refine Z.rd_eqi ?_)
  | (with_reducible refine Z.rd_eqs ?_)
  | (with_reducible refine Z.rd_nei ?_)
  | (with_reducible refine Z.rd_nes ?_)
  | (with_reducible refine Z.rd_i0 ?_)
  | (with_reducible refine Z.rd_lst ?_)
  | (with_reducible refine Z.rd_tup ?_)
  | (with_reducible refine Z.rd_ifx ?_)
  | (with_reducible refine Z.rd_bm ?_)
  | (with_reducible refine Z.rd_bm0 ?_)
  | ((with_reducible refine' Z.rd_nil2 ?ka ?kb ?_); (case ka => walk_at "h"); (case kb => walk_at "h"))
  | ((with_reducible refine' Z.rd_nil2T ?ka ?kb ?_); (case ka => walk_at "h"); (case kb => walk_at "h"))
  | (with_reducible refine Z.rd_int1 ?_)
  | ((with_reducible refine' Z.rd_size ?ka ?_); (case ka => walk_at "len"))
  | ((with_reducible refine' Z.rd_tylist ?ka ?_); (case ka => walk_at "h"))
  | ((with_reducible refine' Z.rd_i ?ka ?_); (case ka => walk_at "num"))
  | ((with_reducible refine' Z.rd_append ?ka ?kb ?_); (case ka => walk_at "h"); (case kb => walk_at "len"))
  | (with_reducible refine Z.rd_for' ?_)
  | (with_reducible refine Z.rd_lc' ?_)
  | (with_reducible refine Z.rd_un ?_)
  | (with_reducible refine Z.rd_gm ?_)
  | (with_reducible refine Z.rd_xk ?_)
  | (with_reducible refine Z.rd_stard ?_)
  | ((with_reducible refine' Z.rd_stard1 ?ka ?_); (case ka => walk_at "h"))
  | (with_reducible refine Z.rd_star ?_)
  | ((with_reducible refine' Z.rd_star1 ?ka ?_); (case ka => walk_at "h"))
  | (with_reducible refine Z.rd_dc' ?_)
  | (with_reducible refine Z.rd_dnew ?_)
  | (with_reducible refine Z.rd_dpop ?_)
  | ((with_reducible refine' Z.rd_isd ?ka ?_); (case ka => walk_at "h"))
  | (with_reducible refine Z.rd_fldaug ?_)
  | (with_reducible refine Z.rd_ilt ?_)
  | (with_reducible refine Z.rd_mko ?_)
  | (with_reducible refine Z.rd_gk ?_)
  | (with_reducible refine Z.rd_gp ?_)
  | ((with_reducible refine' Z.rd_ins1 ?ka ?_); (case ka => walk_at "h"))
  | (with_reducible refine Z.rd_disp ?_)
  | (with_reducible refine Z.rd_pnil ?_)
  | (with_reducible refine Z.rd_pcons ?_)
  | (with_reducible refine Z.rd_m1 ?_)
  | (with_reducible refine Z.rd_isstr ?_)
  | (with_reducible refine Z.rd_sl ?_)
  | (with_reducible refine Z.rd_nopart ?_)
  | (with_reducible refine Z.rd_part ?_)
  | (with_reducible refine Z.rd_part1 ?_)
  | (with_reducible refine Z.rd_u ?_)
  | (with_reducible refine Z.rd_ilist ?_)
  | (with_reducible refine Z.rd_itup ?_)
  | (with_reducible refine Z.rd_istr ?_)
  | (with_reducible refine Z.rd_irng1 ?_)
  | (with_reducible refine Z.rd_yes ?_)
  | (with_reducible refine Z.rd_sfld0 ?_)
  | (with_reducible refine Z.rd_fld0 ?_)
  | (with_reducible refine Z.rd_din ?_)
  | (with_reducible refine Z.rd_dnotin ?_)
  | (with_reducible refine Z.rd_isn ?_)
  | (with_reducible refine Z.rd_notn ?_)
  | (with_reducible refine Z.rd_par ?_)
  | (with_reducible refine Z.rd_par1 ?_)
  | (with_reducible refine Z.rd_gnil ?_)
  | (with_reducible refine Z.rd_gcons ?_)
  | (with_reducible refine Z.rd_chain ?_)
  | (with_reducible refine Z.rd_andv ?_)
  | (with_reducible refine Z.rd_orv ?_)
  | (with_reducible refine Z.rd_notv ?_)
  | (with_reducible refine Z.rd_meth ?_)
  | (with_reducible refine Z.rd_while ?_)
  | ((with_reducible refine' Z.rd_ixl ?ka ?kb ?_); (case ka => walk_at "h"); (case kb => walk_at "ati"))
  | ((with_reducible refine' Z.rd_ixt ?ka ?kb ?_); (case ka => walk_at "h"); (case kb => walk_at "ati"))
  | ((with_reducible refine' Z.rd_len ?ka ?_); (case ka => walk_at "h"))
  | ((with_reducible refine' Z.rd_lens ?ka ?_); (case ka => walk_at "h"))
  | ((with_reducible refine' Z.rd_lent ?ka ?_); (case ka => walk_at "h"))
  | ((with_reducible refine' Z.rd_lstof ?ka ?_); (case ka => walk_at "h"))
  | ((with_reducible refine' Z.rd_tupof ?ka ?_); (case ka => walk_at "h"))
  | ((with_reducible refine' Z.rd_sfld1 ?ka ?kb ?kc ?kd ?_); (case ka => walk_at "h"); (case kb => assumption); (case kc => assumption); (case kd => (first | (with_unfolding_all decide) | exact Nat.le_of_ble_eq_true (by with_unfolding_all rfl))))
  | ((with_reducible refine' Z.rd_fld1 ?ka ?kb ?kc ?kd ?_); (case ka => walk_at "h"); (case kb => assumption); (case kc => assumption); (case kd => with_unfolding_all rfl))
  | ((with_reducible refine' Z.rd_din1 ?ka ?_); (case ka => walk_at "h"))
  | ((with_reducible refine' Z.rd_gtup ?ka ?kb ?_); (case ka => walk_at "h"); (case kb => with_unfolding_all rfl))
  | ((with_reducible refine' Z.rd_catl ?ka ?kb ?kc ?_); (case ka => walk_at "h"); (case kb => walk_at "h"); (case kc => walk_at "len"))
  | ((with_reducible refine' Z.rd_meth1 ?ka ?kb ?_); (case ka => walk_at "h"); (case kb => with_unfolding_all rfl))
  | ((with_reducible refine' Z.rd_addstr ?ka ?_); (case ka => walk_at "len")))
local macro_rules | `(tactic| walk_at "ati") => `(tactic| first
  | assumption
  | (with_unfolding_all rfl)
  | exact L2.atI_nat (by assumption)
  | exact L2.atI_nat (by with_unfolding_all rfl)
  | exact L2.atI_last _ _)
local macro_rules | `(tactic| walk_at "rr") => `(tactic| repeat (walk_at "r"))
local macro_rules | `(tactic| walk_at "num") => `(tactic| first
  | (with_unfolding_all decide)
  | (show (_ : Int) ≠ 0; omega)
  | (show (_ : Int) ≠ 0 ∧ _ < 1073741824; exact ⟨by omega, by omega⟩)
  | (show (0 : Int) ≤ _ ∧ _ ≤ (1000000 : Int) ∧ _; exact ⟨by decide, by decide, by omega⟩)
  | (show (-(2 ^ 64) < (_ : Int) ∧ _ < 2 ^ 64) ∨ _; (first | (left; exact ⟨by omega, by omega⟩) | (right; exact ⟨by omega, by omega⟩)))
  | omega)
namespace Z
open PySem PySem.Spec PyProof.Rows L2
abbrev s_is_word : Stmt := top 10
abbrev n_is_word : List Str := ["thing", "letter"]
theorem sc_is_word : FnScope n_is_word ["thing"] (defScope s_is_word) := ⟨rfl, rfl, rfl, by decide +kernel, rfl, by decide +kernel, by decide +kernel⟩
abbrev s_is_name : Stmt := top 11
abbrev n_is_name : List Str := ["thing"]
theorem sc_is_name : FnScope n_is_name ["thing"] (defScope s_is_name) := ⟨rfl, rfl, rfl, by decide +kernel, rfl, by decide +kernel, by decide +kernel⟩
abbrev s_is_value : Stmt := top 12
abbrev n_is_value : List Str := ["thing", "item"]
theorem sc_is_value : FnScope n_is_value ["thing"] (defScope s_is_value) := ⟨rfl, rfl, rfl, by decide +kernel, rfl, by decide +kernel, by decide +kernel⟩
abbrev s_need_name : Stmt := top 14
abbrev n_need_name : List Str := ["thing"]
theorem sc_need_name : FnScope n_need_name ["thing"] (defScope s_need_name) := ⟨rfl, rfl, rfl, by decide +kernel, rfl, by decide +kernel, by decide +kernel⟩
abbrev s_need_value : Stmt := top 15
abbrev n_need_value : List Str := ["thing"]
theorem sc_need_value : FnScope n_need_value ["thing"] (defScope s_need_value) := ⟨rfl, rfl, rfl, by decide +kernel, rfl, by decide +kernel, by decide +kernel⟩
mutual
/-- no tuple in it is long -/
def fewB : PyData → Bool
  | .tuple ds => decide (ds.length ≤ 1000) && fewAll ds
  | _ => true
def fewAll : List PyData → Bool
  | [] => true
  | d :: ds => fewB d && fewAll ds
end
theorem fewAll_mem : ∀ {ds : List PyData}, fewAll ds = true → ∀ d ∈ ds, fewB d = true
  | [], _, _, h => absurd h (by simp)
  | d :: ds, h, e, he => by
    simp only [fewAll, Bool.and_eq_true] at h
    rcases List.mem_cons.mp he with rfl | he
    · exact h.1
    · exact fewAll_mem h.2 e he
theorem fewB_tup {ds : List PyData} (h : fewB (.tuple ds) = true) : ds.length ≤ 1000 ∧ ∀ d ∈ ds, fewB d = true := by
  simp only [fewB, Bool.and_eq_true, decide_eq_true_eq] at h
  exact ⟨h.1, fewAll_mem h.2⟩
/-- a text, or something that is no text -/
def sp_is_word (Λ : List (Addr × Str)) (K : PySem.W.Frag) : Sp := fun vs H Q _ => ∃ x, vs = [x] ∧ ((∃ z : Str, x = .str z ∧ z.length ≤ sizeLine ∧ ∀ H', Fr Λ [] H H' → Q (.bl (wdB z)) H') ∨ (∃ t, TyX K H x t ∧ PySem.W.kitOne K t (.type "str") = some false ∧ Q (.bl false) H))
def sp_is_name (Λ : List (Addr × Str)) (K : PySem.W.Frag) : Sp := fun vs H Q _ => ∃ x, vs = [x] ∧ ((∃ z : Str, x = .str z ∧ z.length ≤ sizeLine ∧ ∀ H', Fr Λ [] H H' → Q (.bl (nmB z)) H') ∨ (∃ t, TyX K H x t ∧ PySem.W.kitOne K t (.type "str") = some false ∧ Q (.bl false) H))
def sp_is_value (Λ : List (Addr × Str)) (m : Nat) : Sp := fun vs H Q _ => ∃ x d, vs = [x] ∧ DT H x d ∧ fewB d = true ∧ d.depth < m ∧ ∀ H', Fr Λ [] H H' → Q (.bl true) H'
theorem dt_ty (K : PySem.W.Frag) {H : Hp} {x : V} {d : PyData} (h : DT H x d) : (∃ a xs ds, x = .ref a ∧ H a = some (.tup xs) ∧ DTs H xs ds ∧ d = .tuple ds) ∨
    (∃ t, (∀ H', TyX K H' x t) ∧ PySem.W.kitOne K t (.type "tuple") = some false ∧ (x = .non ∨ PySem.W.kitAny K t [.type "int", .type "str"] = some true)) := by
  cases h with
  | non => exact .inr ⟨_, fun _ => .base .non, kit_ty (by decide +kernel), .inl rfl⟩
  | bl b => exact .inr ⟨_, fun _ => .base (.bl b), kit_ty (by decide +kernel), .inr (kitAny_cons (kit_ty (b := "int") (r := true) (by decide +kernel)) (fun z => nomatch z) fun _ => rfl)⟩
  | int i => exact .inr ⟨_, fun _ => .base (.int i), kit_ty (by decide +kernel), .inr (kitAny_cons (kit_ty (b := "int") (r := true) (by decide +kernel)) (fun z => nomatch z) fun _ => rfl)⟩
  | str z => exact .inr ⟨_, fun _ => .base (.str z), kit_ty (by decide +kernel), .inr (kitAny_cons (kit_ty (b := "int") (r := false) (by decide +kernel)) (fun _ => kitAny_cons (kit_ty (b := "str") (r := true) (by decide +kernel)) (fun z => nomatch z) fun _ => rfl) fun z => nomatch z)⟩
  | tup e t => exact .inl ⟨_, _, _, rfl, e, t, rfl⟩
structure TW (K : PySem.W.Frag) (mg : Str → Option Value) : Prop where
  g_LETTERS : ∃ t, mg "LETTERS" = some (.str abc t)
  b_isinstance : mg "isinstance" = none
  b_str : mg "str" = none
  b_int : mg "int" = none
  b_tuple : mg "tuple" = none
  b_len : mg "len" = none
  b_all : mg "all" = none
structure GW0 (γ : Bool) (Λ : List (Addr × Str)) (P : Program) (w : World) (K : PySem.W.Frag) (mg : Str → Option Value) (base : Heap) : Prop where
  is_word : GD γ P w K mg base "is_word" ["thing"] 1 (sp_is_word Λ K)
structure GWv (γ : Bool) (Λ : List (Addr × Str)) (P : Program) (w : World) (K : PySem.W.Frag) (mg : Str → Option Value) (base : Heap) (m : Nat) : Prop where
  is_value : GD γ P w K mg base "is_value" ["thing"] (1 + m) (sp_is_value Λ m)
structure GW (γ : Bool) (Λ : List (Addr × Str)) (P : Program) (w : World) (K : PySem.W.Frag) (mg : Str → Option Value) (base : Heap) (m : Nat) : Prop where
  is_word : GD γ P w K mg base "is_word" ["thing"] 1 (sp_is_word Λ K)
  is_name : GD γ P w K mg base "is_name" ["thing"] 2 (sp_is_name Λ K)
  is_value : GD γ P w K mg base "is_value" ["thing"] (1 + m) (sp_is_value Λ m)
section
variable {γ : Bool} {Λ : List (Addr × Str)} {P : Program} {w : World} {K : PySem.W.Frag} {mg : Str → Option Value} {base : Heap}
theorem ok_is_word {f : Addr} {fd : FuncData} (F : Fun K "is_word" "is_word" s_is_word f fd) (T : TW K mg) : GOk γ P w K mg base 1 f fd ["thing"] (sp_is_word Λ K) := by
  refine g_of F sc_is_word (fun vs H Q E h => ?_) (fun cdv A outer s H vs Q E hA hr h => ?_)
  · obtain ⟨x, rfl, _⟩ := h
    rfl
  · obtain ⟨x, rfl, h⟩ := h
    have hu := hu_of hr
    refine ⟨_, (pss_one (ps_ret (pe_and (pe_callB call_isi (by rfl) T.b_isinstance (by decide +kernel) (pa_cons (pv 0) (pa_cons (pe_bltn (v := .ty "str") rfl T.b_str (by decide +kernel) rfl) pa_nil))) (pe_and (pe_chain op_le op_le pe_int (pe_callB call_len_str (by rfl) T.b_len (by decide +kernel) (pa_cons (pv 0) pa_nil)) pe_int) (pe_one (pe_callB (cr_all rfl) (by rfl) T.b_all (by decide +kernel) (pa_cons (pe_lc (own := [("letter", 1)]) (g := gName 1) (tt := tYes) rfl sc_is_word.nd (pi_str (pv 0)) (blkOk_by (own := [("letter", 1)]) (N := n_is_word) (sc := defScope s_is_word) (by decide +kernel)) (fun _ _ _ _ _ => (pg_name (i := 1) sc_is_word.nd rfl (.inl rfl))) (fun _ _ _ _ _ => pts_nil) (fun _ _ _ _ _ => (pe_cmpR op_in_sign (pv 1) (pe_gs rfl T.g_LETTERS) rfl))) pa_nil))))))), ?_⟩
    rcases h with ⟨z, rfl, hz, k⟩ | ⟨t, ht, hk, k⟩
    · walk_at "rr"
      refine ⟨_, _, _, _, true, rfl, .ty _, .base (.str z), kit_ty (by decide +kernel), true, rfl, ?_⟩
      refine iteT ?_
      walk_at "rr"
      refine ⟨z, rfl, hz, ?_⟩
      walk_at "rr"
      have hlen : z.length = (cl z).length := cl_len z
      refine rd_ite (fun h1 => ?_) (fun h1 => ?_)
      · walk_at "rr"
        refine rd_ite (fun h2 => ?_) (fun h2 => ?_)
        · walk_at "rr"
          refine rd_lcs fun D hD0 => ⟨fun i H' => H' D = some (.lst ((((cl z).take i).map lowB).map V.bl)) ∧ i ≤ (cl z).length ∧ Fr Λ [] H H', ⟨upd_same, Nat.zero_le _, by walk_at "fr"⟩, ?_, ?_⟩
          · rintro i c H1 hi ⟨h3, h4, h5⟩
            have hi' : (cl z)[i]? = some c := by rw [← hi]; unfold cl; simp
            have hil := (List.getElem?_eq_some_iff.mp hi').1
            walk_at "rr"
            refine ⟨rfl, ?_⟩
            walk_at "rr"
            refine iteT ?_
            walk_at "rr"
            refine ⟨c, abc, rfl, rfl, _, h3, lt_ok (by simp; omega), ?_, by omega, by walk_at "fr"⟩
            have e : decide (c ∈ abc.cps.toList) = lowB c := by
              by_cases h : lowB c = true
              · rw [h]; exact decide_eq_true (abc_mem.mpr h)
              · rw [Bool.not_eq_true] at h
                rw [h]
                exact decide_eq_false fun hm => by rw [abc_mem.mp hm] at h; cases h
            rw [upd_same, e, List.take_add_one, hi']
            simp
          · rintro H1 ⟨h3, h4, h5⟩
            have hsz : z.cps.size = (cl z).length := by unfold cl; simp
            rw [hsz, List.take_length] at h3
            walk_at "rr"
            refine ⟨D, (cl z).map lowB, rfl, SqL.of h3, ?_⟩
            have e : ((cl z).map lowB).all id = wdB z := by
              unfold wdB
              rw [decide_eq_true (show 1 ≤ (cl z).length by omega), decide_eq_true (show (cl z).length ≤ 8 by omega), List.all_map]
              rfl
            rw [e]
            exact k _ h5
        · have e : wdB z = false := by
            unfold wdB
            rw [decide_eq_false (show ¬ (cl z).length ≤ 8 by omega)]
            simp
          have := k H (Fr.refl _ _)
          rw [e] at this
          exact this
      · have e : wdB z = false := by
          unfold wdB
          rw [decide_eq_false (show ¬ 1 ≤ (cl z).length by omega)]
          simp
        have := k H (Fr.refl _ _)
        rw [e] at this
        walk_at "rr"
        exact iteF this
    · walk_at "rr"
      exact ⟨_, _, t, _, false, rfl, .ty _, ht, hk, false, rfl, iteF k⟩
theorem ok_is_name {f : Addr} {fd : FuncData} (F : Fun K "is_name" "is_name" s_is_name f fd) (T : TW K mg) (G : GW0 γ Λ P w K mg base) : GOk γ P w K mg base 2 f fd ["thing"] (sp_is_name Λ K) := by
  refine g_of F sc_is_name (fun vs H Q E h => ?_) (fun cdv A outer s H vs Q E hA hr h => ?_)
  · obtain ⟨x, rfl, _⟩ := h
    rfl
  · obtain ⟨x, rfl, h⟩ := h
    have hu := hu_of hr
    refine ⟨_, (pss_one (ps_ret (pe_and (pe_g G.is_word (by first | exact hA | exact fun z => nomatch z) (hr.mono (by first | decide | omega)) rfl passL (pa_cons (pv 0) pa_nil)) (pe_one (pe_cmpR op_notIn_seq (pv 0) (pe_tup (pa_cons pe_str (pa_cons pe_str pa_nil))) rfl))))), ?_⟩
    rcases h with ⟨z, rfl, hz, k⟩ | ⟨t, ht, hk, k⟩
    · walk_at "rr"
      refine ⟨_, rfl, .inl ⟨z, rfl, hz, fun H1 hF1 => ⟨_, rfl, rd_iteb (fun h => ?_) (fun h => ?_)⟩⟩⟩
      · walk_at "rr"
        intro p hp
        walk_at "rr"
        refine ⟨p, _, rfl, .inr (SqT.of (xs := [("self" : Str), ("path" : Str)].map V.str) upd_same), rfl, flat_strs _, ?_⟩
        rw [if_pos rfl, inV_str]
        have e : (!decide (z ∈ [("self" : Str), ("path" : Str)])) = nmB z := by
          unfold nmB
          rw [h]
          by_cases h1 : z = "self"
          · simp [h1]
          · by_cases h2 : z = "path"
            · simp [h2]
            · simp [h1, h2]
        rw [e]
        exact k _ (by walk_at "fr")
      · have e : nmB z = false := by
          unfold nmB
          rw [h]; rfl
        have := k H1 hF1
        rw [e] at this
        exact this
    · walk_at "rr"
      exact ⟨_, rfl, .inr ⟨t, ht, hk, ⟨_, rfl, iteF k⟩⟩⟩
theorem ok_is_value {f : Addr} {fd : FuncData} {m : Nat} (F : Fun K "is_value" "is_value" s_is_value f fd) (T : TW K mg) (G : GWv γ Λ P w K mg base m) : GOk γ P w K mg base (2 + m) f fd ["thing"] (sp_is_value Λ (m + 1)) := by
  have e4 : 2 + m = (1 + m) + 1 := by omega
  rw [e4]
  refine g_of F sc_is_value (fun vs H Q E h => ?_) (fun cdv A outer s H vs Q E hA hr h => ?_)
  · obtain ⟨x, d, rfl, _⟩ := h
    rfl
  · obtain ⟨x, d, rfl, hT, hfew, hd, k⟩ := h
    have hu := hu_of hr
    refine ⟨_, (pss_cons (ps_if (pt_val (pe_callB call_isi (by rfl) T.b_isinstance (by decide +kernel) (pa_cons (pv 0) (pa_cons (pe_bltn (v := .ty "tuple") rfl T.b_tuple (by decide +kernel) rfl) pa_nil))))
      (pss_one (ps_ret (pe_callB (cr_all rfl) (by rfl) T.b_all (by decide +kernel) (pa_cons (pe_lc (own := [("item", 1)]) (g := gName 1) (tt := tYes) rfl sc_is_value.nd (pi_tup (pv 0)) (blkOk_by (own := [("item", 1)]) (N := n_is_value) (sc := defScope s_is_value) (by decide +kernel)) (fun _ _ _ _ _ => (pg_name (i := 1) sc_is_value.nd rfl (.inl rfl))) (fun _ _ _ _ _ => pts_nil) (fun _ _ _ _ _ => (pe_g G.is_value (by first | exact hA | exact fun z => nomatch z) (hr.mono (by first | decide | omega)) rfl passL (pa_cons (pv 1) pa_nil)))) pa_nil))))
      pss_nil)
      (pss_one (ps_ret (pe_or (pe_cmp (pc_isN (pv 0))) (pe_one (pe_callB call_isiT (by rfl) T.b_isinstance (by decide +kernel) (pa_cons (pv 0) (pa_cons (pe_tup (pa_cons (pe_bltn (v := .ty "int") rfl T.b_int (by decide +kernel) rfl) (pa_cons (pe_bltn (v := .ty "str") rfl T.b_str (by decide +kernel) rfl) pa_nil))) pa_nil)))))))), ?_⟩
    walk_at "rr"
    rcases dt_ty K hT with ⟨a, xs, ds, rfl, ha, hxs, rfl⟩ | ⟨t, ht, hk, hx⟩
    · refine ⟨_, _, _, _, true, rfl, .ty _, .base (.tup ha), kit_ty (by decide +kernel), ?_⟩
      walk_at "rr"
      refine iteT ?_
      have hdf := fewB_tup hfew
      have hl2 := hxs.length
      have hdp : ∀ d ∈ ds, d.depth < m := fun d hd' => by
        have := PyData.depth_le_depthAll ds d hd'
        simp only [PyData.depth] at hd
        omega
      walk_at "rr"
      refine rd_lct ha fun D hD0 => ⟨fun i H' => H' D = some (.lst ((List.replicate i true).map V.bl)) ∧ Fr Λ [] H H', ⟨upd_same, by walk_at "fr"⟩, fun i H' h => by obtain ⟨h1, h2⟩ := h; walk_at "h", ?_, ?_⟩
      · rintro i x H1 hi hx ⟨h1, h2⟩
        walk_at "rr"
        refine ⟨rfl, ?_⟩
        walk_at "rr"
        refine iteT ?_
        walk_at "rr"
        obtain ⟨d, hd1, hd2⟩ := hxs.at hx
        refine ⟨x, d, rfl, hd2.fr h2, hdf.2 d hd1, hdp d hd1, fun H2 hF2 => ⟨_, (hF2.at h1 nm_nil rfl), lt_ok ?_, ?_, ?_⟩⟩
        · rw [List.length_map, List.length_replicate]; omega
        · rw [upd_same, ← List.map_singleton, ← List.map_append, List.replicate_succ']
        · have h3 : H2 D = some (.lst ((List.replicate i true).map V.bl)) := hF2.at h1 nm_nil rfl
          walk_at "fr"
      · rintro H1 ⟨h1, h2⟩
        walk_at "rr"
        refine ⟨D, List.replicate xs.length true, rfl, SqL.of h1, ?_⟩
        have e : (List.replicate xs.length true).all id = true := by simp
        rw [e]
        exact k _ h2
    · refine ⟨_, _, t, _, false, rfl, .ty _, ht _, hk, ?_⟩
      walk_at "rr"
      refine iteF ?_
      walk_at "rr"
      by_cases hn : x = .non
      · rw [decide_eq_true hn]
        exact iteT (k H (Fr.refl _ _))
      · rw [decide_eq_false hn]
        refine iteF ?_
        walk_at "rr"
        intro p hp
        walk_at "rr"
        exact ⟨x, p, _, t, [.type "int", .type "str"], true, rfl, upd_same, .cons (.ty _) (.cons (.ty _) .nil), ht _, hx.resolve_left hn, k _ (by walk_at "fr")⟩
end
end Z

end
section
local macro_rules | `(tactic| walk_at "ne") => `(tactic| first
  | assumption
  | (refine Z.ne_sym ?_; assumption)
  | (refine' Z.ne_new ?ka ?kb; (case ka => assumption); (case kb => walk_at "h"))
  | (refine' Z.ne_sym (Z.ne_new ?ka ?kb); (case ka => assumption); (case kb => walk_at "h"))
  | ((with_reducible refine' Z.ne_nw ?ka ?kb ?kc); (case ka => assumption); (case kb => walk_at "h"); (case kc => rfl))
  | ((with_reducible refine' Z.ne_sym (Z.ne_nw ?ka ?kb ?kc)); (case ka => assumption); (case kb => walk_at "h"); (case kc => rfl))
  | exact L2.ne_of (by assumption) (by assumption) (by intro z; cases z)
  | exact Z.ne_sym (L2.ne_of (by assumption) (by assumption) (by intro z; cases z)))
local macro_rules | `(tactic| walk_at "nm") => `(tactic| first
  | exact Z.nm_nil
  | exact Z.nm_cons (by walk_at "ne") (by walk_at "nm"))
local macro_rules | `(tactic| walk_at "h") => `(tactic| first
  | assumption
  | exact L2.upd_same
  | ((with_reducible refine' Eq.trans (L2.upd_ne ?ka) ?kb); (case ka => walk_at "ne"); (case kb => walk_at "h"))
  | ((with_reducible refine' Z.Fr.at ?ka ?kb ?kc ?kd); (case ka => assumption); (case kb => walk_at "h"); (case kc => walk_at "nm"); (case kd => rfl))
  | ((with_reducible refine' Z.Fr.tup ?ka ?kb); (case ka => assumption); (case kb => walk_at "h")))
local macro_rules | `(tactic| walk_at "free") => `(tactic| first
  | assumption
  | exact Z.Nw.of (by assumption)
  | ((with_reducible refine' Z.Fr.free ?ka ?kb); (case ka => assumption); (case kb => walk_at "free")))
local macro_rules | `(tactic| walk_at "ms") => `(tactic| first
  | exact Or.inl List.mem_cons_self
  | exact Or.inl (List.mem_cons_of_mem _ List.mem_cons_self)
  | (left; simp; done)
  | (right; walk_at "free"))
local macro_rules | `(tactic| walk_at "sub") => `(tactic| first
  | exact Z.sub_nil
  | ((with_reducible refine' Z.sub_cons ?ka ?kb); (case ka => walk_at "ms"); (case kb => walk_at "sub")))
local macro_rules | `(tactic| walk_at "fr") => `(tactic| first
  | assumption
  | exact Z.Fr.refl _ _
  | ((with_reducible refine' Z.Fr.new ?ka ?kb); (case kb => assumption); (case ka => walk_at "fr"))
  | ((with_reducible refine' Z.Fr.upd ?ka ?kb ?kc ?kd ?ke); (case kb => walk_at "ms"); (case kc => walk_at "h"); (case kd => rfl); (case ke => rfl); (case ka => walk_at "fr"))
  | ((with_reducible refine' Z.Fr.step ?ka ?kb ?kc); (case ka => assumption); (case kb => walk_at "fr"); (case kc => walk_at "sub")))
local macro_rules | `(tactic| walk_at "dt") => `(tactic| first
  | assumption
  | (refine Z.DT.new ?_ (by assumption); walk_at "dt")
  | (refine Z.DTs.new ?_ (by assumption); walk_at "dt")
  | (refine' Z.DT.wr ?ka ?kb ?kc; (case kb => walk_at "h"); (case kc => rfl); (case ka => walk_at "dt"))
  | (refine' Z.DTs.wr ?ka ?kb ?kc; (case kb => walk_at "h"); (case kc => rfl); (case ka => walk_at "dt"))
  | (refine' Z.DT.fr ?ka ?kb; (case kb => assumption); (case ka => walk_at "dt"))
  | (refine' Z.DTs.fr ?ka ?kb; (case kb => assumption); (case ka => walk_at "dt")))
local macro_rules | `(tactic| walk_at "len") => `(tactic| first
  | exact Z.lt_ok (Nat.le_of_ble_eq_true (by with_unfolding_all rfl))
  | exact Z.le_ok (Nat.le_of_ble_eq_true (by with_unfolding_all rfl))
  | (apply Z.lt_ok; (try simp only [List.length_append, List.length_cons, List.length_nil, List.length_map, List.length_set, List.length_eraseIdx] at *); omega)
  | (apply Z.le_ok; (try simp only [List.length_append, List.length_cons, List.length_nil, List.length_map, List.length_set, List.length_eraseIdx] at *); omega))
local macro_rules | `(tactic| walk_at "r") => `(tactic| first
  | (with_reducible refine Z.rd_seq ?_)
  | (with_reducible refine Z.rd_asg ?_)
  | (with_reducible refine Z.rd_gname ?_)
  | (with_reducible refine Z.rd_ifs ?_)
  | (with_reducible refine Z.rd_next ?_)
  | (with_reducible refine Z.rd_and ?_)
  | (with_reducible refine Z.rd_or ?_)
  | (with_reducible refine Z.rd_not ?_)
  | (with_reducible refine Z.rd_test ?_)
  | (with_reducible refine Z.rd_tb ?_)
  | (with_reducible refine Z.rd_bl ?_)
  | (with_reducible refine Z.rd_op ?_)
  | (with_reducible refine Z.rd_c ?_)
  | ((with_reducible refine' Z.rd_var ?ka ?_); (case ka => with_unfolding_all rfl))
  | (with_reducible refine Z.rd_ret ?_)
  | (with_reducible refine Z.rd_retn ?_)
  | (with_reducible refine Z.rd_drop ?_)
  | (with_reducible refine Z.rd_nil ?_)
  | (with_reducible refine Z.rd_cons ?_)
  | (with_reducible refine Z.rd_cb ?_)
  | (with_reducible refine Z.rd_call ?_)
  | (with_reducible refine Z.rd_dget0 ?_)
  | ((with_reducible refine' Z.rd_dget1 ?ka ?kb ?_); (case ka => walk_at "h"); (case kb => with_unfolding_all rfl))
  | (with_reducible refine Z.rd_dput0 ?_)
  | ((with_reducible refine' Z.rd_dput1 ?ka ?kb ?_); (case ka => walk_at "h"); (case kb => walk_at "len"))
  | (with_reducible refine Z.rd_eqi ?_)
  | (with_reducible refine Z.rd_eqs ?_)
  | (with_reducible refine Z.rd_nei ?_)
  | (with_reducible refine Z.rd_nes ?_)
  | (with_reducible refine Z.rd_i0 ?_)
  | (with_reducible refine Z.rd_lst ?_)
  | (with_reducible refine Z.rd_tup ?_)
  | (with_reducible refine Z.rd_ifx ?_)
  | (with_reducible refine Z.rd_bm ?_)
  | (with_reducible refine Z.rd_bm0 ?_)
  | ((with_reducible refine' Z.rd_nil2 ?ka ?kb ?_); (case ka => walk_at "h"); (case kb => walk_at "h"))
  | ((with_reducible refine' Z.rd_nil2T ?ka ?kb ?_); (case ka => walk_at "h"); (case kb => walk_at "h"))
  | (with_reducible refine Z.rd_int1 ?_)
  | ((with_reducible refine' Z.rd_size ?ka ?_); (case ka => walk_at "len"))
  | ((with_reducible refine' Z.rd_tylist ?ka ?_); (case ka => walk_at "h"))
  | ((with_reducible refine' Z.rd_i ?ka ?_); (case ka => walk_at "num"))
  | ((with_reducible refine' Z.rd_append ?ka ?kb ?_); (case ka => walk_at "h"); (case kb => walk_at "len"))
  | (with_reducible refine Z.rd_for' ?_)
  | (with_reducible refine Z.rd_lc' ?_)
  | (with_reducible refine Z.rd_un ?_)
  | (with_reducible refine Z.rd_gm ?_)
  | (with_reducible refine Z.rd_xk ?_)
  | (with_reducible refine Z.rd_stard ?_)
  | ((with_reducible refine' Z.rd_stard1 ?ka ?_); (case ka => walk_at "h"))
  | (with_reducible refine Z.rd_star ?_)
  | ((with_reducible refine' Z.rd_star1 ?ka ?_); (case ka => walk_at "h"))
  | (with_reducible refine Z.rd_dc' ?_)
  | (with_reducible refine Z.rd_dnew ?_)
  | (with_reducible refine Z.rd_dpop ?_)
  | ((with_reducible refine' Z.rd_isd ?ka ?_); (case ka => walk_at "h"))
  | (with_reducible refine Z.rd_fldaug ?_)
  | (with_reducible refine Z.rd_ilt ?_)
  | (with_reducible refine Z.rd_mko ?_)
  | (with_reducible refine Z.rd_gk ?_)
  | (with_reducible refine Z.rd_gp ?_)
  | ((with_reducible refine' Z.rd_ins1 ?ka ?_); (case ka => walk_at "h"))
  | (with_reducible refine Z.rd_disp ?_)
  | (with_reducible refine Z.rd_pnil ?_)
  | (with_reducible refine Z.rd_pcons ?_)
  | (with_reducible refine Z.rd_m1 ?_)
  | (with_reducible refine Z.rd_isstr ?_)
  | (with_reducible refine Z.rd_sl ?_)
  | (with_reducible refine Z.rd_nopart ?_)
  | (with_reducible refine Z.rd_part ?_)
  | (with_reducible refine Z.rd_part1 ?_)
  | (with_reducible refine Z.rd_u ?_)
  | (with_reducible refine Z.rd_ilist ?_)
  | (with_reducible refine Z.rd_itup ?_)
  | (with_reducible refine Z.rd_istr ?_)
  | (with_reducible refine Z.rd_irng1 ?_)
  | (with_reducible refine Z.rd_yes ?_)
  | (with_reducible refine Z.rd_sfld0 ?_)
  | (with_reducible refine Z.rd_fld0 ?_)
  | (with_reducible refine Z.rd_din ?_)
  | (with_reducible refine Z.rd_dnotin ?_)
  | (with_reducible refine Z.rd_isn ?_)
  | (with_reducible refine Z.rd_notn ?_)
  | (with_reducible refine Z.rd_par ?_)
  | (with_reducible refine Z.rd_par1 ?_)
  | (with_reducible refine Z.rd_gnil ?_)
  | (with_reducible refine Z.rd_gcons ?_)
  | (with_reducible refine Z.rd_chain ?_)
  | (with_reducible refine Z.rd_andv ?_)
  | (with_reducible refine Z.rd_orv ?_)
  | (with_reducible refine Z.rd_notv ?_)
  | (with_reducible refine Z.rd_meth ?_)
  | (with_reducible refine Z.rd_while ?_)
  | ((with_reducible refine' Z.rd_ixl ?ka ?kb ?_); (case ka => walk_at "h"); (case kb => walk_at "ati"))
  | ((with_reducible refine' Z.rd_ixt ?ka ?kb ?_); (case ka => walk_at "h"); (case kb => walk_at "ati"))
  | ((with_reducible refine' Z.rd_len ?ka ?_); (case ka => walk_at "h"))
  | ((with_reducible refine' Z.rd_lens ?ka ?_); (case ka => walk_at "h"))
  | ((with_reducible refine' Z.rd_lent ?ka ?_); (case ka => walk_at "h"))
  | ((with_reducible refine' Z.rd_lstof ?ka ?_); (case ka => walk_at "h"))
  | ((with_reducible refine' Z.rd_tupof ?ka ?_); (case ka => walk_at "h"))
  | ((with_reducible refine' Z.rd_sfld1 ?ka ?kb ?kc ?kd ?_); (case ka => walk_at "h"); (case kb => assumption); (case kc => assumption); (case kd => (first | (with_unfolding_all decide) | exact Nat.le_of_ble_eq_true (by with_unfolding_all rfl))))
  | ((with_reducible refine' Z.rd_fld1 ?ka ?kb ?kc ?kd ?_); (case ka => walk_at "h"); (case kb => assumption); (case kc => assumption); (case kd => with_unfolding_all rfl))
  | ((with_reducible refine' Z.rd_din1 ?ka ?_); (case ka => walk_at "h"))
  | ((with_reducible refine' Z.rd_gtup ?ka ?kb ?_); (case ka => walk_at "h"); (case kb => with_unfolding_all rfl))
  | ((with_reducible refine' Z.rd_catl ?ka ?kb ?kc ?_); (case ka => walk_at "h"); (case kb => walk_at "h"); (case kc => walk_at "len"))
  | ((with_reducible refine' Z.rd_meth1 ?ka ?kb ?_); (case ka => walk_at "h"); (case kb => with_unfolding_all rfl))
  | ((with_reducible refine' Z.rd_addstr ?ka ?_); (case ka => walk_at "len")))
local macro_rules | `(tactic| walk_at "ati") => `(tactic| first
  | assumption
  | (with_unfolding_all rfl)
  | exact L2.atI_nat (by assumption)
  | exact L2.atI_nat (by with_unfolding_all rfl)
  | exact L2.atI_last _ _)
local macro_rules | `(tactic| walk_at "rr") => `(tactic| repeat (walk_at "r"))
local macro_rules | `(tactic| walk_at "num") => `(tactic| first
  | (with_unfolding_all decide)
  | (show (_ : Int) ≠ 0; omega)
  | (show (_ : Int) ≠ 0 ∧ _ < 1073741824; exact ⟨by omega, by omega⟩)
  | (show (0 : Int) ≤ _ ∧ _ ≤ (1000000 : Int) ∧ _; exact ⟨by decide, by decide, by omega⟩)
  | (show (-(2 ^ 64) < (_ : Int) ∧ _ < 2 ^ 64) ∨ _; (first | (left; exact ⟨by omega, by omega⟩) | (right; exact ⟨by omega, by omega⟩)))
  | omega)
namespace Z
open PySem PySem.Spec PyProof.Rows L2
/-! ### places and their replacements -/
/-- a replacement: where it lies, its name, what it shows, its turn -/
structure Rp where
  r : Addr
  dx : Addr
  z : Str
  tp : Addr
  xs : List V
  t : Option Int
def turnV : Option Int → V
  | none => .non
  | some k => .int k
def rpF (pl : Addr) (R : Rp) : List (Str × V) := [("places", .ref pl), ("name", .str R.z), ("values_shown", .ref R.tp), ("turn", turnV R.t)]
/-- the places at pl, what they hold at hd, their replacements at md -/
structure Pl (C CR : Addr) (H : Hp) (pl dx hd md : Addr) (kv : List (L2.Key × V)) (Rs : List Rp) (tn : Int) : Prop where
  ins : H pl = some (.ins C dx [("held", .ref hd), ("made", .ref md), ("turns", .int tn)])
  held : H hd = some (.dK kv)
  made : H md = some (.lst (Rs.map fun R => V.ref R.r))
  rp : ∀ R ∈ Rs, H R.r = some (.ins CR R.dx (rpF pl R)) ∧ H R.tp = some (.tup R.xs)
  few : kv.length ≤ 1000 ∧ Rs.length ≤ 1000
  keys : ∀ p ∈ kv, ∃ z, p.1 = .inr z
  nd : (Rs.map Rp.r).Nodup
/-- where nothing of it is written -/
theorem Pl.keep {Λ : List (Addr × Str)} {C CR pl dx hd md : Addr} {H H' : Hp} {S : List Addr} {kv : List (L2.Key × V)} {Rs : List Rp} {tn : Int} (p : Pl C CR H pl dx hd md kv Rs tn) (f : Fr Λ S H H') (h1 : pl ∉ S) (h2 : hd ∉ S) (h3 : md ∉ S) (h4 : ∀ R ∈ Rs, R.r ∉ S) : Pl C CR H' pl dx hd md kv Rs tn :=
  ⟨f.at p.ins h1 rfl, f.at p.held h2 rfl, f.at p.made h3 rfl, fun R hR => ⟨f.at (p.rp R hR).1 (h4 R hR) rfl, f.tup (p.rp R hR).2⟩, p.few, p.keys, p.nd⟩
theorem Pl.keep0 {Λ : List (Addr × Str)} {C CR pl dx hd md : Addr} {H H' : Hp} {kv : List (L2.Key × V)} {Rs : List Rp} {tn : Int} (p : Pl C CR H pl dx hd md kv Rs tn) (f : Fr Λ [] H H') : Pl C CR H' pl dx hd md kv Rs tn := p.keep f nm_nil nm_nil nm_nil fun _ _ => nm_nil
section
variable {C CR pl dx hd md : Addr} {H : Hp} {kv : List (L2.Key × V)} {Rs : List Rp} {tn : Int}
theorem Pl.ph (p : Pl C CR H pl dx hd md kv Rs tn) : pl ≠ hd := ne_of p.ins p.held (by intro z; cases z)
theorem Pl.pm (p : Pl C CR H pl dx hd md kv Rs tn) : pl ≠ md := ne_of p.ins p.made (by intro z; cases z)
theorem Pl.hm (p : Pl C CR H pl dx hd md kv Rs tn) : hd ≠ md := ne_of p.held p.made (by intro z; cases z)
theorem Pl.rh (p : Pl C CR H pl dx hd md kv Rs tn) {R : Rp} (h : R ∈ Rs) : R.r ≠ hd := ne_of (p.rp R h).1 p.held (by intro z; cases z)
theorem Pl.rm (p : Pl C CR H pl dx hd md kv Rs tn) {R : Rp} (h : R ∈ Rs) : R.r ≠ md := ne_of (p.rp R h).1 p.made (by intro z; cases z)
theorem Pl.rpl (p : Pl C CR H pl dx hd md kv Rs tn) {R : Rp} (h : R ∈ Rs) : R.r ≠ pl := ne_of (p.rp R h).1 p.ins (by
  intro z
  injection z with _ _ z
  injection z with z _
  injection z with z _
  exact absurd z (by decide +kernel))
end
/-- one more replacement looked at -/
def stepP (z : Str) (acc : List V × Int) (R : Rp) : List V × Int := match R.t with
  | some t => if R.z = z ∧ acc.2 < t then (R.xs, t) else acc
  | none => acc
/-- what is seen at z -/
def seenP (kv : List (L2.Key × V)) (Rs : List Rp) (z : Str) : List V := (Rs.foldl (stepP z) ((valV kv (.inr z)).toList, 0)).1
abbrev s_Places_seen_at : Stmt := inClass (top 17) 1
abbrev n_Places_seen_at : List Str := ["self", "name", "found", "last", "one"]
theorem sc_Places_seen_at : FnScope n_Places_seen_at ["self", "name"] (defScope s_Places_seen_at) := ⟨rfl, rfl, rfl, by decide +kernel, rfl, by decide +kernel, by decide +kernel⟩
def sp_seen (Λ : List (Addr × Str)) (C CR : Addr) : Sp := fun vs H Q _ => ∃ (pl dx hd md : Addr) (kv : List (L2.Key × V)) (Rs : List Rp) (tn : Int) (z : Str), vs = [.ref pl, .str z] ∧ Pl C CR H pl dx hd md kv Rs tn ∧
  ∀ p H', H' p = some (.tup (seenP kv Rs z)) → Fr Λ [] H H' → Q (.ref p) H'
structure TP (K : PySem.W.Frag) (mg : Str → Option Value) (C CR : Addr) : Prop where
  cP : Cls K C
  cR : Cls K CR
  held : NoAttr K C "held"
  made : NoAttr K C "made"
  turns : NoAttr K C "turns"
  places : NoAttr K CR "places"
  name : NoAttr K CR "name"
  shown : NoAttr K CR "values_shown"
  turn : NoAttr K CR "turn"
section
variable {γ : Bool} {Λ : List (Addr × Str)} {P : Program} {w : World} {K : PySem.W.Frag} {mg : Str → Option Value} {base : Heap} {C CR : Addr}
theorem ok_seen_at {f : Addr} {fd : FuncData} (F : Fun K "seen_at" "Places.seen_at" s_Places_seen_at f fd) (T : TP K mg C CR) : GOk γ P w K mg base 1 f fd ["self", "name"] (sp_seen Λ C CR) := by
  refine g_of F sc_Places_seen_at (fun vs H Q E h => ?_) (fun cdv A outer s H vs Q E hA hr h => ?_)
  · obtain ⟨pl, dx, hd, md, kv, Rs, tn, z, rfl, _⟩ := h
    rfl
  · obtain ⟨pl, dx, hd, md, kv, Rs, tn, z, rfl, hP, k⟩ := h
    have hu := hu_of hr
    obtain ⟨cP, cR, n1, n2, n3, n4, n5, n6, n7⟩ := id T
    obtain ⟨i1, i2, i3, i4, i5, i6, i7⟩ := id hP
    refine ⟨_, (pss_cons (ps_set (i := 2) sc_Places_seen_at.nd rfl (.inl rfl) (pe_ifExp (pt_cmp (pc_din hu (pv 1) (pe_fld (pv 0) rfl))) (pe_tup (pa_cons (pe_dget hu (pe_fld (pv 0) rfl) (pv 1) (fun _ _ => rfl)) pa_nil)) (pe_tup pa_nil)))
      (pss_cons (ps_set (i := 3) sc_Places_seen_at.nd rfl (.inl rfl) pe_int)
      (pss_cons (ps_for (passes_of rfl) rfl (pi_list (pe_fld (pv 0) rfl)) (pg_name (i := 4) sc_Places_seen_at.nd rfl (.inl rfl))
      (pss_one (ps_if (PW.pt (pw_and (pt_cmpR op_eq (pe_fld (pv 4) rfl) (pv 1) (nomark _)) (pw_and (pt_cmp (pc_notN (pe_fld (pv 4) rfl))) (pw_and1 (pt_cmpR op_gt (pe_fld (pv 4) rfl) (pv 3) (nomark _))))))
      (pss_one (ps_par rfl sc_Places_seen_at.nd (i := 2) (j := 3) rfl rfl (by decide) rfl rfl (pa_cons (pe_fld (pv 4) rfl) (pa_cons (pe_fld (pv 4) rfl) pa_nil)) (by rfl)))
      pss_nil)))
      (pss_one (ps_ret (pv 2)))))), ?_⟩
    walk_at "rr"
    have e0 : ∀ o : Option V, valV kv (.inr z) = o → (o.toList, (0 : Int)) = ((valV kv (.inr z)).toList, 0) := fun o e => by rw [e]
    rcases hv : valV kv (.inr z) with _ | v
    case' none =>
      refine iteF ?_
      walk_at "rr"
      intro p hp
      have hF : Fr Λ [] H (L2.upd H p (.tup (none : Option V).toList)) := by walk_at "fr"
      have hp1 : L2.upd H p (.tup (none : Option V).toList) p = some (.tup (none : Option V).toList) := upd_same
      have e1 := e0 _ hv
      walk_at "rr"
    case' some =>
      refine iteT ?_
      walk_at "rr"
      refine rd_dget1 (by walk_at "h") hv ?_
      walk_at "rr"
      intro p hp
      have hF : Fr Λ [] H (L2.upd H p (.tup (some v : Option V).toList)) := by walk_at "fr"
      have hp1 : L2.upd H p (.tup (some v : Option V).toList) p = some (.tup (some v : Option V).toList) := upd_same
      have e1 := e0 _ hv
      walk_at "rr"
    all_goals
      refine rd_forl (xs := Rs.map fun R => V.ref R.r) (by walk_at "h") (fun i σ H' => ∃ (p : Addr) (v4 : Option V), σ = [some (.ref pl), some (.str z), some (.ref p), some (.int ((Rs.take i).foldl (stepP z) ((valV kv (.inr z)).toList, 0)).2), v4] ∧ H' p = some (.tup ((Rs.take i).foldl (stepP z) ((valV kv (.inr z)).toList, 0)).1) ∧ Fr Λ [] H H')
        ⟨p, _, by rw [List.take_zero, List.foldl_nil, ← e1]; rfl, by rw [List.take_zero, List.foldl_nil, ← e1]; exact hp1, hF⟩ ?_ ?_ ?_
      · rintro i σ H1 ⟨q, v4, rfl, hq, hF1⟩
        walk_at "h"
      · rintro i x σ H1 hi hx ⟨q, v4, rfl, hq, hF1⟩
        rw [List.length_map] at hi
        have hx2 : (Rs.map fun R => V.ref R.r)[i]? = some (V.ref Rs[i].r) := by simp [hi]
        rw [hx2] at hx
        cases hx
        obtain ⟨hR, htp⟩ := i4 Rs[i] (List.getElem_mem hi)
        have hR1 := hF1.at hR nm_nil rfl
        have htp1 := hF1.tup htp
        have hnx : (Rs.take (i + 1)).foldl (stepP z) ((valV kv (.inr z)).toList, 0) = stepP z ((Rs.take i).foldl (stepP z) ((valV kv (.inr z)).toList, 0)) Rs[i] := by
          rw [List.take_add_one, List.getElem?_eq_getElem hi, List.foldl_append]
          rfl
        rw [hnx]
        generalize (Rs.take i).foldl (stepP z) ((valV kv (.inr z)).toList, 0) = acc at hq ⊢
        generalize Rs[i] = R at hR1 htp1 ⊢
        obtain ⟨Rr, Rdx, Rz, Rtp, Rxs, Rt⟩ := R
        dsimp only at hR1 htp1 ⊢
        cases Rt with
        | none =>
          have hR1 : H1 Rr = some (.ins CR Rdx [("places", .ref pl), ("name", .str Rz), ("values_shown", .ref Rtp), ("turn", .non)]) := hR1
          walk_at "rr"
          refine rd_ite (fun hz => ?_) (fun hz => ?_)
          · walk_at "rr"
            refine iteF ?_
            walk_at "rr"
            refine iteF ?_
            walk_at "rr"
            exact ⟨q, _, rfl, hq, hF1⟩
          · refine iteF ?_
            walk_at "rr"
            exact ⟨q, _, rfl, hq, hF1⟩
        | some t =>
          have hR1 : H1 Rr = some (.ins CR Rdx [("places", .ref pl), ("name", .str Rz), ("values_shown", .ref Rtp), ("turn", .int t)]) := hR1
          have es : stepP z acc { r := Rr, dx := Rdx, z := Rz, tp := Rtp, xs := Rxs, t := some t } = if Rz = z ∧ acc.2 < t then (Rxs, t) else acc := rfl
          rw [es]
          walk_at "rr"
          refine rd_ite (fun hz => ?_) (fun hz => ?_)
          · walk_at "rr"
            refine iteT ?_
            walk_at "rr"
            refine rd_ite (fun hl => ?_) (fun hl => ?_)
            · walk_at "rr"
              rw [if_pos ⟨hz, hl⟩]
              exact ⟨Rtp, _, rfl, htp1, hF1⟩
            · walk_at "rr"
              rw [if_neg (fun h => hl h.2)]
              exact ⟨q, _, rfl, hq, hF1⟩
          · refine iteF ?_
            walk_at "rr"
            rw [if_neg (fun h => hz h.1)]
            exact ⟨q, _, rfl, hq, hF1⟩
      · rintro σ H1 ⟨q, v4, rfl, hq, hF1⟩
        rw [List.length_map, List.take_length] at hq
        walk_at "rr"
        exact k q H1 hq hF1
end
end Z

end
section
local macro_rules | `(tactic| walk_at "ne") => `(tactic| first
  | assumption
  | (refine Z.ne_sym ?_; assumption)
  | (refine' Z.ne_new ?ka ?kb; (case ka => assumption); (case kb => walk_at "h"))
  | (refine' Z.ne_sym (Z.ne_new ?ka ?kb); (case ka => assumption); (case kb => walk_at "h"))
  | ((with_reducible refine' Z.ne_nw ?ka ?kb ?kc); (case ka => assumption); (case kb => walk_at "h"); (case kc => rfl))
  | ((with_reducible refine' Z.ne_sym (Z.ne_nw ?ka ?kb ?kc)); (case ka => assumption); (case kb => walk_at "h"); (case kc => rfl))
  | exact L2.ne_of (by assumption) (by assumption) (by intro z; cases z)
  | exact Z.ne_sym (L2.ne_of (by assumption) (by assumption) (by intro z; cases z)))
local macro_rules | `(tactic| walk_at "nm") => `(tactic| first
  | exact Z.nm_nil
  | exact Z.nm_cons (by walk_at "ne") (by walk_at "nm"))
local macro_rules | `(tactic| walk_at "h") => `(tactic| first
  | assumption
  | exact L2.upd_same
  | ((with_reducible refine' Eq.trans (L2.upd_ne ?ka) ?kb); (case ka => walk_at "ne"); (case kb => walk_at "h"))
  | ((with_reducible refine' Z.Fr.at ?ka ?kb ?kc ?kd); (case ka => assumption); (case kb => walk_at "h"); (case kc => walk_at "nm"); (case kd => rfl))
  | ((with_reducible refine' Z.Fr.tup ?ka ?kb); (case ka => assumption); (case kb => walk_at "h")))
local macro_rules | `(tactic| walk_at "free") => `(tactic| first
  | assumption
  | exact Z.Nw.of (by assumption)
  | ((with_reducible refine' Z.Fr.free ?ka ?kb); (case ka => assumption); (case kb => walk_at "free")))
local macro_rules | `(tactic| walk_at "ms") => `(tactic| first
  | exact Or.inl List.mem_cons_self
  | exact Or.inl (List.mem_cons_of_mem _ List.mem_cons_self)
  | (left; simp; done)
  | (right; walk_at "free"))
local macro_rules | `(tactic| walk_at "sub") => `(tactic| first
  | exact Z.sub_nil
  | ((with_reducible refine' Z.sub_cons ?ka ?kb); (case ka => walk_at "ms"); (case kb => walk_at "sub")))
local macro_rules | `(tactic| walk_at "fr") => `(tactic| first
  | assumption
  | exact Z.Fr.refl _ _
  | ((with_reducible refine' Z.Fr.new ?ka ?kb); (case kb => assumption); (case ka => walk_at "fr"))
  | ((with_reducible refine' Z.Fr.upd ?ka ?kb ?kc ?kd ?ke); (case kb => walk_at "ms"); (case kc => walk_at "h"); (case kd => rfl); (case ke => rfl); (case ka => walk_at "fr"))
  | ((with_reducible refine' Z.Fr.step ?ka ?kb ?kc); (case ka => assumption); (case kb => walk_at "fr"); (case kc => walk_at "sub")))
local macro_rules | `(tactic| walk_at "dt") => `(tactic| first
  | assumption
  | (refine Z.DT.new ?_ (by assumption); walk_at "dt")
  | (refine Z.DTs.new ?_ (by assumption); walk_at "dt")
  | (refine' Z.DT.wr ?ka ?kb ?kc; (case kb => walk_at "h"); (case kc => rfl); (case ka => walk_at "dt"))
  | (refine' Z.DTs.wr ?ka ?kb ?kc; (case kb => walk_at "h"); (case kc => rfl); (case ka => walk_at "dt"))
  | (refine' Z.DT.fr ?ka ?kb; (case kb => assumption); (case ka => walk_at "dt"))
  | (refine' Z.DTs.fr ?ka ?kb; (case kb => assumption); (case ka => walk_at "dt")))
local macro_rules | `(tactic| walk_at "len") => `(tactic| first
  | exact Z.lt_ok (Nat.le_of_ble_eq_true (by with_unfolding_all rfl))
  | exact Z.le_ok (Nat.le_of_ble_eq_true (by with_unfolding_all rfl))
  | (apply Z.lt_ok; (try simp only [List.length_append, List.length_cons, List.length_nil, List.length_map, List.length_set, List.length_eraseIdx] at *); omega)
  | (apply Z.le_ok; (try simp only [List.length_append, List.length_cons, List.length_nil, List.length_map, List.length_set, List.length_eraseIdx] at *); omega))
local macro_rules | `(tactic| walk_at "r") => `(tactic| first
  | (with_reducible refine Z.rd_seq ?_)
  | (with_reducible refine Z.rd_asg ?_)
  | (with_reducible refine Z.rd_gname ?_)
  | (with_reducible refine Z.rd_ifs ?_)
  | (with_reducible refine Z.rd_next ?_)
  | (with_reducible refine Z.rd_and ?_)
  | (with_reducible refine Z.rd_or ?_)
  | (with_reducible refine Z.rd_not ?_)
  | (with_reducible refine Z.rd_test ?_)
  | (with_reducible refine Z.rd_tb ?_)
  | (with_reducible refine Z.rd_bl ?_)
  | (with_reducible refine Z.rd_op ?_)
  | (with_reducible refine Z.rd_c ?_)
  | ((with_reducible refine' Z.rd_var ?ka ?_); (case ka => with_unfolding_all rfl))
  | (with_reducible refine Z.rd_ret ?_)
  | (with_reducible refine Z.rd_retn ?_)
  | (with_reducible refine Z.rd_drop ?_)
  | (with_reducible refine Z.rd_nil ?_)
  | (with_reducible refine Z.rd_cons ?_)
  | (with_reducible refine Z.rd_cb ?_)
  | (with_reducible refine Z.rd_call ?_)
  | (with_reducible refine Z.rd_dget0 ?_)
  | ((with_reducible refine' Z.rd_dget1 ?ka ?kb ?_); (case ka => walk_at "h"); (case kb => with_unfolding_all rfl))
  | (with_reducible refine Z.rd_dput0 ?_)
  | ((with_reducible refine' Z.rd_dput1 ?ka ?kb ?_); (case ka => walk_at "h"); (case kb => walk_at "len"))
  | (with_reducible refine Z.rd_eqi ?_)
  | (with_reducible refine Z.rd_eqs ?_)
  | (with_reducible refine Z.rd_nei ?_)
  | (with_reducible refine Z.rd_nes ?_)
  | (with_reducible refine Z.rd_i0 ?_)
  | (with_reducible refine Z.rd_lst ?_)
  | (with_reducible refine Z.rd_tup ?_)
  | (with_reducible refine Z.rd_ifx ?_)
  | (with_reducible refine Z.rd_bm ?_)
  | (with_reducible refine Z.rd_bm0 ?_)
  | ((with_reducible refine' Z.rd_nil2 ?ka ?kb ?_); (case ka => walk_at "h"); (case kb => walk_at "h"))
  | ((with_reducible refine' Z.rd_nil2T ?ka ?kb ?_); (case ka => walk_at "h"); (case kb => walk_at "h"))
  | (with_reducible refine Z.rd_int1 ?_)
  | ((with_reducible refine' Z.rd_size ?ka ?_); (case ka => walk_at "len"))
  | ((with_reducible refine' Z.rd_tylist ?ka ?_); (case ka => walk_at "h"))
  | ((with_reducible refine' Z.rd_i ?ka ?_); (case ka => walk_at "num"))
  | ((with_reducible refine' Z.rd_append ?ka ?kb ?_); (case ka => walk_at "h"); (case kb => walk_at "len"))
  | (with_reducible refine Z.rd_for' ?_)
  | (with_reducible refine Z.rd_lc' ?_)
  | (with_reducible refine Z.rd_un ?_)
  | (with_reducible refine Z.rd_gm ?_)
  | (with_reducible refine Z.rd_xk ?_)
  | (with_reducible refine Z.rd_stard ?_)
  | ((with_reducible refine' Z.rd_stard1 ?ka ?_); (case ka => walk_at "h"))
  | (with_reducible refine Z.rd_star ?_)
  | ((with_reducible refine' Z.rd_star1 ?ka ?_); (case ka => walk_at "h"))
  | (with_reducible refine Z.rd_dc' ?_)
  | (with_reducible refine Z.rd_dnew ?_)
  | (with_reducible refine Z.rd_dpop ?_)
  | ((with_reducible refine' Z.rd_isd ?ka ?_); (case ka => walk_at "h"))
  | (with_reducible refine Z.rd_fldaug ?_)
  | (with_reducible refine Z.rd_ilt ?_)
  | (with_reducible refine Z.rd_mko ?_)
  | (with_reducible refine Z.rd_gk ?_)
  | (with_reducible refine Z.rd_gp ?_)
  | ((with_reducible refine' Z.rd_ins1 ?ka ?_); (case ka => walk_at "h"))
  | (with_reducible refine Z.rd_disp ?_)
  | (with_reducible refine Z.rd_pnil ?_)
  | (with_reducible refine Z.rd_pcons ?_)
  | (with_reducible refine Z.rd_m1 ?_)
  | (with_reducible refine Z.rd_isstr ?_)
  | (with_reducible refine Z.rd_sl ?_)
  | (with_reducible refine Z.rd_nopart ?_)
  | (with_reducible refine Z.rd_part ?_)
  | (with_reducible refine Z.rd_part1 ?_)
  | (with_reducible refine Z.rd_u ?_)
  | (with_reducible refine Z.rd_ilist ?_)
  | (with_reducible refine Z.rd_itup ?_)
  | (with_reducible refine Z.rd_istr ?_)
  | (with_reducible refine Z.rd_irng1 ?_)
  | (with_reducible refine Z.rd_yes ?_)
  | (with_reducible refine Z.rd_sfld0 ?_)
  | (with_reducible refine Z.rd_fld0 ?_)
  | (with_reducible refine Z.rd_din ?_)
  | (with_reducible refine Z.rd_dnotin ?_)
  | (with_reducible refine Z.rd_isn ?_)
  | (with_reducible refine Z.rd_notn ?_)
  | (with_reducible refine Z.rd_par ?_)
  | (with_reducible refine Z.rd_par1 ?_)
  | (with_reducible refine Z.rd_gnil ?_)
  | (with_reducible refine Z.rd_gcons ?_)
  | (with_reducible refine Z.rd_chain ?_)
  | (with_reducible refine Z.rd_andv ?_)
  | (with_reducible refine Z.rd_orv ?_)
  | (with_reducible refine Z.rd_notv ?_)
  | (with_reducible refine Z.rd_meth ?_)
  | (with_reducible refine Z.rd_while ?_)
  | ((with_reducible refine' Z.rd_ixl ?ka ?kb ?_); (case ka => walk_at "h"); (case kb => walk_at "ati"))
  | ((with_reducible refine' Z.rd_ixt ?ka ?kb ?_); (case ka => walk_at "h"); (case kb => walk_at "ati"))
  | ((with_reducible refine' Z.rd_len ?ka ?_); (case ka => walk_at "h"))
  | ((with_reducible refine' Z.rd_lens ?ka ?_); (case ka => walk_at "h"))
  | ((with_reducible refine' Z.rd_lent ?ka ?_); (case ka => walk_at "h"))
  | ((with_reducible refine' Z.rd_lstof ?ka ?_); (case ka => walk_at "h"))
  | ((with_reducible refine' Z.rd_tupof ?ka ?_); (case ka => walk_at "h"))
  | ((with_reducible refine' Z.rd_sfld1 ?ka ?kb ?kc ?kd ?_); (case ka => walk_at "h"); (case kb => assumption); (case kc => assumption); (case kd => (first | (with_unfolding_all decide) | exact Nat.le_of_ble_eq_true (by with_unfolding_all rfl))))
  | ((with_reducible refine' Z.rd_fld1 ?ka ?kb ?kc ?kd ?_); (case ka => walk_at "h"); (case kb => assumption); (case kc => assumption); (case kd => with_unfolding_all rfl))
  | ((with_reducible refine' Z.rd_din1 ?ka ?_); (case ka => walk_at "h"))
  | ((with_reducible refine' Z.rd_gtup ?ka ?kb ?_); (case ka => walk_at "h"); (case kb => with_unfolding_all rfl))
  | ((with_reducible refine' Z.rd_catl ?ka ?kb ?kc ?_); (case ka => walk_at "h"); (case kb => walk_at "h"); (case kc => walk_at "len"))
  | ((with_reducible refine' Z.rd_meth1 ?ka ?kb ?_); (case ka => walk_at "h"); (case kb => with_unfolding_all rfl))
  | ((with_reducible refine' Z.rd_addstr ?ka ?_); (case ka => walk_at "len")))
local macro_rules | `(tactic| walk_at "ati") => `(tactic| first
  | assumption
  | (with_unfolding_all rfl)
  | exact L2.atI_nat (by assumption)
  | exact L2.atI_nat (by with_unfolding_all rfl)
  | exact L2.atI_last _ _)
local macro_rules | `(tactic| walk_at "rr") => `(tactic| repeat (walk_at "r"))
local macro_rules | `(tactic| walk_at "num") => `(tactic| first
  | (with_unfolding_all decide)
  | (show (_ : Int) ≠ 0; omega)
  | (show (_ : Int) ≠ 0 ∧ _ < 1073741824; exact ⟨by omega, by omega⟩)
  | (show (0 : Int) ≤ _ ∧ _ ≤ (1000000 : Int) ∧ _; exact ⟨by decide, by decide, by omega⟩)
  | (show (-(2 ^ 64) < (_ : Int) ∧ _ < 2 ^ 64) ∨ _; (first | (left; exact ⟨by omega, by omega⟩) | (right; exact ⟨by omega, by omega⟩)))
  | omega)
namespace Z
open PySem PySem.Spec PyProof.Rows L2
abbrev s_Places_has : Stmt := inClass (top 17) 3
abbrev n_Places_has : List Str := ["self", "name"]
theorem sc_Places_has : FnScope n_Places_has ["self", "name"] (defScope s_Places_has) := ⟨rfl, rfl, rfl, by decide +kernel, rfl, by decide +kernel, by decide +kernel⟩
abbrev s_Places_read : Stmt := inClass (top 17) 2
abbrev n_Places_read : List Str := ["self", "name"]
theorem sc_Places_read : FnScope n_Places_read ["self", "name"] (defScope s_Places_read) := ⟨rfl, rfl, rfl, by decide +kernel, rfl, by decide +kernel, by decide +kernel⟩
def sp_has (Λ : List (Addr × Str)) (C CR : Addr) : Sp := fun vs H Q _ => ∃ (pl dx hd md : Addr) (kv : List (L2.Key × V)) (Rs : List Rp) (tn : Int) (z : Str), vs = [.ref pl, .str z] ∧ z.length ≤ 100000 ∧ Pl C CR H pl dx hd md kv Rs tn ∧
  ∀ H', Fr Λ [] H H' → Q (.bl (nmB z && !(seenP kv Rs z).isEmpty)) H'
def sp_read (Λ : List (Addr × Str)) (C CR CN : Addr) : Sp := fun vs H Q E => ∃ (pl dx hd md : Addr) (kv : List (L2.Key × V)) (Rs : List Rp) (tn : Int) (z : Str), vs = [.ref pl, .str z] ∧ nmB z = true ∧ Pl C CR H pl dx hd md kv Rs tn ∧
  (∀ v vs H', seenP kv Rs z = v :: vs → Fr Λ [] H H' → Q v H') ∧ ∀ d H', seenP kv Rs z = [] → Fr Λ [] H H' → H' d = none → E (.ref CN) (some d) (L2.upd H' d (.xd [("name", .str z)]))
structure G50 (γ : Bool) (Λ : List (Addr × Str)) (P : Program) (w : World) (K : PySem.W.Frag) (mg : Str → Option Value) (base : Heap) (C CR : Addr) : Prop where
  is_name : GD γ P w K mg base "is_name" ["thing"] 2 (sp_is_name Λ K)
  Places_seen_at : GM γ P w K mg base C "seen_at" 1 (sp_seen Λ C CR)
structure G5 (γ : Bool) (Λ : List (Addr × Str)) (P : Program) (w : World) (K : PySem.W.Frag) (mg : Str → Option Value) (base : Heap) (C CR : Addr) : Prop where
  is_name : GD γ P w K mg base "is_name" ["thing"] 2 (sp_is_name Λ K)
  Places_seen_at : GM γ P w K mg base C "seen_at" 1 (sp_seen Λ C CR)
  Places_has : GM γ P w K mg base C "has" 3 (sp_has Λ C CR)
structure T5 (P : Program) (K : PySem.W.Frag) (mg : Str → Option Value) (C CR CN : Addr) : Prop extends TP K mg C CR where
  x_NoPlace : XSup P K mg "NoPlace" CN "name"
theorem nm_short {z : Str} (h : nmB z = true) : z.length ≤ 8 := by
  rw [cl_len]
  exact (wdB_le (nmB_wd h)).2.1
theorem nm_repr {z : Str} (h : nmB z = true) : (reprText z).length ≤ 100000 := by
  have h8 := nm_short h
  have := StrLaws.reprText_len z fun c hc => by
    have := (wdB_le (nmB_wd h)).2.2 c hc
    unfold lowB at this
    simp only [Bool.and_eq_true, decide_eq_true_eq] at this
    omega
  omega
section
variable {γ : Bool} {Λ : List (Addr × Str)} {P : Program} {w : World} {K : PySem.W.Frag} {mg : Str → Option Value} {base : Heap} {C CR CN : Addr}
theorem ok_has {f : Addr} {fd : FuncData} (F : Fun K "has" "Places.has" s_Places_has f fd) (T : T5 P K mg C CR CN) (G : G50 γ Λ P w K mg base C CR) : GOk γ P w K mg base 3 f fd ["self", "name"] (sp_has Λ C CR) := by
  refine g_of F sc_Places_has (fun vs H Q E h => ?_) (fun cdv A outer s H vs Q E hA hr h => ?_)
  · obtain ⟨pl, dx, hd, md, kv, Rs, tn, z, rfl, _⟩ := h
    rfl
  · obtain ⟨pl, dx, hd, md, kv, Rs, tn, z, rfl, hz, hP, k⟩ := h
    have hu := hu_of hr
    refine ⟨_, (pss_one (ps_ret (pe_and (pe_g G.is_name (by first | exact hA | exact fun z => nomatch z) (hr.mono (by first | decide | omega)) rfl passL (pa_cons (pv 1) pa_nil)) (pe_one (pe_cmpR (op_neNilT hr.units0) (pe_gm G.Places_seen_at T.cP (by first | exact hA | exact fun z => nomatch z) (hr.mono (by first | decide | omega)) passL (pv 0) (pa_cons (pv 1) pa_nil)) (pe_tup pa_nil) (nomark _)))))), ?_⟩
    walk_at "rr"
    refine ⟨_, rfl, .inl ⟨z, rfl, le_ok hz, fun H1 hF1 => ⟨_, rfl, rd_iteb (fun h => ?_) (fun h => ?_)⟩⟩⟩
    · have hP1 := hP.keep0 hF1
      have i1 := hP1.ins
      walk_at "rr"
      refine ⟨pl, dx, hd, md, kv, Rs, tn, z, rfl, hP1, fun p H2 hp hF2 => ?_⟩
      walk_at "rr"
      intro e he
      walk_at "rr"
      have := k (L2.upd H2 e (.tup [])) (by walk_at "fr")
      rw [h] at this
      exact this
    · have := k H1 hF1
      rw [h] at this
      exact this
theorem ok_read {f : Addr} {fd : FuncData} (F : Fun K "read" "Places.read" s_Places_read f fd) (T : T5 P K mg C CR CN) (G : G5 γ Λ P w K mg base C CR) : GOk γ P w K mg base 4 f fd ["self", "name"] (sp_read Λ C CR CN) := by
  refine g_of F sc_Places_read (fun vs H Q E h => ?_) (fun cdv A outer s H vs Q E hA hr h => ?_)
  · obtain ⟨pl, dx, hd, md, kv, Rs, tn, z, rfl, _⟩ := h
    rfl
  · obtain ⟨pl, dx, hd, md, kv, Rs, tn, z, rfl, hz, hP, k1, k2⟩ := h
    have hu := hu_of hr
    refine ⟨_, (pss_cons (ps_if (pt_not (pt_val (pe_gm G.Places_has T.cP (by first | exact hA | exact fun z => nomatch z) (hr.mono (by first | decide | omega)) passL (pv 0) (pa_cons (pv 1) pa_nil))))
      (pss_one (ps_raise rfl takeE (pmk_xsup T.x_NoPlace (hr.mono (by first | decide | omega)) rfl (pv 1))))
      pss_nil)
      (pss_one (ps_ret (pe_ix ix_tup (pe_gm G.Places_seen_at T.cP (by first | exact hA | exact fun z => nomatch z) (hr.mono (by first | decide | omega)) passL (pv 0) (pa_cons (pv 1) pa_nil)) pe_int (fun _ _ => rfl))))), ?_⟩
    have i1 := hP.ins
    walk_at "rr"
    refine ⟨pl, dx, hd, md, kv, Rs, tn, z, rfl, Nat.le_trans (nm_short hz) (by decide), hP, fun H1 hF1 => ?_⟩
    rw [hz]
    have hP1 := hP.keep0 hF1
    have i1 := hP1.ins
    cases hs : seenP kv Rs z with
    | nil =>
      refine ⟨_, rfl, iteT ?_⟩
      walk_at "rr"
      exact rd_sup (nm_repr hz) fun d hd => k2 d H1 hs hF1 hd
    | cons v vs =>
      refine ⟨_, rfl, iteF ?_⟩
      walk_at "rr"
      refine ⟨pl, dx, hd, md, kv, Rs, tn, z, rfl, hP1, fun p H2 hp hF2 => ?_⟩
      rw [hs] at hp
      walk_at "rr"
      exact k1 v vs _ hs (by walk_at "fr")
end
end Z

end
section
local macro_rules | `(tactic| walk_at "ne") => `(tactic| first
  | assumption
  | (refine Z.ne_sym ?_; assumption)
  | (refine' Z.ne_new ?ka ?kb; (case ka => assumption); (case kb => walk_at "h"))
  | (refine' Z.ne_sym (Z.ne_new ?ka ?kb); (case ka => assumption); (case kb => walk_at "h"))
  | ((with_reducible refine' Z.ne_nw ?ka ?kb ?kc); (case ka => assumption); (case kb => walk_at "h"); (case kc => rfl))
  | ((with_reducible refine' Z.ne_sym (Z.ne_nw ?ka ?kb ?kc)); (case ka => assumption); (case kb => walk_at "h"); (case kc => rfl))
  | exact L2.ne_of (by assumption) (by assumption) (by intro z; cases z)
  | exact Z.ne_sym (L2.ne_of (by assumption) (by assumption) (by intro z; cases z)))
local macro_rules | `(tactic| walk_at "nm") => `(tactic| first
  | exact Z.nm_nil
  | exact Z.nm_cons (by walk_at "ne") (by walk_at "nm"))
local macro_rules | `(tactic| walk_at "h") => `(tactic| first
  | assumption
  | exact L2.upd_same
  | ((with_reducible refine' Eq.trans (L2.upd_ne ?ka) ?kb); (case ka => walk_at "ne"); (case kb => walk_at "h"))
  | ((with_reducible refine' Z.Fr.at ?ka ?kb ?kc ?kd); (case ka => assumption); (case kb => walk_at "h"); (case kc => walk_at "nm"); (case kd => rfl))
  | ((with_reducible refine' Z.Fr.tup ?ka ?kb); (case ka => assumption); (case kb => walk_at "h")))
local macro_rules | `(tactic| walk_at "free") => `(tactic| first
  | assumption
  | exact Z.Nw.of (by assumption)
  | ((with_reducible refine' Z.Fr.free ?ka ?kb); (case ka => assumption); (case kb => walk_at "free")))
local macro_rules | `(tactic| walk_at "ms") => `(tactic| first
  | exact Or.inl List.mem_cons_self
  | exact Or.inl (List.mem_cons_of_mem _ List.mem_cons_self)
  | (left; simp; done)
  | (right; walk_at "free"))
local macro_rules | `(tactic| walk_at "sub") => `(tactic| first
  | exact Z.sub_nil
  | ((with_reducible refine' Z.sub_cons ?ka ?kb); (case ka => walk_at "ms"); (case kb => walk_at "sub")))
local macro_rules | `(tactic| walk_at "fr") => `(tactic| first
  | assumption
  | exact Z.Fr.refl _ _
  | ((with_reducible refine' Z.Fr.new ?ka ?kb); (case kb => assumption); (case ka => walk_at "fr"))
  | ((with_reducible refine' Z.Fr.upd ?ka ?kb ?kc ?kd ?ke); (case kb => walk_at "ms"); (case kc => walk_at "h"); (case kd => rfl); (case ke => rfl); (case ka => walk_at "fr"))
  | ((with_reducible refine' Z.Fr.step ?ka ?kb ?kc); (case ka => assumption); (case kb => walk_at "fr"); (case kc => walk_at "sub")))
local macro_rules | `(tactic| walk_at "dt") => `(tactic| first
  | assumption
  | (refine Z.DT.new ?_ (by assumption); walk_at "dt")
  | (refine Z.DTs.new ?_ (by assumption); walk_at "dt")
  | (refine' Z.DT.wr ?ka ?kb ?kc; (case kb => walk_at "h"); (case kc => rfl); (case ka => walk_at "dt"))
  | (refine' Z.DTs.wr ?ka ?kb ?kc; (case kb => walk_at "h"); (case kc => rfl); (case ka => walk_at "dt"))
  | (refine' Z.DT.fr ?ka ?kb; (case kb => assumption); (case ka => walk_at "dt"))
  | (refine' Z.DTs.fr ?ka ?kb; (case kb => assumption); (case ka => walk_at "dt")))
local macro_rules | `(tactic| walk_at "len") => `(tactic| first
  | exact Z.lt_ok (Nat.le_of_ble_eq_true (by with_unfolding_all rfl))
  | exact Z.le_ok (Nat.le_of_ble_eq_true (by with_unfolding_all rfl))
  | (apply Z.lt_ok; (try simp only [List.length_append, List.length_cons, List.length_nil, List.length_map, List.length_set, List.length_eraseIdx] at *); omega)
  | (apply Z.le_ok; (try simp only [List.length_append, List.length_cons, List.length_nil, List.length_map, List.length_set, List.length_eraseIdx] at *); omega))
local macro_rules | `(tactic| walk_at "r") => `(tactic| first
  | (with_reducible refine Z.rd_seq ?_)
  | (with_reducible refine Z.rd_asg ?_)
  | (with_reducible refine Z.rd_gname ?_)
  | (with_reducible refine Z.rd_ifs ?_)
  | (with_reducible refine Z.rd_next ?_)
  | (with_reducible refine Z.rd_and ?_)
  | (with_reducible refine Z.rd_or ?_)
  | (with_reducible refine Z.rd_not ?_)
  | (with_reducible refine Z.rd_test ?_)
  | (with_reducible refine Z.rd_tb ?_)
  | (with_reducible refine Z.rd_bl ?_)
  | (with_reducible refine Z.rd_op ?_)
  | (with_reducible refine Z.rd_c ?_)
  | ((with_reducible refine' Z.rd_var ?ka ?_); (case ka => with_unfolding_all rfl))
  | (with_reducible refine Z.rd_ret ?_)
  | (with_reducible refine Z.rd_retn ?_)
  | (with_reducible refine Z.rd_drop ?_)
  | (with_reducible refine Z.rd_nil ?_)
  | (with_reducible refine Z.rd_cons ?_)
  | (with_reducible refine Z.rd_cb ?_)
  | (with_reducible refine Z.rd_call ?_)
  | (with_reducible refine Z.rd_dget0 ?_)
  | ((with_reducible refine' Z.rd_dget1 ?ka ?kb ?_); (case ka => walk_at "h"); (case kb => with_unfolding_all rfl))
  | (with_reducible refine Z.rd_dput0 ?_)
  | ((with_reducible refine' Z.rd_dput1 ?ka ?kb ?_); (case ka => walk_at "h"); (case kb => walk_at "len"))
  | (with_reducible refine Z.rd_eqi ?_)
  | (with_reducible refine Z.rd_eqs ?_)
  | (with_reducible refine Z.rd_nei ?_)
  | (with_reducible refine Z.rd_nes ?_)
  | (with_reducible refine Z.rd_i0 ?_)
  | (with_reducible refine Z.rd_lst ?_)
  | (with_reducible refine Z.rd_tup ?_)
  | (with_reducible refine Z.rd_ifx ?_)
  | (with_reducible refine Z.rd_bm ?_)
  | (with_reducible refine Z.rd_bm0 ?_)
  | ((with_reducible refine' Z.rd_nil2 ?ka ?kb ?_); (case ka => walk_at "h"); (case kb => walk_at "h"))
  | ((with_reducible refine' Z.rd_nil2T ?ka ?kb ?_); (case ka => walk_at "h"); (case kb => walk_at "h"))
  | (with_reducible refine Z.rd_int1 ?_)
  | ((with_reducible refine' Z.rd_size ?ka ?_); (case ka => walk_at "len"))
  | ((with_reducible refine' Z.rd_tylist ?ka ?_); (case ka => walk_at "h"))
  | ((with_reducible refine' Z.rd_i ?ka ?_); (case ka => walk_at "num"))
  | ((with_reducible refine' Z.rd_append ?ka ?kb ?_); (case ka => walk_at "h"); (case kb => walk_at "len"))
  | (with_reducible refine Z.rd_for' ?_)
  | (with_reducible refine Z.rd_lc' ?_)
  | (with_reducible refine Z.rd_un ?_)
  | (with_reducible refine Z.rd_gm ?_)
  | (with_reducible refine Z.rd_xk ?_)
  | (with_reducible refine Z.rd_stard ?_)
  | ((with_reducible refine' Z.rd_stard1 ?ka ?_); (case ka => walk_at "h"))
  | (with_reducible refine Z.rd_star ?_)
  | ((with_reducible refine' Z.rd_star1 ?ka ?_); (case ka => walk_at "h"))
  | (with_reducible refine Z.rd_dc' ?_)
  | (with_reducible refine Z.rd_dnew ?_)
  | (with_reducible refine Z.rd_dpop ?_)
  | ((with_reducible refine' Z.rd_isd ?ka ?_); (case ka => walk_at "h"))
  | (with_reducible refine Z.rd_fldaug ?_)
  | (with_reducible refine Z.rd_ilt ?_)
  | (with_reducible refine Z.rd_mko ?_)
  | (with_reducible refine Z.rd_gk ?_)
  | (with_reducible refine Z.rd_gp ?_)
  | ((with_reducible refine' Z.rd_ins1 ?ka ?_); (case ka => walk_at "h"))
  | (with_reducible refine Z.rd_disp ?_)
  | (with_reducible refine Z.rd_pnil ?_)
  | (with_reducible refine Z.rd_pcons ?_)
  | (with_reducible refine Z.rd_m1 ?_)
  | (with_reducible refine Z.rd_isstr ?_)
  | (with_reducible refine Z.rd_sl ?_)
  | (with_reducible refine Z.rd_nopart ?_)
  | (with_reducible refine Z.rd_part ?_)
  | (with_reducible refine Z.rd_part1 ?_)
  | (with_reducible refine Z.rd_u ?_)
  | (with_reducible refine Z.rd_ilist ?_)
  | (with_reducible refine Z.rd_itup ?_)
  | (with_reducible refine Z.rd_istr ?_)
  | (with_reducible refine Z.rd_irng1 ?_)
  | (with_reducible refine Z.rd_yes ?_)
  | (with_reducible refine Z.rd_sfld0 ?_)
  | (with_reducible refine Z.rd_fld0 ?_)
  | (with_reducible refine Z.rd_din ?_)
  | (with_reducible refine Z.rd_dnotin ?_)
  | (with_reducible refine Z.rd_isn ?_)
  | (with_reducible refine Z.rd_notn ?_)
  | (with_reducible refine Z.rd_par ?_)
  | (with_reducible refine Z.rd_par1 ?_)
  | (with_reducible refine Z.rd_gnil ?_)
  | (with_reducible refine Z.rd_gcons ?_)
  | (with_reducible refine Z.rd_chain ?_)
  | (with_reducible refine Z.rd_andv ?_)
  | (with_reducible refine Z.rd_orv ?_)
  | (with_reducible refine Z.rd_notv ?_)
  | (with_reducible refine Z.rd_meth ?_)
  | (with_reducible refine Z.rd_while ?_)
  | ((with_reducible refine' Z.rd_ixl ?ka ?kb ?_); (case ka => walk_at "h"); (case kb => walk_at "ati"))
  | ((with_reducible refine' Z.rd_ixt ?ka ?kb ?_); (case ka => walk_at "h"); (case kb => walk_at "ati"))
  | ((with_reducible refine' Z.rd_len ?ka ?_); (case ka => walk_at "h"))
  | ((with_reducible refine' Z.rd_lens ?ka ?_); (case ka => walk_at "h"))
  | ((with_reducible refine' Z.rd_lent ?ka ?_); (case ka => walk_at "h"))
  | ((with_reducible refine' Z.rd_lstof ?ka ?_); (case ka => walk_at "h"))
  | ((with_reducible refine' Z.rd_tupof ?ka ?_); (case ka => walk_at "h"))
  | ((with_reducible refine' Z.rd_sfld1 ?ka ?kb ?kc ?kd ?_); (case ka => walk_at "h"); (case kb => assumption); (case kc => assumption); (case kd => (first | (with_unfolding_all decide) | exact Nat.le_of_ble_eq_true (by with_unfolding_all rfl))))
  | ((with_reducible refine' Z.rd_fld1 ?ka ?kb ?kc ?kd ?_); (case ka => walk_at "h"); (case kb => assumption); (case kc => assumption); (case kd => with_unfolding_all rfl))
  | ((with_reducible refine' Z.rd_din1 ?ka ?_); (case ka => walk_at "h"))
  | ((with_reducible refine' Z.rd_gtup ?ka ?kb ?_); (case ka => walk_at "h"); (case kb => with_unfolding_all rfl))
  | ((with_reducible refine' Z.rd_catl ?ka ?kb ?kc ?_); (case ka => walk_at "h"); (case kb => walk_at "h"); (case kc => walk_at "len"))
  | ((with_reducible refine' Z.rd_meth1 ?ka ?kb ?_); (case ka => walk_at "h"); (case kb => with_unfolding_all rfl))
  | ((with_reducible refine' Z.rd_addstr ?ka ?_); (case ka => walk_at "len")))
local macro_rules | `(tactic| walk_at "ati") => `(tactic| first
  | assumption
  | (with_unfolding_all rfl)
  | exact L2.atI_nat (by assumption)
  | exact L2.atI_nat (by with_unfolding_all rfl)
  | exact L2.atI_last _ _)
local macro_rules | `(tactic| walk_at "rr") => `(tactic| repeat (walk_at "r"))
local macro_rules | `(tactic| walk_at "num") => `(tactic| first
  | (with_unfolding_all decide)
  | (show (_ : Int) ≠ 0; omega)
  | (show (_ : Int) ≠ 0 ∧ _ < 1073741824; exact ⟨by omega, by omega⟩)
  | (show (0 : Int) ≤ _ ∧ _ ≤ (1000000 : Int) ∧ _; exact ⟨by decide, by decide, by omega⟩)
  | (show (-(2 ^ 64) < (_ : Int) ∧ _ < 2 ^ 64) ∨ _; (first | (left; exact ⟨by omega, by omega⟩) | (right; exact ⟨by omega, by omega⟩)))
  | omega)
namespace Z
open PySem PySem.Spec PyProof.Rows L2
abbrev s_Places___init__ : Stmt := inClass (top 17) 0
abbrev n_Places___init__ : List Str := ["self", "contents", "name", "value"]
theorem sc_Places___init__ : FnScope n_Places___init__ ["self", "contents"] (defScope s_Places___init__) := ⟨rfl, rfl, rfl, by decide +kernel, rfl, by decide +kernel, by decide +kernel⟩
abbrev s_Places_write : Stmt := inClass (top 17) 5
abbrev n_Places_write : List Str := ["self", "name", "value"]
theorem sc_Places_write : FnScope n_Places_write ["self", "name", "value"] (defScope s_Places_write) := ⟨rfl, rfl, rfl, by decide +kernel, rfl, by decide +kernel, by decide +kernel⟩
abbrev s_Places_remove : Stmt := inClass (top 17) 6
abbrev n_Places_remove : List Str := ["self", "name"]
theorem sc_Places_remove : FnScope n_Places_remove ["self", "name"] (defScope s_Places_remove) := ⟨rfl, rfl, rfl, by decide +kernel, rfl, by decide +kernel, by decide +kernel⟩
abbrev s_Places_replaced : Stmt := inClass (top 17) 7
abbrev n_Places_replaced : List Str := ["self", "name", "values", "value", "found"]
theorem sc_Places_replaced : FnScope n_Places_replaced ["self", "name", "values"] (defScope s_Places_replaced) := ⟨rfl, rfl, rfl, by decide +kernel, rfl, by decide +kernel, by decide +kernel⟩
abbrev s_Replacement___init__ : Stmt := inClass (top 16) 0
abbrev n_Replacement___init__ : List Str := ["self", "places", "name", "values"]
theorem sc_Replacement___init__ : FnScope n_Replacement___init__ ["self", "places", "name", "values"] (defScope s_Replacement___init__) := ⟨rfl, rfl, rfl, by decide +kernel, rfl, by decide +kernel, by decide +kernel⟩
abbrev s_Replacement_in_force : Stmt := inClass (top 16) 1
abbrev n_Replacement_in_force : List Str := ["self"]
theorem sc_Replacement_in_force : FnScope n_Replacement_in_force ["self"] (defScope s_Replacement_in_force) := ⟨rfl, rfl, rfl, by decide +kernel, rfl, by decide +kernel, by decide +kernel⟩
abbrev s_Replacement_begin : Stmt := inClass (top 16) 2
abbrev n_Replacement_begin : List Str := ["self"]
theorem sc_Replacement_begin : FnScope n_Replacement_begin ["self"] (defScope s_Replacement_begin) := ⟨rfl, rfl, rfl, by decide +kernel, rfl, by decide +kernel, by decide +kernel⟩
abbrev s_Replacement_end : Stmt := inClass (top 16) 3
abbrev n_Replacement_end : List Str := ["self"]
theorem sc_Replacement_end : FnScope n_Replacement_end ["self"] (defScope s_Replacement_end) := ⟨rfl, rfl, rfl, by decide +kernel, rfl, by decide +kernel, by decide +kernel⟩
/-- small data -/
def Sm (H : Hp) (v : V) : Prop := ∃ d, DT H v d ∧ VL 2 d
theorem VL.depth : ∀ {n : Nat} {d : PyData}, VL n d → d.depth ≤ n := by
  intro n
  induction n with
  | zero =>
    intro d h
    cases h with
    | leaf _ _ h => cases d <;> first | exact Nat.le_refl _ | cases h
  | succ n ih =>
    intro d h
    cases h with
    | leaf _ _ h => cases d <;> first | exact Nat.zero_le _ | cases h
    | tup _ ds hl hd =>
      have : ∀ ds : List PyData, (∀ d ∈ ds, d.depth ≤ n) → PyData.depthAll ds ≤ n := by
        intro ds
        induction ds with
        | nil => intro _; exact Nat.zero_le _
        | cons x xs ihx => intro h; exact Nat.max_le.mpr ⟨h x (by simp), ihx fun d hd => h d (by simp [hd])⟩
      exact Nat.succ_le_succ (this ds fun d h => ih (hd d h))
theorem VL.few : ∀ {n : Nat} {d : PyData}, VL n d → fewB d = true := by
  intro n
  induction n with
  | zero =>
    intro d h
    cases h with
    | leaf _ _ h => cases d <;> first | rfl | cases h
  | succ n ih =>
    intro d h
    cases h with
    | leaf _ _ h => cases d <;> first | rfl | cases h
    | tup _ ds hl hd =>
      have : ∀ ds : List PyData, (∀ d ∈ ds, fewB d = true) → fewAll ds = true := by
        intro ds
        induction ds with
        | nil => intro _; rfl
        | cons x xs ihx =>
          intro h
          simp only [fewAll, Bool.and_eq_true]
          exact ⟨h x (by simp), ihx fun d hd => h d (by simp [hd])⟩
      simp only [fewB, Bool.and_eq_true, decide_eq_true_eq]
      exact ⟨by omega, this ds fun d h => ih (hd d h)⟩
theorem Sm.fr {Λ : List (Addr × Str)} {S : List Addr} {H H' : Hp} {v : V} (h : Sm H v) (f : Fr Λ S H H') : Sm H' v := by
  obtain ⟨d, a, b⟩ := h
  exact ⟨d, a.fr f, b⟩
def sp_need_name (Λ : List (Addr × Str)) : Sp := fun vs H Q _ => ∃ z, vs = [.str z] ∧ nmB z = true ∧ ∀ H', Fr Λ [] H H' → Q .non H'
def sp_need_value (Λ : List (Addr × Str)) : Sp := fun vs H Q _ => ∃ v, vs = [v] ∧ Sm H v ∧ ∀ H', Fr Λ [] H H' → Q .non H'
def sp_write (Λ : List (Addr × Str)) (C CR : Addr) : Sp := fun vs H Q _ => ∃ (pl dx hd md : Addr) (kv : List (L2.Key × V)) (Rs : List Rp) (tn : Int) (z : Str) (v : V), vs = [.ref pl, .str z, v] ∧ nmB z = true ∧ Sm H v ∧ Pl C CR H pl dx hd md kv Rs tn ∧ kv.length < 1000 ∧
  ∀ H', Pl C CR H' pl dx hd md (putK kv (.inr z) v) Rs tn → Fr Λ [hd] H H' → Q .non H'
def sp_remove (Λ : List (Addr × Str)) (C CR CN : Addr) : Sp := fun vs H Q E => ∃ (pl dx hd md : Addr) (kv : List (L2.Key × V)) (Rs : List Rp) (tn : Int) (z : Str), vs = [.ref pl, .str z] ∧ nmB z = true ∧ Pl C CR H pl dx hd md kv Rs tn ∧
  (∀ v H', valV kv (.inr z) = some v → Pl C CR H' pl dx hd md (dropK kv (.inr z)) Rs tn → Fr Λ [hd] H H' → Q .non H') ∧ ∀ d H', valV kv (.inr z) = none → Fr Λ [] H H' → H' d = none → E (.ref CN) (some d) (L2.upd H' d (.xd [("name", .str z)]))
def sp_rinit (Λ : List (Addr × Str)) (CR : Addr) : Sp := fun vs H Q _ => ∃ (r dx pl : Addr) (z : Str) (tp : Addr) (xs : List V), vs = [.ref r, .ref pl, .str z, .ref tp] ∧ H r = some (.ins CR dx []) ∧ H tp = some (.tup xs) ∧
  ∀ H', H' r = some (.ins CR dx (rpF pl ⟨r, dx, z, tp, xs, none⟩)) → Fr Λ [r] H H' → Q .non H'
def sp_in_force (C CR : Addr) : Sp := fun vs H Q _ => ∃ (pl : Addr) (R : Rp), vs = [.ref R.r] ∧ H R.r = some (.ins CR R.dx (rpF pl R)) ∧ Q (.bl R.t.isSome) H
def sp_begin (Λ : List (Addr × Str)) (C CR CB : Addr) : Sp := fun vs H Q E => ∃ (pl dx hd md : Addr) (kv : List (L2.Key × V)) (Rs : List Rp) (tn : Int) (i : Nat) (R : Rp), vs = [.ref R.r] ∧ Rs[i]? = some R ∧ Pl C CR H pl dx hd md kv Rs tn ∧
  (∀ H', R.t = none → Pl C CR H' pl dx hd md kv (Rs.set i { R with t := some (tn + 1) }) (tn + 1) → Fr Λ [pl, R.r] H H' → Q .non H') ∧ (∀ t, R.t = some t → E (.ref CB) none H)
def sp_end (Λ : List (Addr × Str)) (C CR CB : Addr) : Sp := fun vs H Q E => ∃ (pl dx hd md : Addr) (kv : List (L2.Key × V)) (Rs : List Rp) (tn : Int) (i : Nat) (R : Rp), vs = [.ref R.r] ∧ Rs[i]? = some R ∧ Pl C CR H pl dx hd md kv Rs tn ∧
  (∀ t H', R.t = some t → Pl C CR H' pl dx hd md kv (Rs.set i { R with t := none }) tn → Fr Λ [R.r] H H' → Q .non H') ∧ (R.t = none → E (.ref CB) none H)
def sp_replaced (Λ : List (Addr × Str)) (C CR : Addr) : Sp := fun vs H Q _ => ∃ (pl dx hd md : Addr) (kv : List (L2.Key × V)) (Rs : List Rp) (tn : Int) (z : Str) (tp : Addr) (xs : List V), vs = [.ref pl, .str z, .ref tp] ∧ nmB z = true ∧ H tp = some (.tup xs) ∧ xs.length ≤ 1 ∧ (∀ v ∈ xs, Sm H v) ∧ Pl C CR H pl dx hd md kv Rs tn ∧ Rs.length < 1000 ∧
  ∀ r dxr H', Nw H r → Pl C CR H' pl dx hd md kv (Rs ++ [⟨r, dxr, z, tp, xs, none⟩]) tn → Fr Λ [md] H H' → Q (.ref r) H'
/-- rows (name, value) at xs -/
def Rows (H : Hp) (xs : List V) (ps : List (Str × V)) : Prop := xs.length = ps.length ∧ ∀ (i : Nat) (p : Str × V), ps[i]? = some p → ∃ a : Addr, xs[i]? = some (V.ref a) ∧ H a = some (.tup [.str p.1, p.2])
def sp_pinit (Λ : List (Addr × Str)) (K : PySem.W.Frag) (C CR : Addr) : Sp := fun vs H Q _ => ∃ (pl dx ct : Addr) (xs : List V) (ps : List (Str × V)), vs = [.ref pl, .ref ct] ∧ H pl = some (.ins C dx []) ∧ (SqL K H ct xs ∨ SqT K H ct xs) ∧ ct ≠ pl ∧ Rows H xs ps ∧ (ps.map (·.1)).Nodup ∧ (∀ p ∈ ps, nmB p.1 = true ∧ Sm H p.2) ∧ ps.length ≤ 10 ∧
  ∀ hd md H', hd ≠ pl → md ≠ pl → Nw H hd → Nw H md → Pl C CR H' pl dx hd md (ps.map fun p => ((.inr p.1, p.2) : L2.Key × V)) [] 0 → Fr Λ [pl] H H' → Q .non H'
structure G60 (γ : Bool) (Λ : List (Addr × Str)) (P : Program) (w : World) (K : PySem.W.Frag) (mg : Str → Option Value) (base : Heap) (C CR : Addr) : Prop where
  is_name : GD γ P w K mg base "is_name" ["thing"] 2 (sp_is_name Λ K)
  is_value : GD γ P w K mg base "is_value" ["thing"] 4 (sp_is_value Λ 3)
structure G6 (γ : Bool) (Λ : List (Addr × Str)) (P : Program) (w : World) (K : PySem.W.Frag) (mg : Str → Option Value) (base : Heap) (C CR : Addr) : Prop where
  is_name : GD γ P w K mg base "is_name" ["thing"] 2 (sp_is_name Λ K)
  is_value : GD γ P w K mg base "is_value" ["thing"] 4 (sp_is_value Λ 3)
  need_name : GD γ P w K mg base "need_name" ["thing"] 3 (sp_need_name Λ)
  need_value : GD γ P w K mg base "need_value" ["thing"] 5 (sp_need_value Λ)
  Replacement : GK γ P w K mg base "Replacement" CR 1 (sp_rinit Λ CR)
structure T6 (P : Program) (K : PySem.W.Frag) (mg : Str → Option Value) (C CR CN CB : Addr) : Prop extends T5 P K mg C CR CN where
  x_BadOrder : XOwn K mg "BadOrder" CB
  b_len : mg "len" = none
section
variable {γ : Bool} {Λ : List (Addr × Str)} {P : Program} {w : World} {K : PySem.W.Frag} {mg : Str → Option Value} {base : Heap} {C CR CN CB : Addr}
theorem ok_need_name {f : Addr} {fd : FuncData} (F : Fun K "need_name" "need_name" s_need_name f fd) (G : G60 γ Λ P w K mg base C CR) : GOk γ P w K mg base 3 f fd ["thing"] (sp_need_name Λ) := by
  refine g_of F sc_need_name (fun vs H Q E h => ?_) (fun cdv A outer s H vs Q E hA hr h => ?_)
  · obtain ⟨z, rfl, _⟩ := h
    rfl
  · obtain ⟨z, rfl, hz, k⟩ := h
    have hu := hu_of hr
    refine ⟨_, (pss_one (ps_if (pt_not (pt_val (pe_g G.is_name (by first | exact hA | exact fun z => nomatch z) (hr.mono (by first | decide | omega)) rfl passL (pa_cons (pv 0) pa_nil))))
      (pss_one ps_never)
      pss_nil)), ?_⟩
    walk_at "rr"
    refine ⟨_, rfl, .inl ⟨z, rfl, le_ok (Nat.le_trans (nm_short hz) (by decide)), fun H1 hF1 => ?_⟩⟩
    rw [hz]
    exact ⟨_, rfl, iteF (k H1 hF1)⟩
theorem ok_need_value {f : Addr} {fd : FuncData} (F : Fun K "need_value" "need_value" s_need_value f fd) (G : G60 γ Λ P w K mg base C CR) : GOk γ P w K mg base 5 f fd ["thing"] (sp_need_value Λ) := by
  refine g_of F sc_need_value (fun vs H Q E h => ?_) (fun cdv A outer s H vs Q E hA hr h => ?_)
  · obtain ⟨v, rfl, _⟩ := h
    rfl
  · obtain ⟨v, rfl, ⟨d, hd, hv⟩, k⟩ := h
    have hu := hu_of hr
    refine ⟨_, (pss_one (ps_if (pt_not (pt_val (pe_g G.is_value (by first | exact hA | exact fun z => nomatch z) (hr.mono (by first | decide | omega)) rfl passL (pa_cons (pv 0) pa_nil))))
      (pss_one ps_never)
      pss_nil)), ?_⟩
    walk_at "rr"
    exact ⟨v, d, rfl, hd, hv.few, Nat.lt_succ_of_le hv.depth, fun H1 hF1 => ⟨_, rfl, iteF (k H1 hF1)⟩⟩
theorem ok_in_force {f : Addr} {fd : FuncData} (F : Fun K "in_force" "Replacement.in_force" s_Replacement_in_force f fd) (T : T6 P K mg C CR CN CB) : GOk γ P w K mg base 1 f fd ["self"] (sp_in_force C CR) := by
  refine g_of F sc_Replacement_in_force (fun vs H Q E h => ?_) (fun cdv A outer s H vs Q E hA hr h => ?_)
  · obtain ⟨pl, R, rfl, _⟩ := h
    rfl
  · obtain ⟨pl, R, rfl, hR, k⟩ := h
    have hu := hu_of hr
    obtain ⟨cP, cR, n1, n2, n3, n4, n5, n6, n7⟩ := T.toTP
    refine ⟨_, (pss_one (ps_ret (pe_cmp (pc_notN (pe_fld (pv 0) rfl))))), ?_⟩
    walk_at "rr"
    obtain ⟨Rr, Rdx, Rz, Rtp, Rxs, Rt⟩ := R
    cases Rt with
    | none => exact k
    | some t => exact k
theorem ok_rinit {f : Addr} {fd : FuncData} (F : Fun K "__init__" "Replacement.__init__" s_Replacement___init__ f fd) (T : T6 P K mg C CR CN CB) : GOk γ P w K mg base 1 f fd ["self", "places", "name", "values"] (sp_rinit Λ CR) := by
  refine g_of F sc_Replacement___init__ (fun vs H Q E h => ?_) (fun cdv A outer s H vs Q E hA hr h => ?_)
  · obtain ⟨r, dx, pl, z, tp, xs, rfl, _⟩ := h
    rfl
  · obtain ⟨r, dx, pl, z, tp, xs, rfl, hr0, htp, k⟩ := h
    have hu := hu_of hr
    obtain ⟨cP, cR, n1, n2, n3, n4, n5, n6, n7⟩ := T.toTP
    refine ⟨_, (pss_cons (ps_fld (pv 0) (pv 1) rfl)
      (pss_cons (ps_fld (pv 0) (pv 2) rfl)
      (pss_cons (ps_fld (pv 0) (pv 3) rfl)
      (pss_one (ps_fld (pv 0) pe_non rfl))))), ?_⟩
    walk_at "rr"
    exact k _ upd_same (by walk_at "fr")
theorem putK_keys {kv : List (L2.Key × V)} {z : Str} {v : V} (h : ∀ p ∈ kv, ∃ y, p.1 = .inr y) : ∀ p ∈ putK kv (.inr z) v, ∃ y, p.1 = .inr y := fun p hp => by
  unfold putK at hp
  split at hp
  · obtain ⟨q, hq, rfl⟩ := List.mem_map.mp hp
    obtain ⟨y, hy⟩ := h q hq
    split
    · exact ⟨y, hy⟩
    · exact ⟨y, hy⟩
  · rcases List.mem_append.mp hp with hp | hp
    · exact h p hp
    · rw [List.mem_singleton.mp hp]; exact ⟨z, rfl⟩
theorem dropK_keys {kv : List (L2.Key × V)} {z : Str} (h : ∀ p ∈ kv, ∃ y, p.1 = .inr y) : ∀ p ∈ dropK kv (.inr z), ∃ y, p.1 = .inr y := fun p hp => h p (List.mem_filter.mp hp).1
theorem Pl.wr {pl dx hd md : Addr} {H : Hp} {kv kv' : List (L2.Key × V)} {Rs : List Rp} {tn : Int} (p : Pl C CR H pl dx hd md kv Rs tn) (hl : kv'.length ≤ 1000) (hk : ∀ p ∈ kv', ∃ y, p.1 = .inr y) : Pl C CR (L2.upd H hd (.dK kv')) pl dx hd md kv' Rs tn :=
  ⟨by rw [upd_ne p.ph]; exact p.ins, upd_same, by rw [upd_ne (ne_sym p.hm)]; exact p.made, fun R hR => ⟨by rw [upd_ne (p.rh hR)]; exact (p.rp R hR).1, by rw [upd_ne (ne_of (p.rp R hR).2 p.held (by intro z; cases z))]; exact (p.rp R hR).2⟩, ⟨hl, p.few.2⟩, hk, p.nd⟩
theorem ok_write {f : Addr} {fd : FuncData} (F : Fun K "write" "Places.write" s_Places_write f fd) (T : T6 P K mg C CR CN CB) (G : G6 γ Λ P w K mg base C CR) : GOk γ P w K mg base 6 f fd ["self", "name", "value"] (sp_write Λ C CR) := by
  refine g_of F sc_Places_write (fun vs H Q E h => ?_) (fun cdv A outer s H vs Q E hA hr h => ?_)
  · obtain ⟨pl, dx, hd, md, kv, Rs, tn, z, v, rfl, _⟩ := h
    rfl
  · obtain ⟨pl, dx, hd, md, kv, Rs, tn, z, v, rfl, hz, hv, hP, hl, k⟩ := h
    have hu := hu_of hr
    obtain ⟨cP, cR, n1, n2, n3, n4, n5, n6, n7⟩ := T.toTP
    refine ⟨_, (pss_cons (ps_expr (pe_g G.need_name (by first | exact hA | exact fun z => nomatch z) (hr.mono (by first | decide | omega)) rfl passL (pa_cons (pv 1) pa_nil)))
      (pss_cons (ps_expr (pe_g G.need_value (by first | exact hA | exact fun z => nomatch z) (hr.mono (by first | decide | omega)) rfl passL (pa_cons (pv 2) pa_nil)))
      (pss_one (ps_dput hu (pe_fld (pv 0) rfl) (pv 1) (pv 2) rfl)))), ?_⟩
    walk_at "rr"
    refine ⟨z, rfl, hz, fun H1 hF1 => ?_⟩
    walk_at "rr"
    refine ⟨v, rfl, hv.fr hF1, fun H2 hF2 => ?_⟩
    have hP2 := (hP.keep0 hF1).keep0 hF2
    have hle := length_putK kv (.inr z) v
    have i1 := hP2.ins
    have i2 := hP2.held
    walk_at "rr"
    exact k _ (hP2.wr (by omega) (putK_keys hP.keys)) (by walk_at "fr")
theorem ok_remove {f : Addr} {fd : FuncData} (F : Fun K "remove" "Places.remove" s_Places_remove f fd) (T : T6 P K mg C CR CN CB) (G : G6 γ Λ P w K mg base C CR) : GOk γ P w K mg base 3 f fd ["self", "name"] (sp_remove Λ C CR CN) := by
  refine g_of F sc_Places_remove (fun vs H Q E h => ?_) (fun cdv A outer s H vs Q E hA hr h => ?_)
  · obtain ⟨pl, dx, hd, md, kv, Rs, tn, z, rfl, _⟩ := h
    rfl
  · obtain ⟨pl, dx, hd, md, kv, Rs, tn, z, rfl, hz, hP, k1, k2⟩ := h
    have hu := hu_of hr
    obtain ⟨cP, cR, n1, n2, n3, n4, n5, n6, n7⟩ := T.toTP
    refine ⟨_, (pss_cons (ps_if (PW.pt (pw_or (pt_not (pt_val (pe_g G.is_name (by first | exact hA | exact fun z => nomatch z) (hr.mono (by first | decide | omega)) rfl passL (pa_cons (pv 1) pa_nil)))) (pw_or1 (pt_cmp (pc_dnotin hu (pv 1) (pe_fld (pv 0) rfl))))))
      (pss_one (ps_raise rfl takeE (pmk_xsup T.x_NoPlace (hr.mono (by first | decide | omega)) rfl (pv 1))))
      pss_nil)
      (pss_one (ps_expr (pe_dpop1 (pe_fld (pv 0) rfl) (pv 1) ⟨rfl, rfl, rfl, rfl⟩)))), ?_⟩
    walk_at "rr"
    refine ⟨_, rfl, .inl ⟨z, rfl, le_ok (Nat.le_trans (nm_short hz) (by decide)), fun H1 hF1 => ?_⟩⟩
    rw [hz]
    have hP1 := hP.keep0 hF1
    have i1 := hP1.ins
    have i2 := hP1.held
    refine ⟨_, rfl, iteF ?_⟩
    walk_at "rr"
    cases hv : valV kv (.inr z) with
    | none =>
      refine iteT ?_
      walk_at "rr"
      exact rd_sup (nm_repr hz) fun d hd => k2 d H1 hv hF1 hd
    | some v =>
      refine iteF ?_
      walk_at "rr"
      refine ⟨kv, .inr z, v, i2, rfl, hv, ?_⟩
      walk_at "rr"
      exact k1 v _ hv (hP1.wr (Nat.le_trans (List.length_filter_le ..) hP.few.1) (dropK_keys hP.keys)) (by walk_at "fr")
theorem set_other {Rs : List Rp} {i : Nat} {R R' S : Rp} (hi : Rs[i]? = some R) (nd : (Rs.map Rp.r).Nodup) (hS : S ∈ Rs.set i R') : S = R' ∨ (S ∈ Rs ∧ S.r ≠ R.r) := by
  obtain ⟨j, hj⟩ := List.mem_iff_getElem?.mp hS
  by_cases h : i = j
  · subst h
    left
    rw [List.getElem?_set_self (List.getElem?_eq_some_iff.mp hi).1] at hj
    exact (Option.some.inj hj).symm
  · right
    rw [List.getElem?_set_ne h] at hj
    refine ⟨List.mem_of_getElem? hj, fun e => h ?_⟩
    have h1 : (Rs.map Rp.r)[i]? = some R.r := by simp [hi]
    have h2 : (Rs.map Rp.r)[j]? = some R.r := by simp [hj, e]
    have hl := (List.getElem?_eq_some_iff.mp h1).1
    exact (List.getElem?_inj hl nd).mp (h1.trans h2.symm)
theorem set_same {l : List Addr} {i : Nat} {a : Addr} (h : l[i]? = some a) : l.set i a = l := by
  apply List.ext_getElem?
  intro j
  by_cases e : i = j
  · subst e
    rw [List.getElem?_set_self (List.getElem?_eq_some_iff.mp h).1, h]
  · rw [List.getElem?_set_ne e]
theorem map_set_r {Rs : List Rp} {i : Nat} {R R' : Rp} (hi : Rs[i]? = some R) (e : R'.r = R.r) : (Rs.set i R').map Rp.r = Rs.map Rp.r := by
  rw [List.map_set, e]
  have h1 : (Rs.map Rp.r)[i]? = some R.r := by simp [hi]
  exact set_same h1
theorem map_ref {Rs : List Rp} : (Rs.map fun R => V.ref R.r) = (Rs.map Rp.r).map V.ref := by rw [List.map_map]; rfl
/-- a replacement is written -/
theorem Pl.wrR {pl dx hd md : Addr} {H : Hp} {kv : List (L2.Key × V)} {Rs : List Rp} {tn : Int} {i : Nat} {R : Rp} {t : Option Int} (p : Pl C CR H pl dx hd md kv Rs tn) (hi : Rs[i]? = some R) :
    Pl C CR (L2.upd H R.r (.ins CR R.dx (rpF pl { R with t := t }))) pl dx hd md kv (Rs.set i { R with t := t }) tn := by
  have hm := List.mem_of_getElem? hi
  refine ⟨by rw [upd_ne (ne_sym (p.rpl hm))]; exact p.ins, by rw [upd_ne (ne_sym (p.rh hm))]; exact p.held, ?_, fun S hS => ?_, ⟨p.few.1, by rw [List.length_set]; exact p.few.2⟩, p.keys, by rw [map_set_r (R' := { R with t := t }) hi rfl]; exact p.nd⟩
  · rw [upd_ne (ne_sym (p.rm hm)), map_ref, map_set_r (R' := { R with t := t }) hi rfl, ← map_ref]; exact p.made
  · have tpn : ∀ {tp : Addr} {xs : List V}, H tp = some (.tup xs) → tp ≠ R.r := fun h => ne_of h (p.rp R hm).1 (by intro z; cases z)
    rcases set_other hi p.nd hS with rfl | ⟨h1, h2⟩
    · exact ⟨upd_same, by rw [upd_ne (tpn (p.rp R hm).2)]; exact (p.rp R hm).2⟩
    · exact ⟨by rw [upd_ne h2]; exact (p.rp S h1).1, by rw [upd_ne (tpn (p.rp S h1).2)]; exact (p.rp S h1).2⟩
theorem Pl.wrT {pl dx hd md : Addr} {H : Hp} {kv : List (L2.Key × V)} {Rs : List Rp} {tn tn' : Int} (p : Pl C CR H pl dx hd md kv Rs tn) :
    Pl C CR (L2.upd H pl (.ins C dx [("held", .ref hd), ("made", .ref md), ("turns", .int tn')])) pl dx hd md kv Rs tn' :=
  ⟨upd_same, by rw [upd_ne (ne_sym p.ph)]; exact p.held, by rw [upd_ne (ne_sym p.pm)]; exact p.made, fun R hR => ⟨by rw [upd_ne (p.rpl hR)]; exact (p.rp R hR).1, by rw [upd_ne (ne_of (p.rp R hR).2 p.ins (by intro z; cases z))]; exact (p.rp R hR).2⟩, p.few, p.keys, p.nd⟩
theorem put_turns {hd md : Addr} {a b : Int} : putF ("turns" : Str) (V.int b) [(("held" : Str), V.ref hd), (("made" : Str), V.ref md), (("turns" : Str), V.int a)] = [(("held" : Str), V.ref hd), (("made" : Str), V.ref md), (("turns" : Str), V.int b)] := rfl
theorem ok_begin {f : Addr} {fd : FuncData} (F : Fun K "begin" "Replacement.begin" s_Replacement_begin f fd) (T : T6 P K mg C CR CN CB) : GOk γ P w K mg base 3 f fd ["self"] (sp_begin Λ C CR CB) := by
  refine g_of F sc_Replacement_begin (fun vs H Q E h => ?_) (fun cdv A outer s H vs Q E hA hr h => ?_)
  · obtain ⟨pl, dx, hd, md, kv, Rs, tn, i, R, rfl, _⟩ := h
    rfl
  · obtain ⟨pl, dx, hd, md, kv, Rs, tn, i, R, rfl, hi, hP, k1, k2⟩ := h
    have hu := hu_of hr
    obtain ⟨cP, cR, n1, n2, n3, n4, n5, n6, n7⟩ := T.toTP
    refine ⟨_, (pss_cons (ps_if (pt_cmp (pc_notN (pe_fld (pv 0) rfl)))
      (pss_one (ps_raise rfl takeE (pmk_xown T.x_BadOrder rfl)))
      pss_nil)
      (pss_cons (ps_fldaug (pe_fld (pv 0) rfl) pe_int in_add)
      (pss_one (ps_fld (pv 0) (pe_fld (pe_fld (pv 0) rfl) rfl) rfl)))), ?_⟩
    have hm := List.mem_of_getElem? hi
    have i1 := hP.ins
    have hR := (hP.rp R hm).1
    have hne := hP.rpl hm
    have key := fun t => Pl.wrR (i := i) (R := R) (t := t) (hP.wrT (tn' := tn + 1)) hi
    obtain ⟨Rr, Rdx, Rz, Rtp, Rxs, Rt⟩ := R
    cases Rt with
    | some t =>
      have hR : H Rr = some (.ins CR Rdx [("places", .ref pl), ("name", .str Rz), ("values_shown", .ref Rtp), ("turn", .int t)]) := hR
      walk_at "rr"
      refine iteT ?_
      walk_at "rr"
      exact k2 t rfl
    | none =>
      have hR : H Rr = some (.ins CR Rdx [("places", .ref pl), ("name", .str Rz), ("values_shown", .ref Rtp), ("turn", .non)]) := hR
      walk_at "rr"
      refine iteF ?_
      walk_at "rr"
      refine ⟨pl, C, dx, _, _, rfl, by walk_at "h", cP, n3, rfl, ?_⟩
      walk_at "rr"
      refine ⟨tn, 1, rfl, rfl, dx, _, i1, (show (3 : Nat) < 1000 by decide), ?_⟩
      rw [put_turns]
      have i1' : L2.upd H pl (.ins C dx [("held", .ref hd), ("made", .ref md), ("turns", .int (tn + 1))]) pl = some (.ins C dx [("held", .ref hd), ("made", .ref md), ("turns", .int (tn + 1))]) := upd_same
      have hR' : L2.upd H pl (.ins C dx [("held", .ref hd), ("made", .ref md), ("turns", .int (tn + 1))]) Rr = some (.ins CR Rdx [("places", .ref pl), ("name", .str Rz), ("values_shown", .ref Rtp), ("turn", .non)]) := by rw [upd_ne hne]; exact hR
      walk_at "rr"
      exact k1 _ rfl (key (some (tn + 1))) (by walk_at "fr")
theorem ok_end {f : Addr} {fd : FuncData} (F : Fun K "end" "Replacement.end" s_Replacement_end f fd) (T : T6 P K mg C CR CN CB) : GOk γ P w K mg base 3 f fd ["self"] (sp_end Λ C CR CB) := by
  refine g_of F sc_Replacement_end (fun vs H Q E h => ?_) (fun cdv A outer s H vs Q E hA hr h => ?_)
  · obtain ⟨pl, dx, hd, md, kv, Rs, tn, i, R, rfl, _⟩ := h
    rfl
  · obtain ⟨pl, dx, hd, md, kv, Rs, tn, i, R, rfl, hi, hP, k1, k2⟩ := h
    have hu := hu_of hr
    obtain ⟨cP, cR, n1, n2, n3, n4, n5, n6, n7⟩ := T.toTP
    refine ⟨_, (pss_cons (ps_if (pt_cmp (pc_isN (pe_fld (pv 0) rfl)))
      (pss_one (ps_raise rfl takeE (pmk_xown T.x_BadOrder rfl)))
      pss_nil)
      (pss_one (ps_fld (pv 0) pe_non rfl))), ?_⟩
    have hm := List.mem_of_getElem? hi
    have hR := (hP.rp R hm).1
    have key := fun t => Pl.wrR (i := i) (R := R) (t := t) hP hi
    obtain ⟨Rr, Rdx, Rz, Rtp, Rxs, Rt⟩ := R
    cases Rt with
    | some t =>
      have hR : H Rr = some (.ins CR Rdx [("places", .ref pl), ("name", .str Rz), ("values_shown", .ref Rtp), ("turn", .int t)]) := hR
      walk_at "rr"
      refine iteF ?_
      walk_at "rr"
      exact k1 t _ rfl (key none) (by walk_at "fr")
    | none =>
      have hR : H Rr = some (.ins CR Rdx [("places", .ref pl), ("name", .str Rz), ("values_shown", .ref Rtp), ("turn", .non)]) := hR
      walk_at "rr"
      refine iteT ?_
      walk_at "rr"
      exact k2 rfl
end
end Z

end
section
local macro_rules | `(tactic| walk_at "ne") => `(tactic| first
  | assumption
  | (refine Z.ne_sym ?_; assumption)
  | (refine' Z.ne_new ?ka ?kb; (case ka => assumption); (case kb => walk_at "h"))
  | (refine' Z.ne_sym (Z.ne_new ?ka ?kb); (case ka => assumption); (case kb => walk_at "h"))
  | ((with_reducible refine' Z.ne_nw ?ka ?kb ?kc); (case ka => assumption); (case kb => walk_at "h"); (case kc => rfl))
  | ((with_reducible refine' Z.ne_sym (Z.ne_nw ?ka ?kb ?kc)); (case ka => assumption); (case kb => walk_at "h"); (case kc => rfl))
  | exact L2.ne_of (by assumption) (by assumption) (by intro z; cases z)
  | exact Z.ne_sym (L2.ne_of (by assumption) (by assumption) (by intro z; cases z)))
local macro_rules | `(tactic| walk_at "nm") => `(tactic| first
  | exact Z.nm_nil
  | exact Z.nm_cons (by walk_at "ne") (by walk_at "nm"))
local macro_rules | `(tactic| walk_at "h") => `(tactic| first
  | assumption
  | exact L2.upd_same
  | ((with_reducible refine' Eq.trans (L2.upd_ne ?ka) ?kb); (case ka => walk_at "ne"); (case kb => walk_at "h"))
  | ((with_reducible refine' Z.Fr.at ?ka ?kb ?kc ?kd); (case ka => assumption); (case kb => walk_at "h"); (case kc => walk_at "nm"); (case kd => rfl))
  | ((with_reducible refine' Z.Fr.tup ?ka ?kb); (case ka => assumption); (case kb => walk_at "h")))
local macro_rules | `(tactic| walk_at "free") => `(tactic| first
  | assumption
  | exact Z.Nw.of (by assumption)
  | ((with_reducible refine' Z.Fr.free ?ka ?kb); (case ka => assumption); (case kb => walk_at "free")))
local macro_rules | `(tactic| walk_at "ms") => `(tactic| first
  | exact Or.inl List.mem_cons_self
  | exact Or.inl (List.mem_cons_of_mem _ List.mem_cons_self)
  | (left; simp; done)
  | (right; walk_at "free"))
local macro_rules | `(tactic| walk_at "sub") => `(tactic| first
  | exact Z.sub_nil
  | ((with_reducible refine' Z.sub_cons ?ka ?kb); (case ka => walk_at "ms"); (case kb => walk_at "sub")))
local macro_rules | `(tactic| walk_at "fr") => `(tactic| first
  | assumption
  | exact Z.Fr.refl _ _
  | ((with_reducible refine' Z.Fr.new ?ka ?kb); (case kb => assumption); (case ka => walk_at "fr"))
  | ((with_reducible refine' Z.Fr.upd ?ka ?kb ?kc ?kd ?ke); (case kb => walk_at "ms"); (case kc => walk_at "h"); (case kd => rfl); (case ke => rfl); (case ka => walk_at "fr"))
  | ((with_reducible refine' Z.Fr.step ?ka ?kb ?kc); (case ka => assumption); (case kb => walk_at "fr"); (case kc => walk_at "sub")))
local macro_rules | `(tactic| walk_at "dt") => `(tactic| first
  | assumption
  | (refine Z.DT.new ?_ (by assumption); walk_at "dt")
  | (refine Z.DTs.new ?_ (by assumption); walk_at "dt")
  | (refine' Z.DT.wr ?ka ?kb ?kc; (case kb => walk_at "h"); (case kc => rfl); (case ka => walk_at "dt"))
  | (refine' Z.DTs.wr ?ka ?kb ?kc; (case kb => walk_at "h"); (case kc => rfl); (case ka => walk_at "dt"))
  | (refine' Z.DT.fr ?ka ?kb; (case kb => assumption); (case ka => walk_at "dt"))
  | (refine' Z.DTs.fr ?ka ?kb; (case kb => assumption); (case ka => walk_at "dt")))
local macro_rules | `(tactic| walk_at "len") => `(tactic| first
  | exact Z.lt_ok (Nat.le_of_ble_eq_true (by with_unfolding_all rfl))
  | exact Z.le_ok (Nat.le_of_ble_eq_true (by with_unfolding_all rfl))
  | (apply Z.lt_ok; (try simp only [List.length_append, List.length_cons, List.length_nil, List.length_map, List.length_set, List.length_eraseIdx] at *); omega)
  | (apply Z.le_ok; (try simp only [List.length_append, List.length_cons, List.length_nil, List.length_map, List.length_set, List.length_eraseIdx] at *); omega))
local macro_rules | `(tactic| walk_at "r") => `(tactic| first
  | (with_reducible refine Z.rd_seq ?_)
  | (with_reducible refine Z.rd_asg ?_)
  | (with_reducible refine Z.rd_gname ?_)
  | (with_reducible refine Z.rd_ifs ?_)
  | (with_reducible refine Z.rd_next ?_)
  | (with_reducible refine Z.rd_and ?_)
  | (with_reducible refine Z.rd_or ?_)
  | (with_reducible refine Z.rd_not ?_)
  | (with_reducible refine Z.rd_test ?_)
  | (with_reducible refine Z.rd_tb ?_)
  | (with_reducible refine Z.rd_bl ?_)
  | (with_reducible refine Z.rd_op ?_)
  | (with_reducible refine Z.rd_c ?_)
  | ((with_reducible refine' Z.rd_var ?ka ?_); (case ka => with_unfolding_all rfl))
  | (with_reducible refine Z.rd_ret ?_)
  | (with_reducible refine Z.rd_retn ?_)
  | (with_reducible refine Z.rd_drop ?_)
  | (with_reducible refine Z.rd_nil ?_)
  | (with_reducible refine Z.rd_cons ?_)
  | (with_reducible refine Z.rd_cb ?_)
  | (with_reducible refine Z.rd_call ?_)
  | (with_reducible refine Z.rd_dget0 ?_)
  | ((with_reducible refine' Z.rd_dget1 ?ka ?kb ?_); (case ka => walk_at "h"); (case kb => with_unfolding_all rfl))
  | (with_reducible refine Z.rd_dput0 ?_)
  | ((with_reducible refine' Z.rd_dput1 ?ka ?kb ?_); (case ka => walk_at "h"); (case kb => walk_at "len"))
  | (with_reducible refine Z.rd_eqi ?_)
  | (with_reducible refine Z.rd_eqs ?_)
  | (with_reducible refine Z.rd_nei ?_)
  | (with_reducible refine Z.rd_nes ?_)
  | (with_reducible refine Z.rd_i0 ?_)
  | (with_reducible refine Z.rd_lst ?_)
  | (with_reducible refine Z.rd_tup ?_)
  | (with_reducible refine Z.rd_ifx ?_)
  | (with_reducible refine Z.rd_bm ?_)
  | (with_reducible refine Z.rd_bm0 ?_)
  | ((with_reducible refine' Z.rd_nil2 ?ka ?kb ?_); (case ka => walk_at "h"); (case kb => walk_at "h"))
  | ((with_reducible refine' Z.rd_nil2T ?ka ?kb ?_); (case ka => walk_at "h"); (case kb => walk_at "h"))
  | (with_reducible refine Z.rd_int1 ?_)
  | ((with_reducible refine' Z.rd_size ?ka ?_); (case ka => walk_at "len"))
  | ((with_reducible refine' Z.rd_tylist ?ka ?_); (case ka => walk_at "h"))
  | ((with_reducible refine' Z.rd_i ?ka ?_); (case ka => walk_at "num"))
  | ((with_reducible refine' Z.rd_append ?ka ?kb ?_); (case ka => walk_at "h"); (case kb => walk_at "len"))
  | (with_reducible refine Z.rd_for' ?_)
  | (with_reducible refine Z.rd_lc' ?_)
  | (with_reducible refine Z.rd_un ?_)
  | (with_reducible refine Z.rd_gm ?_)
  | (with_reducible refine Z.rd_xk ?_)
  | (with_reducible refine Z.rd_stard ?_)
  | ((with_reducible refine' Z.rd_stard1 ?ka ?_); (case ka => walk_at "h"))
  | (with_reducible refine Z.rd_star ?_)
  | ((with_reducible refine' Z.rd_star1 ?ka ?_); (case ka => walk_at "h"))
  | (with_reducible refine Z.rd_dc' ?_)
  | (with_reducible refine Z.rd_dnew ?_)
  | (with_reducible refine Z.rd_dpop ?_)
  | ((with_reducible refine' Z.rd_isd ?ka ?_); (case ka => walk_at "h"))
  | (with_reducible refine Z.rd_fldaug ?_)
  | (with_reducible refine Z.rd_ilt ?_)
  | (with_reducible refine Z.rd_mko ?_)
  | (with_reducible refine Z.rd_gk ?_)
  | (with_reducible refine Z.rd_gp ?_)
  | ((with_reducible refine' Z.rd_ins1 ?ka ?_); (case ka => walk_at "h"))
  | (with_reducible refine Z.rd_disp ?_)
  | (with_reducible refine Z.rd_pnil ?_)
  | (with_reducible refine Z.rd_pcons ?_)
  | (with_reducible refine Z.rd_m1 ?_)
  | (with_reducible refine Z.rd_isstr ?_)
  | (with_reducible refine Z.rd_sl ?_)
  | (with_reducible refine Z.rd_nopart ?_)
  | (with_reducible refine Z.rd_part ?_)
  | (with_reducible refine Z.rd_part1 ?_)
  | (with_reducible refine Z.rd_u ?_)
  | (with_reducible refine Z.rd_ilist ?_)
  | (with_reducible refine Z.rd_itup ?_)
  | (with_reducible refine Z.rd_istr ?_)
  | (with_reducible refine Z.rd_irng1 ?_)
  | (with_reducible refine Z.rd_yes ?_)
  | (with_reducible refine Z.rd_sfld0 ?_)
  | (with_reducible refine Z.rd_fld0 ?_)
  | (with_reducible refine Z.rd_din ?_)
  | (with_reducible refine Z.rd_dnotin ?_)
  | (with_reducible refine Z.rd_isn ?_)
  | (with_reducible refine Z.rd_notn ?_)
  | (with_reducible refine Z.rd_par ?_)
  | (with_reducible refine Z.rd_par1 ?_)
  | (with_reducible refine Z.rd_gnil ?_)
  | (with_reducible refine Z.rd_gcons ?_)
  | (with_reducible refine Z.rd_chain ?_)
  | (with_reducible refine Z.rd_andv ?_)
  | (with_reducible refine Z.rd_orv ?_)
  | (with_reducible refine Z.rd_notv ?_)
  | (with_reducible refine Z.rd_meth ?_)
  | (with_reducible refine Z.rd_while ?_)
  | ((with_reducible refine' Z.rd_ixl ?ka ?kb ?_); (case ka => walk_at "h"); (case kb => walk_at "ati"))
  | ((with_reducible refine' Z.rd_ixt ?ka ?kb ?_); (case ka => walk_at "h"); (case kb => walk_at "ati"))
  | ((with_reducible refine' Z.rd_len ?ka ?_); (case ka => walk_at "h"))
  | ((with_reducible refine' Z.rd_lens ?ka ?_); (case ka => walk_at "h"))
  | ((with_reducible refine' Z.rd_lent ?ka ?_); (case ka => walk_at "h"))
  | ((with_reducible refine' Z.rd_lstof ?ka ?_); (case ka => walk_at "h"))
  | ((with_reducible refine' Z.rd_tupof ?ka ?_); (case ka => walk_at "h"))
  | ((with_reducible refine' Z.rd_sfld1 ?ka ?kb ?kc ?kd ?_); (case ka => walk_at "h"); (case kb => assumption); (case kc => assumption); (case kd => (first | (with_unfolding_all decide) | exact Nat.le_of_ble_eq_true (by with_unfolding_all rfl))))
  | ((with_reducible refine' Z.rd_fld1 ?ka ?kb ?kc ?kd ?_); (case ka => walk_at "h"); (case kb => assumption); (case kc => assumption); (case kd => with_unfolding_all rfl))
  | ((with_reducible refine' Z.rd_din1 ?ka ?_); (case ka => walk_at "h"))
  | ((with_reducible refine' Z.rd_gtup ?ka ?kb ?_); (case ka => walk_at "h"); (case kb => with_unfolding_all rfl))
  | ((with_reducible refine' Z.rd_catl ?ka ?kb ?kc ?_); (case ka => walk_at "h"); (case kb => walk_at "h"); (case kc => walk_at "len"))
  | ((with_reducible refine' Z.rd_meth1 ?ka ?kb ?_); (case ka => walk_at "h"); (case kb => with_unfolding_all rfl))
  | ((with_reducible refine' Z.rd_addstr ?ka ?_); (case ka => walk_at "len")))
local macro_rules | `(tactic| walk_at "ati") => `(tactic| first
  | assumption
  | (with_unfolding_all rfl)
  | exact L2.atI_nat (by assumption)
  | exact L2.atI_nat (by with_unfolding_all rfl)
  | exact L2.atI_last _ _)
local macro_rules | `(tactic| walk_at "rr") => `(tactic| repeat (walk_at "r"))
local macro_rules | `(tactic| walk_at "num") => `(tactic| first
  | (with_unfolding_all decide)
  | (show (_ : Int) ≠ 0; omega)
  | (show (_ : Int) ≠ 0 ∧ _ < 1073741824; exact ⟨by omega, by omega⟩)
  | (show (0 : Int) ≤ _ ∧ _ ≤ (1000000 : Int) ∧ _; exact ⟨by decide, by decide, by omega⟩)
  | (show (-(2 ^ 64) < (_ : Int) ∧ _ < 2 ^ 64) ∨ _; (first | (left; exact ⟨by omega, by omega⟩) | (right; exact ⟨by omega, by omega⟩)))
  | omega)
namespace Z
open PySem PySem.Spec PyProof.Rows L2
section
variable {γ : Bool} {Λ : List (Addr × Str)} {P : Program} {w : World} {K : PySem.W.Frag} {mg : Str → Option Value} {base : Heap} {C CR CN CB : Addr}
theorem Pl.more {pl dx hd md r dxr tp : Addr} {z : Str} {xs : List V} {H : Hp} {kv : List (L2.Key × V)} {Rs : List Rp} {tn : Int} {t : Option Int} (p : Pl C CR H pl dx hd md kv Rs tn) (hr : H r = some (.ins CR dxr (rpF pl ⟨r, dxr, z, tp, xs, t⟩))) (ht : H tp = some (.tup xs)) (hn : ∀ R ∈ Rs, R.r ≠ r) (hl : Rs.length < 1000) :
    Pl C CR (L2.upd H md (.lst ((Rs.map fun R => V.ref R.r) ++ [.ref r]))) pl dx hd md kv (Rs ++ [⟨r, dxr, z, tp, xs, t⟩]) tn := by
  have nt : ∀ {a : Addr} {ys : List V}, H a = some (.tup ys) → a ≠ md := fun h => ne_of h p.made (by intro z; cases z)
  refine ⟨by rw [upd_ne p.pm]; exact p.ins, by rw [upd_ne p.hm]; exact p.held, by rw [upd_same, List.map_append]; rfl, fun R hR => ?_, ⟨p.few.1, by rw [List.length_append, List.length_singleton]; omega⟩, p.keys, ?_⟩
  · rcases List.mem_append.mp hR with h | h
    · exact ⟨by rw [upd_ne (p.rm h)]; exact (p.rp R h).1, by rw [upd_ne (nt (p.rp R h).2)]; exact (p.rp R h).2⟩
    · rw [List.mem_singleton.mp h]
      exact ⟨by rw [upd_ne (ne_of hr p.made (by intro z; cases z))]; exact hr, by rw [upd_ne (nt ht)]; exact ht⟩
  · rw [List.map_append]
    refine List.nodup_append.mpr ⟨p.nd, by simp, fun a ha b hb e => ?_⟩
    obtain ⟨R, hR, rfl⟩ := List.mem_map.mp ha
    have hb2 : b = r := by simpa using hb
    exact hn R hR (e.trans hb2)
theorem ok_replaced {f : Addr} {fd : FuncData} (F : Fun K "replaced" "Places.replaced" s_Places_replaced f fd) (T : T6 P K mg C CR CN CB) (G : G6 γ Λ P w K mg base C CR) :
    GR γ P w K mg base 6 f (fun vs H Q E => ∃ ws rest, vs = ws ++ rest ∧ ws.length = ["self", "name"].length ∧ rest.length ≤ 1000 ∧ ∀ p, H p = none → sp_replaced Λ C CR (ws ++ [V.ref p]) (L2.upd H p (.tup rest)) Q E) := by
  refine g_star (ps := ["self", "name"]) (pv := "values") F sc_Places_replaced (fun kV doc pm an cdv ct => StX.bind_star2 (B := fun us => bindArgs (PySem.W.fnOf "replaced" "Places.replaced" (defArgs s_Places_replaced) (defBody s_Places_replaced) (defScope s_Places_replaced) .none kV doc pm an cdv ct) ⟨us, []⟩) (fun a b => rfl) (fun a b r rs => rfl)) (fun cdv A outer s H vs Q E hA hr h => ?_)
  · obtain ⟨pl, dx, hd, md, kv, Rs, tn, z, tp, xs, rfl, hz, htp, hx1, hxs, hP, hl, k⟩ := h
    have hu := hu_of hr
    obtain ⟨cP, cR, n1, n2, n3, n4, n5, n6, n7⟩ := T.toTP
    refine ⟨_, (pss_cons (ps_expr (pe_g G.need_name (by first | exact hA | exact fun z => nomatch z) (hr.mono (by first | decide | omega)) rfl passL (pa_cons (pv 1) pa_nil)))
      (pss_cons (ps_if (pt_cmpR op_gt (pe_callB call_len_seq (by rfl) T.b_len (by decide +kernel) (pa_cons (pv 2) pa_nil)) pe_int (nomark _))
      (pss_one ps_never)
      pss_nil)
      (pss_cons (ps_for (passes_of rfl) rfl (pi_tup (pv 2)) (pg_name (i := 3) sc_Places_replaced.nd rfl (.inl rfl))
      (pss_one (ps_expr (pe_g G.need_value (by first | exact hA | exact fun z => nomatch z) (hr.mono (by first | decide | omega)) rfl passL (pa_cons (pv 3) pa_nil)))))
      (pss_cons (ps_set (i := 4) sc_Places_replaced.nd rfl (.inl rfl) (pe_gk G.Replacement (by first | exact hA | exact fun z => nomatch z) (hr.mono (by first | decide | omega)) rfl passL (pa_cons (pv 0) (pa_cons (pv 1) (pa_cons (pv 2) pa_nil)))))
      (pss_cons (ps_expr (pe_bm PySem.F.plainAttrs_list PySem.F.slot_list_append PySem.F.type_list_append mt_append (pe_fld (pv 0) rfl) (pa_cons (pv 4) pa_nil)))
      (pss_one (ps_ret (pv 4)))))))), ?_⟩
    walk_at "rr"
    refine ⟨z, rfl, hz, fun H1 hF1 => ?_⟩
    have htp1 := hF1.tup htp
    have hP1 := hP.keep0 hF1
    walk_at "rr"
    refine ⟨tp, xs, rfl, .inr (SqT.of htp1), ?_⟩
    walk_at "rr"
    refine rd_ite (fun h => absurd h (by omega)) (fun _ => ?_)
    walk_at "rr"
    refine rd_fort htp1 (fun i σ H' => ∃ v3 v4 : Option V, σ = [some (.ref pl), some (.str z), some (.ref tp), v3, v4] ∧ Fr Λ [] H1 H') ⟨_, _, rfl, Fr.refl _ _⟩ (fun i σ H' h => ?_) ?_ ?_
    · obtain ⟨v3, v4, _, h2⟩ := h
      exact h2.tup htp1
    · rintro i x σ H2 hi hx ⟨v3, v4, rfl, hF2⟩
      walk_at "rr"
      refine ⟨x, rfl, ((hxs x (List.mem_of_getElem? hx)).fr hF1).fr hF2, fun H3 hF3 => ?_⟩
      walk_at "rr"
      exact ⟨_, _, rfl, by walk_at "fr"⟩
    · rintro σ H2 ⟨v3, v4, rfl, hF2⟩
      have hP2 := hP1.keep0 hF2
      have htp2 := hF2.tup htp1
      walk_at "rr"
      intro r dxr hr0 hdx0 hdr
      have hr1 : L2.upd H2 dxr (.own r) r = none := by rw [upd_ne (ne_sym hdr)]; exact hr0
      have hF3 : Fr Λ [] H2 (L2.upd (L2.upd H2 dxr (.own r)) r (.ins CR dxr [])) := ((Fr.refl [] H2).new hdx0).new hr1
      have htp3 := hF3.tup htp2
      refine ⟨r, dxr, pl, z, tp, xs, rfl, upd_same, htp3, fun H4 hR4 hF4 => ⟨rfl, ?_⟩⟩
      have hF24 : Fr Λ [] H2 H4 := hF4.step hF3 (sub_cons (.inr (.of hr0)) sub_nil)
      have hP4 := hP2.keep0 hF24
      have htp4 := hF24.tup htp2
      have i1 := hP4.ins
      have i3 := hP4.made
      have hfew := hP4.few
      walk_at "rr"
      have hrn : Nw H r := hF1.free (hF2.free (.of hr0))
      refine k r dxr _ hrn (hP4.more hR4 htp4 (fun R hR => ?_) hl) ?_
      · exact ne_of_none (hP2.rp R hR).1 hr0
      · have hF04 : Fr Λ [] H H4 := (hF1.trans hF2).trans hF24
        exact Fr.upd (hF04.mono fun a h => nomatch h) (.inl List.mem_cons_self) i3 rfl
/-- the rows of a list of (name, value) become the held ones, one behind another -/
theorem put_new {ps : List (Str × V)} {p : Str × V} (h : p.1 ∉ ps.map (·.1)) : putK (ps.map fun p => ((.inr p.1, p.2) : L2.Key × V)) (.inr p.1) p.2 = (ps ++ [p]).map fun p => ((.inr p.1, p.2) : L2.Key × V) := by
  unfold putK
  rw [if_neg, List.map_append]
  · rfl
  · intro hany
    obtain ⟨q, hq, e⟩ := List.any_eq_true.mp hany
    obtain ⟨p', hp', rfl⟩ := List.mem_map.mp hq
    have e' : (Sum.inr p'.1 : L2.Key) = .inr p.1 := of_decide_eq_true e
    injection e' with e'
    exact h (List.mem_map.mpr ⟨p', hp', e'⟩)
theorem val_new {ps : List (Str × V)} {z : Str} (h : z ∉ ps.map (·.1)) : valV (ps.map fun p => ((.inr p.1, p.2) : L2.Key × V)) (.inr z) = none := by
  cases e : valV (ps.map fun p => ((.inr p.1, p.2) : L2.Key × V)) (.inr z) with
  | none => rfl
  | some v =>
    have := valV_in e
    obtain ⟨q, hq, e2⟩ := List.mem_map.mp this
    obtain ⟨p', hp', rfl⟩ := List.mem_map.mp hq
    injection e2 with e2
    exact absurd (List.mem_map.mpr ⟨p', hp', e2⟩) h
theorem SqL_nd {a b : Addr} {xs : List V} {H H' : Hp} {kv : List (L2.Key × V)} (h : SqL K H a xs) (f : Fr Λ [b] H H') (hb : H b = some (.dK kv)) : SqL K H' a xs := by
  rcases h with (h | ⟨o, h⟩) | h
  · exact .inl (.inl (f.at h (nm_cons (ne_of h hb (by intro z; cases z)) nm_nil) rfl))
  · exact .inl (.inr ⟨o, f.at h (nm_cons (ne_of h hb (by intro z; cases z)) nm_nil) rfl⟩)
  · exact .inr h
theorem SqT_nd {a b : Addr} {xs : List V} {H H' : Hp} {kv : List (L2.Key × V)} (h : SqT K H a xs) (f : Fr Λ [b] H H') (hb : H b = some (.dK kv)) : SqT K H' a xs := by
  rcases h with (h | ⟨o, h⟩) | h
  · exact .inl (.inl (f.at h (nm_cons (ne_of h hb (by intro z; cases z)) nm_nil) rfl))
  · exact .inl (.inr ⟨o, f.at h (nm_cons (ne_of h hb (by intro z; cases z)) nm_nil) rfl⟩)
  · exact .inr h
theorem ok_pinit {f : Addr} {fd : FuncData} {dvs : List V} (F : FunD K "__init__" "Places.__init__" (defArgs s_Places___init__) (defBody s_Places___init__) (defScope s_Places___init__) dvs [] f fd) (T : T6 P K mg C CR CN CB) (G : G6 γ Λ P w K mg base C CR) : GOk γ P w K mg base 6 f fd ["self", "contents"] (sp_pinit Λ K C CR) := by
  refine g_ofD F sc_Places___init__ (fun vs H Q E h => ?_) (fun cdv A outer s H vs Q E hA hr h => ?_)
  · obtain ⟨pl, dx, ct, xs, ps, rfl, _⟩ := h
    rfl
  · obtain ⟨pl, dx, ct, xs, ps, rfl, h0, hct, hcp, hrows, hnd, hgood, hlen, k⟩ := h
    have hu := hu_of hr
    obtain ⟨cP, cR, n1, n2, n3, n4, n5, n6, n7⟩ := T.toTP
    refine ⟨_, (pss_cons (ps_fld (pv 0) pe_dnewK rfl)
      (pss_cons (ps_fld (pv 0) (pe_lst pa_nil) rfl)
      (pss_cons (ps_fld (pv 0) pe_int rfl)
      (pss_one (ps_for (passes_of rfl) rfl (pi_lt (pv 1)) (pg_tup rfl (pgs_cons (pg_name (i := 2) sc_Places___init__.nd rfl (.inl rfl)) (pgs_cons (pg_name (i := 3) sc_Places___init__.nd rfl (.inl rfl)) pgs_nil)))
      (pss_cons (ps_expr (pe_g G.need_name (by first | exact hA | exact fun z => nomatch z) (hr.mono (by first | decide | omega)) rfl passL (pa_cons (pv 2) pa_nil)))
      (pss_cons (ps_if (pt_cmp (pc_din hu (pv 2) (pe_fld (pv 0) rfl)))
      (pss_one ps_never)
      pss_nil)
      (pss_cons (ps_expr (pe_g G.need_value (by first | exact hA | exact fun z => nomatch z) (hr.mono (by first | decide | omega)) rfl passL (pa_cons (pv 3) pa_nil)))
      (pss_one (ps_dput hu (pe_fld (pv 0) rfl) (pv 2) (pv 3) rfl)))))))))), ?_⟩
    walk_at "rr"
    intro hd hhd
    have hpn : pl ≠ hd := ne_of_none h0 hhd
    walk_at "rr"
    intro md hmd
    have hmd1 : L2.upd H hd (.dK []) md = none := (free_upd hmd).1
    have hpm : pl ≠ md := fun e => by
      rw [← e, upd_same] at hmd
      cases hmd
    have hhm : hd ≠ md := ne_sym (free_upd hmd1).2
    have hmd0 : H md = none := (free_upd hmd1).1
    walk_at "rr"
    have hF : ∀ {H1 : Hp}, H1 = L2.upd (L2.upd (L2.upd (L2.upd (L2.upd H hd (.dK [])) pl (.ins C dx [("held", .ref hd)])) md (.lst [])) pl (.ins C dx [("held", .ref hd), ("made", .ref md)])) pl (.ins C dx [("held", .ref hd), ("made", .ref md), ("turns", .int 0)]) →
        Fr Λ [pl] H H1 ∧ Pl C CR H1 pl dx hd md (([] : List (Str × V)).map fun p => ((.inr p.1, p.2) : L2.Key × V)) [] 0 := fun {H1} e => by
      rw [e]
      refine ⟨by walk_at "fr", ⟨upd_same, by walk_at "h", by walk_at "h", fun R hR => (nomatch hR), ⟨by simp, by simp⟩, fun p hp => by simp at hp, List.nodup_nil⟩⟩
    obtain ⟨hF1, hP1⟩ := hF rfl
    have hctn : ∀ o, H ct = some o → ct ∉ [pl] := fun o _ => nm_cons hcp nm_nil
    have hct1 := hct.imp (fun h => SqL_keep h hF1 hctn) (fun h => SqT_keep h hF1 hctn)
    have hrow1 : ∀ (i : Nat) (p : Str × V), ps[i]? = some p → ∃ a : Addr, xs[i]? = some (V.ref a) ∧ _ := fun i p h => (hrows.2 i p h).imp fun a q => ⟨q.1, hF1.tup q.2⟩
    have hsm1 : ∀ p ∈ ps, Sm _ p.2 := fun p h => (hgood p h).2.fr hF1
    generalize hgen : L2.upd (L2.upd (L2.upd (L2.upd (L2.upd H hd (.dK [])) pl (.ins C dx [("held", .ref hd)])) md (.lst [])) pl (.ins C dx [("held", .ref hd), ("made", .ref md)])) pl (.ins C dx [("held", .ref hd), ("made", .ref md), ("turns", .int 0)]) = H1 at hF1 hP1 hct1 hrow1 hsm1
    have ge : ∀ {A B : Hp}, A = B → B = A := fun e => e.symm
    refine (congrArg (fun Z => ∃ a, V.ref ct = V.ref a ∧ ((∃ xs, SqL K Z a xs) ∧ ForG _ _ _ _ (Itl K a) Z ∨ (∃ xs, SqT K Z a xs) ∧ ForG _ _ _ _ (Itt K a) Z)) hgen).mpr ?_
    refine rd_forlt hct1 (fun i σ H' => ∃ v2 v3 : Option V, σ = [some (.ref pl), some (.ref ct), v2, v3] ∧ Pl C CR H' pl dx hd md ((ps.take i).map fun p => ((.inr p.1, p.2) : L2.Key × V)) [] 0 ∧ Fr Λ [hd] H1 H') ⟨_, _, rfl, by rw [List.take_zero]; exact hP1, Fr.refl _ _⟩ (fun i σ H' h => ?_) ?_ ?_
    · obtain ⟨v2, v3, _, _, hF2⟩ := h
      exact ⟨fun q => SqL_nd q hF2 hP1.held, fun q => SqT_nd q hF2 hP1.held⟩
    · rintro i x σ H2 hi hx ⟨v2, v3, rfl, hP2, hF2⟩
      have hip : i < ps.length := by rw [← hrows.1]; exact hi
      obtain ⟨a, ha, hat⟩ := hrow1 i ps[i] (List.getElem?_eq_getElem hip)
      rw [ha] at hx
      obtain rfl : V.ref a = x := Option.some.inj hx
      have hmem : ps[i] ∈ ps := List.getElem_mem hip
      have hnm := (hgood _ hmem).1
      have hv1 := hsm1 _ hmem
      have htk : ps.take (i + 1) = ps.take i ++ [ps[i]] := by rw [List.take_add_one, List.getElem?_eq_getElem hip]; rfl
      have hnin : ps[i].1 ∉ (ps.take i).map (·.1) := fun hm => by
        have e := hnd
        rw [← List.take_append_drop i ps, List.map_append] at e
        have hd2 : ps[i].1 ∈ (ps.drop i).map (·.1) := List.mem_map.mpr ⟨ps[i], by rw [List.mem_drop_iff_getElem]; exact ⟨0, by omega, by simp⟩, rfl⟩
        exact (List.nodup_append.mp e).2.2 _ hm _ hd2 rfl
      rw [htk]
      generalize ps[i] = p at hat hnm hv1 hnin ⊢
      obtain ⟨z, v⟩ := p
      dsimp only at hat hnm hv1 hnin
      walk_at "rr"
      refine ⟨z, rfl, hnm, fun H3 hF3 => ?_⟩
      have hP3 := hP2.keep0 hF3
      have i1 := hP3.ins
      have i2 := hP3.held
      walk_at "rr"
      rw [val_new hnin]
      refine iteF ?_
      walk_at "rr"
      refine ⟨v, rfl, (hv1.fr hF2).fr hF3, fun H4 hF4 => ?_⟩
      have hP4 := hP3.keep0 hF4
      have i1 := hP4.ins
      have i2 := hP4.held
      have hlt : (List.map (fun p => ((.inr p.1, p.2) : L2.Key × V)) (List.take i ps)).length ≤ 10 := by rw [List.length_map, List.length_take]; omega
      walk_at "rr"
      have e := put_new (ps := ps.take i) (p := (z, v)) hnin
      rw [e]
      have hl2 : ((ps.take i ++ [(z, v)]).map fun p => ((.inr p.1, p.2) : L2.Key × V)).length ≤ 1000 := by rw [List.length_map, List.length_append, List.length_take]; simp; omega
      exact ⟨_, _, rfl, hP4.wr hl2 (fun q hq => by obtain ⟨p', _, rfl⟩ := List.mem_map.mp hq; exact ⟨_, rfl⟩), by walk_at "fr"⟩
    · rintro σ H2 ⟨v2, v3, rfl, hP2, hF2⟩
      rw [hrows.1, List.take_length] at hP2
      exact k hd md H2 (ne_sym hpn) (ne_sym hpm) (.of hhd) (.of hmd0) hP2 (hF2.step hF1 (sub_cons (.inr (.of hhd)) sub_nil))
end
end Z

end
section
local macro_rules | `(tactic| walk_at "ne") => `(tactic| first
  | assumption
  | (refine Z.ne_sym ?_; assumption)
  | (refine' Z.ne_new ?ka ?kb; (case ka => assumption); (case kb => walk_at "h"))
  | (refine' Z.ne_sym (Z.ne_new ?ka ?kb); (case ka => assumption); (case kb => walk_at "h"))
  | ((with_reducible refine' Z.ne_nw ?ka ?kb ?kc); (case ka => assumption); (case kb => walk_at "h"); (case kc => rfl))
  | ((with_reducible refine' Z.ne_sym (Z.ne_nw ?ka ?kb ?kc)); (case ka => assumption); (case kb => walk_at "h"); (case kc => rfl))
  | exact L2.ne_of (by assumption) (by assumption) (by intro z; cases z)
  | exact Z.ne_sym (L2.ne_of (by assumption) (by assumption) (by intro z; cases z)))
local macro_rules | `(tactic| walk_at "nm") => `(tactic| first
  | exact Z.nm_nil
  | exact Z.nm_cons (by walk_at "ne") (by walk_at "nm"))
local macro_rules | `(tactic| walk_at "h") => `(tactic| first
  | assumption
  | exact L2.upd_same
  | ((with_reducible refine' Eq.trans (L2.upd_ne ?ka) ?kb); (case ka => walk_at "ne"); (case kb => walk_at "h"))
  | ((with_reducible refine' Z.Fr.at ?ka ?kb ?kc ?kd); (case ka => assumption); (case kb => walk_at "h"); (case kc => walk_at "nm"); (case kd => rfl))
  | ((with_reducible refine' Z.Fr.tup ?ka ?kb); (case ka => assumption); (case kb => walk_at "h")))
local macro_rules | `(tactic| walk_at "free") => `(tactic| first
  | assumption
  | exact Z.Nw.of (by assumption)
  | ((with_reducible refine' Z.Fr.free ?ka ?kb); (case ka => assumption); (case kb => walk_at "free")))
local macro_rules | `(tactic| walk_at "ms") => `(tactic| first
  | exact Or.inl List.mem_cons_self
  | exact Or.inl (List.mem_cons_of_mem _ List.mem_cons_self)
  | (left; simp; done)
  | (right; walk_at "free"))
local macro_rules | `(tactic| walk_at "sub") => `(tactic| first
  | exact Z.sub_nil
  | ((with_reducible refine' Z.sub_cons ?ka ?kb); (case ka => walk_at "ms"); (case kb => walk_at "sub")))
local macro_rules | `(tactic| walk_at "fr") => `(tactic| first
  | assumption
  | exact Z.Fr.refl _ _
  | ((with_reducible refine' Z.Fr.new ?ka ?kb); (case kb => assumption); (case ka => walk_at "fr"))
  | ((with_reducible refine' Z.Fr.upd ?ka ?kb ?kc ?kd ?ke); (case kb => walk_at "ms"); (case kc => walk_at "h"); (case kd => rfl); (case ke => rfl); (case ka => walk_at "fr"))
  | ((with_reducible refine' Z.Fr.step ?ka ?kb ?kc); (case ka => assumption); (case kb => walk_at "fr"); (case kc => walk_at "sub")))
local macro_rules | `(tactic| walk_at "dt") => `(tactic| first
  | assumption
  | (refine Z.DT.new ?_ (by assumption); walk_at "dt")
  | (refine Z.DTs.new ?_ (by assumption); walk_at "dt")
  | (refine' Z.DT.wr ?ka ?kb ?kc; (case kb => walk_at "h"); (case kc => rfl); (case ka => walk_at "dt"))
  | (refine' Z.DTs.wr ?ka ?kb ?kc; (case kb => walk_at "h"); (case kc => rfl); (case ka => walk_at "dt"))
  | (refine' Z.DT.fr ?ka ?kb; (case kb => assumption); (case ka => walk_at "dt"))
  | (refine' Z.DTs.fr ?ka ?kb; (case kb => assumption); (case ka => walk_at "dt")))
local macro_rules | `(tactic| walk_at "len") => `(tactic| first
  | exact Z.lt_ok (Nat.le_of_ble_eq_true (by with_unfolding_all rfl))
  | exact Z.le_ok (Nat.le_of_ble_eq_true (by with_unfolding_all rfl))
  | (apply Z.lt_ok; (try simp only [List.length_append, List.length_cons, List.length_nil, List.length_map, List.length_set, List.length_eraseIdx] at *); omega)
  | (apply Z.le_ok; (try simp only [List.length_append, List.length_cons, List.length_nil, List.length_map, List.length_set, List.length_eraseIdx] at *); omega))
local macro_rules | `(tactic| walk_at "r") => `(tactic| first
  | (with_reducible refine Z.rd_seq ?_)
  | (with_reducible refine Z.rd_asg ?_)
  | (with_reducible refine Z.rd_gname ?_)
  | (with_reducible refine Z.rd_ifs ?_)
  | (with_reducible refine Z.rd_next ?_)
  | (with_reducible refine Z.rd_and ?_)
  | (with_reducible refine Z.rd_or ?_)
  | (with_reducible refine Z.rd_not ?_)
  | (with_reducible refine Z.rd_test ?_)
  | (with_reducible refine Z.rd_tb ?_)
  | (with_reducible refine Z.rd_bl ?_)
  | (with_reducible refine Z.rd_op ?_)
  | (with_reducible refine Z.rd_c ?_)
  | ((with_reducible refine' Z.rd_var ?ka ?_); (case ka => with_unfolding_all rfl))
  | (with_reducible refine Z.rd_ret ?_)
  | (with_reducible refine Z.rd_retn ?_)
  | (with_reducible refine Z.rd_drop ?_)
  | (with_reducible refine Z.rd_nil ?_)
  | (with_reducible refine Z.rd_cons ?_)
  | (with_reducible refine Z.rd_cb ?_)
  | (with_reducible refine Z.rd_call ?_)
  | (with_reducible refine Z.rd_dget0 ?_)
  | ((with_reducible refine' Z.rd_dget1 ?ka ?kb ?_); (case ka => walk_at "h"); (case kb => with_unfolding_all rfl))
  | (with_reducible refine Z.rd_dput0 ?_)
  | ((with_reducible refine' Z.rd_dput1 ?ka ?kb ?_); (case ka => walk_at "h"); (case kb => walk_at "len"))
  | (with_reducible refine Z.rd_eqi ?_)
  | (with_reducible refine Z.rd_eqs ?_)
  | (with_reducible refine Z.rd_nei ?_)
  | (with_reducible refine Z.rd_nes ?_)
  | (with_reducible refine Z.rd_i0 ?_)
  | (with_reducible refine Z.rd_lst ?_)
  | (with_reducible refine Z.rd_tup ?_)
  | (with_reducible refine Z.rd_ifx ?_)
  | (with_reducible refine Z.rd_bm ?_)
  | (with_reducible refine Z.rd_bm0 ?_)
  | ((with_reducible refine' Z.rd_nil2 ?ka ?kb ?_); (case ka => walk_at "h"); (case kb => walk_at "h"))
  | ((with_reducible refine' Z.rd_nil2T ?ka ?kb ?_); (case ka => walk_at "h"); (case kb => walk_at "h"))
  | (with_reducible refine Z.rd_int1 ?_)
  | ((with_reducible refine' Z.rd_size ?ka ?_); (case ka => walk_at "len"))
  | ((with_reducible refine' Z.rd_tylist ?ka ?_); (case ka => walk_at "h"))
  | ((with_reducible refine' Z.rd_i ?ka ?_); (case ka => walk_at "num"))
  | ((with_reducible refine' Z.rd_append ?ka ?kb ?_); (case ka => walk_at "h"); (case kb => walk_at "len"))
  | (with_reducible refine Z.rd_for' ?_)
  | (with_reducible refine Z.rd_lc' ?_)
  | (with_reducible refine Z.rd_un ?_)
  | (with_reducible refine Z.rd_gm ?_)
  | (with_reducible refine Z.rd_xk ?_)
  | (with_reducible refine Z.rd_stard ?_)
  | ((with_reducible refine' Z.rd_stard1 ?ka ?_); (case ka => walk_at "h"))
  | (with_reducible refine Z.rd_star ?_)
  | ((with_reducible refine' Z.rd_star1 ?ka ?_); (case ka => walk_at "h"))
  | (with_reducible refine Z.rd_dc' ?_)
  | (with_reducible refine Z.rd_dnew ?_)
  | (with_reducible refine Z.rd_dpop ?_)
  | ((with_reducible refine' Z.rd_isd ?ka ?_); (case ka => walk_at "h"))
  | (with_reducible refine Z.rd_fldaug ?_)
  | (with_reducible refine Z.rd_ilt ?_)
  | (with_reducible refine Z.rd_mko ?_)
  | (with_reducible refine Z.rd_gk ?_)
  | (with_reducible refine Z.rd_gp ?_)
  | ((with_reducible refine' Z.rd_ins1 ?ka ?_); (case ka => walk_at "h"))
  | (with_reducible refine Z.rd_disp ?_)
  | (with_reducible refine Z.rd_pnil ?_)
  | (with_reducible refine Z.rd_pcons ?_)
  | (with_reducible refine Z.rd_m1 ?_)
  | (with_reducible refine Z.rd_isstr ?_)
  | (with_reducible refine Z.rd_sl ?_)
  | (with_reducible refine Z.rd_nopart ?_)
  | (with_reducible refine Z.rd_part ?_)
  | (with_reducible refine Z.rd_part1 ?_)
  | (with_reducible refine Z.rd_u ?_)
  | (with_reducible refine Z.rd_ilist ?_)
  | (with_reducible refine Z.rd_itup ?_)
  | (with_reducible refine Z.rd_istr ?_)
  | (with_reducible refine Z.rd_irng1 ?_)
  | (with_reducible refine Z.rd_yes ?_)
  | (with_reducible refine Z.rd_sfld0 ?_)
  | (with_reducible refine Z.rd_fld0 ?_)
  | (with_reducible refine Z.rd_din ?_)
  | (with_reducible refine Z.rd_dnotin ?_)
  | (with_reducible refine Z.rd_isn ?_)
  | (with_reducible refine Z.rd_notn ?_)
  | (with_reducible refine Z.rd_par ?_)
  | (with_reducible refine Z.rd_par1 ?_)
  | (with_reducible refine Z.rd_gnil ?_)
  | (with_reducible refine Z.rd_gcons ?_)
  | (with_reducible refine Z.rd_chain ?_)
  | (with_reducible refine Z.rd_andv ?_)
  | (with_reducible refine Z.rd_orv ?_)
  | (with_reducible refine Z.rd_notv ?_)
  | (with_reducible refine Z.rd_meth ?_)
  | (with_reducible refine Z.rd_while ?_)
  | ((with_reducible refine' Z.rd_ixl ?ka ?kb ?_); (case ka => walk_at "h"); (case kb => walk_at "ati"))
  | ((with_reducible refine' Z.rd_ixt ?ka ?kb ?_); (case ka => walk_at "h"); (case kb => walk_at "ati"))
  | ((with_reducible refine' Z.rd_len ?ka ?_); (case ka => walk_at "h"))
  | ((with_reducible refine' Z.rd_lens ?ka ?_); (case ka => walk_at "h"))
  | ((with_reducible refine' Z.rd_lent ?ka ?_); (case ka => walk_at "h"))
  | ((with_reducible refine' Z.rd_lstof ?ka ?_); (case ka => walk_at "h"))
  | ((with_reducible refine' Z.rd_tupof ?ka ?_); (case ka => walk_at "h"))
  | ((with_reducible refine' Z.rd_sfld1 ?ka ?kb ?kc ?kd ?_); (case ka => walk_at "h"); (case kb => assumption); (case kc => assumption); (case kd => (first | (with_unfolding_all decide) | exact Nat.le_of_ble_eq_true (by with_unfolding_all rfl))))
  | ((with_reducible refine' Z.rd_fld1 ?ka ?kb ?kc ?kd ?_); (case ka => walk_at "h"); (case kb => assumption); (case kc => assumption); (case kd => with_unfolding_all rfl))
  | ((with_reducible refine' Z.rd_din1 ?ka ?_); (case ka => walk_at "h"))
  | ((with_reducible refine' Z.rd_gtup ?ka ?kb ?_); (case ka => walk_at "h"); (case kb => with_unfolding_all rfl))
  | ((with_reducible refine' Z.rd_catl ?ka ?kb ?kc ?_); (case ka => walk_at "h"); (case kb => walk_at "h"); (case kc => walk_at "len"))
  | ((with_reducible refine' Z.rd_meth1 ?ka ?kb ?_); (case ka => walk_at "h"); (case kb => with_unfolding_all rfl))
  | ((with_reducible refine' Z.rd_addstr ?ka ?_); (case ka => walk_at "len")))
local macro_rules | `(tactic| walk_at "ati") => `(tactic| first
  | assumption
  | (with_unfolding_all rfl)
  | exact L2.atI_nat (by assumption)
  | exact L2.atI_nat (by with_unfolding_all rfl)
  | exact L2.atI_last _ _)
local macro_rules | `(tactic| walk_at "rr") => `(tactic| repeat (walk_at "r"))
local macro_rules | `(tactic| walk_at "num") => `(tactic| first
  | (with_unfolding_all decide)
  | (show (_ : Int) ≠ 0; omega)
  | (show (_ : Int) ≠ 0 ∧ _ < 1073741824; exact ⟨by omega, by omega⟩)
  | (show (0 : Int) ≤ _ ∧ _ ≤ (1000000 : Int) ∧ _; exact ⟨by decide, by decide, by omega⟩)
  | (show (-(2 ^ 64) < (_ : Int) ∧ _ < 2 ^ 64) ∨ _; (first | (left; exact ⟨by omega, by omega⟩) | (right; exact ⟨by omega, by omega⟩)))
  | omega)
namespace Z
open PySem PySem.Spec PyProof.Rows L2
abbrev s_Places_names : Stmt := inClass (top 17) 4
abbrev n_Places_names : List Str := ["self", "one", "name", "every"]
theorem sc_Places_names : FnScope n_Places_names ["self"] (defScope s_Places_names) := ⟨rfl, rfl, rfl, by decide +kernel, rfl, by decide +kernel, by decide +kernel⟩
def keysOf (kv : List (L2.Key × V)) : List Str := kv.filterMap fun p => match p.1 with
  | .inr z => some z
  | .inl _ => none
theorem keysOf_map : ∀ {kv : List (L2.Key × V)}, (∀ p ∈ kv, ∃ z, p.1 = .inr z) → kv.map (·.1) = (keysOf kv).map Sum.inr
  | [], _ => rfl
  | p :: r, h => by
    obtain ⟨z, hz⟩ := h p (by simp)
    obtain ⟨k, v⟩ := p
    dsimp only at hz
    subst hz
    have := keysOf_map (kv := r) fun q hq => h q (by simp [hq])
    show (Sum.inr z : L2.Key) :: r.map (·.1) = Sum.inr z :: (keysOf r).map Sum.inr
    rw [this]
theorem keysOf_V {kv : List (L2.Key × V)} (h : ∀ p ∈ kv, ∃ z, p.1 = .inr z) : (kv.map fun p => kV p.1) = (keysOf kv).map V.str := by
  have := congrArg (List.map kV) (keysOf_map h)
  rw [List.map_map, List.map_map] at this
  exact this
theorem keysOf_app {a b : List (L2.Key × V)} : keysOf (a ++ b) = keysOf a ++ keysOf b := by
  unfold keysOf
  rw [List.filterMap_append]
theorem keysOf_len {kv : List (L2.Key × V)} (h : ∀ p ∈ kv, ∃ z, p.1 = .inr z) : kv.length = (keysOf kv).length := by
  have := congrArg List.length (keysOf_map h)
  rw [List.length_map, List.length_map] at this
  exact this
theorem keysOf_put_old {kvs : List (L2.Key × V)} {z : Str} {v : V} (h : z ∈ keysOf kvs) (hk : ∀ p ∈ kvs, ∃ z, p.1 = .inr z) : keysOf (putK kvs (.inr z) v) = keysOf kvs := by
  have hm : (Sum.inr z : L2.Key) ∈ kvs.map (·.1) := by rw [keysOf_map hk]; exact List.mem_map.mpr ⟨z, h, rfl⟩
  obtain ⟨p, hp, e⟩ := List.mem_map.mp hm
  have ha : (kvs.any fun kv => decide (kv.1 = (Sum.inr z : L2.Key))) = true := List.any_eq_true.mpr ⟨p, hp, decide_eq_true e⟩
  have : (putK kvs (.inr z) v).map (·.1) = kvs.map (·.1) := by
    unfold putK
    rw [if_pos ha, List.map_map]
    refine List.map_congr_left fun q _ => ?_
    show (if q.1 = Sum.inr z then (q.1, v) else q).1 = q.1
    split <;> rfl
  rw [keysOf_map hk, keysOf_map (putK_keys hk)] at this
  exact List.map_inj_right (fun x y e => by injection e) |>.mp this
theorem keysOf_put_new {kvs : List (L2.Key × V)} {z : Str} {v : V} (h : z ∉ keysOf kvs) (hk : ∀ p ∈ kvs, ∃ z, p.1 = .inr z) : keysOf (putK kvs (.inr z) v) = keysOf kvs ++ [z] := by
  have ha : ¬ (kvs.any fun kv => decide (kv.1 = (Sum.inr z : L2.Key))) = true := fun q => by
    obtain ⟨p, hp, e⟩ := List.any_eq_true.mp q
    have hm : (Sum.inr z : L2.Key) ∈ kvs.map (·.1) := List.mem_map.mpr ⟨p, hp, of_decide_eq_true e⟩
    rw [keysOf_map hk] at hm
    obtain ⟨y, hy, e2⟩ := List.mem_map.mp hm
    injection e2 with e2
    exact h (e2 ▸ hy)
  unfold putK
  rw [if_neg ha, keysOf_app]
  rfl
def sp_names2 (Λ : List (Addr × Str)) (C CR : Addr) : Sp := fun vs H Q _ => ∃ (pl dx hd md : Addr) (kv : List (L2.Key × V)) (Rs : List Rp) (tn : Int) (ts : List Str), vs = [.ref pl] ∧ Pl C CR H pl dx hd md kv Rs tn ∧ ts.length < 20 ∧ (∀ z ∈ ts, nmB z = true) ∧ (∀ z ∈ keysOf kv, z ∈ ts) ∧ (∀ R ∈ Rs, R.z ∈ ts) ∧
  ∀ p ys H', sortedS ys = true → ys.Nodup → (∀ z, z ∈ ys ↔ z ∈ keysOf kv ∨ ∃ R ∈ Rs, R.z = z) → H' p = some (.tup ((ys.filter fun z => !(seenP kv Rs z).isEmpty).map V.str)) → Fr Λ [] H H' → Q (.ref p) H'
structure T7 (P : Program) (K : PySem.W.Frag) (mg : Str → Option Value) (C CR CN CB : Addr) : Prop extends T6 P K mg C CR CN CB where
  b_tuple : mg "tuple" = none
  b_sorted : mg "sorted" = none
section
variable {γ : Bool} {Λ : List (Addr × Str)} {P : Program} {w : World} {K : PySem.W.Frag} {mg : Str → Option Value} {base : Heap} {C CR CN CB : Addr}
theorem ok_names2 {f : Addr} {fd : FuncData} (F : Fun K "names" "Places.names" s_Places_names f fd) (T : T7 P K mg C CR CN CB) (G : G5 γ Λ P w K mg base C CR) : GOk γ P w K mg base 4 f fd ["self"] (sp_names2 Λ C CR) := by
  refine g_of F sc_Places_names (fun vs H Q E h => ?_) (fun cdv A outer s H vs Q E hA hr h => ?_)
  · obtain ⟨pl, dx, hd, md, kv, Rs, tn, ts, rfl, _⟩ := h
    rfl
  · obtain ⟨pl, dx, hd, md, kv, Rs, tn, ts, rfl, hP, hts, htn, hk1, hk2, k⟩ := h
    have hu := hu_of hr
    obtain ⟨cP, cR, n1, n2, n3, n4, n5, n6, n7⟩ := T.toTP
    have i1 := hP.ins
    have i2 := hP.held
    have i3 := hP.made
    have i4 := hP.rp
    refine ⟨_, (pss_cons (Z.ps_setDc (i := 3) (own := [("name", 2)]) (g := gName 2) (tt := tYes) rfl sc_Places_names.nd rfl rfl (Z.sw_trueD rfl rfl rfl (by decide +kernel)) (pi_list (pe_lst (Z.pa_starD rfl (pe_fld (pv 0) rfl) (StX.pa_star (pe_lc (own := [("one", 1)]) (g := gName 1) (tt := tYes) rfl sc_Places_names.nd (pi_list (pe_fld (pv 0) rfl)) (blkOk_by (own := [("one", 1)]) (N := n_Places_names) (sc := defScope s_Places_names) (by decide +kernel)) (fun _ _ _ _ _ => (pg_name (i := 1) sc_Places_names.nd rfl (.inl rfl))) (fun _ _ _ _ _ => pts_nil) (fun _ _ _ _ _ => (Z.k_fld K (pv 1) rfl))) pa_nil)))) (blkOk_by (own := [("name", 2)]) (N := n_Places_names) (sc := defScope s_Places_names) (by decide +kernel)) (fun _ _ _ _ _ => (pg_name (i := 2) sc_Places_names.nd rfl (.inl rfl))) (fun _ _ _ _ _ => pts_nil) (fun _ _ _ _ _ => (pv 2)) (fun _ _ _ _ _ => pe_bl))
      (pss_one (ps_ret (pe_callTy call_tuple_of (by rfl) T.b_tuple (by decide +kernel) (pa_cons (pe_lc (own := [("name", 2)]) (g := gName 2) (tt := _) rfl sc_Places_names.nd (pi_list (pe_callB (call_sortedD rfl) (by rfl) T.b_sorted (by decide +kernel) (pa_cons (pv 3) pa_nil))) (blkOk_by (own := [("name", 2)]) (N := n_Places_names) (sc := defScope s_Places_names) (by decide +kernel)) (fun _ _ _ _ _ => (pg_name (i := 2) sc_Places_names.nd rfl (.inl rfl))) (fun _ _ _ _ _ => (pts_one (pt_val (pe_gm G.Places_has T.cP (by first | exact hA | exact fun z => nomatch z) (hr.mono (by first | decide | omega)) passL (pv 0) (pa_cons (pv 2) pa_nil))))) (fun _ _ _ _ _ => (pv 2))) pa_nil))))), ?_⟩
    walk_at "rr"
    refine rd_lcl i3 fun D hD0 => ⟨fun i H' => H' D = some (.lst (((Rs.take i).map Rp.z).map V.str)) ∧ Fr Λ [] H H', ⟨upd_same, by walk_at "fr"⟩, fun i H' h => by obtain ⟨h1, h2⟩ := h; walk_at "h", ?_, ?_⟩
    · rintro i x H1 hi hx ⟨h1, hF1⟩
      rw [List.length_map] at hi
      have hx2 : (Rs.map fun R => V.ref R.r)[i]? = some (V.ref Rs[i].r) := by simp [hi]
      rw [hx2] at hx
      obtain rfl : V.ref Rs[i].r = x := Option.some.inj hx
      have hR1 := hF1.at (i4 Rs[i] (List.getElem_mem hi)).1 nm_nil rfl
      have htk : Rs.take (i + 1) = Rs.take i ++ [Rs[i]] := by rw [List.take_add_one, List.getElem?_eq_getElem hi]; rfl
      have hfew := hP.few.2
      walk_at "rr"
      refine ⟨rfl, ?_⟩
      walk_at "rr"
      refine iteT ?_
      walk_at "rr"
      refine ⟨_, h1, lt_ok (by rw [List.length_map, List.length_map, List.length_take]; omega), ?_, by walk_at "fr"⟩
      rw [htk, upd_same, List.map_append, List.map_append]; rfl
    · rintro H1 ⟨h1, hF1⟩
      rw [List.length_map, List.take_length] at h1
      have hfew := hP.few
      walk_at "rr"
      intro L hL
      walk_at "rr"
      have ex : (kv.map fun kv => kV kv.1) ++ ((Rs.map Rp.z).map V.str ++ []) = (keysOf kv ++ Rs.map Rp.z).map V.str := by
        rw [List.append_nil, List.map_append, keysOf_V hP.keys]
      rw [ex]
      have hzs : ∀ z ∈ keysOf kv ++ Rs.map Rp.z, z ∈ ts := fun z hz => by
        rcases List.mem_append.mp hz with hz | hz
        · exact hk1 z hz
        · obtain ⟨R, hR, rfl⟩ := List.mem_map.mp hz
          exact hk2 R hR
      have hiff : ∀ z, z ∈ keysOf kv ++ Rs.map Rp.z ↔ z ∈ keysOf kv ∨ ∃ R ∈ Rs, R.z = z := fun z => by
        rw [List.mem_append, List.mem_map]
      have hFL : Fr Λ [] H (L2.upd H1 L (.lst ((keysOf kv ++ Rs.map Rp.z).map V.str))) := by walk_at "fr"
      generalize keysOf kv ++ Rs.map Rp.z = zs at hzs hiff hFL ⊢
      have hLk : ∀ {D2 : Addr} {o : HO}, L2.upd H1 L (.lst (zs.map V.str)) D2 = none → L2.upd (L2.upd H1 L (.lst (zs.map V.str))) D2 o L = some (.lst (zs.map V.str)) := fun {D2 o} h => by
        rw [upd_ne (fun e => by rw [← e, upd_same] at h; cases h), upd_same]
      refine rd_dcl upd_same fun D2 hD2 => ⟨fun i H' => ∃ kvs, H' D2 = some (.dK kvs) ∧ (∀ p ∈ kvs, ∃ z, p.1 = .inr z) ∧ (keysOf kvs).Nodup ∧ (∀ z, z ∈ keysOf kvs ↔ z ∈ zs.take i) ∧ H' L = some (.lst (zs.map V.str)) ∧ Fr Λ [] H H',
        ⟨[], upd_same, fun p hp => (nomatch hp), List.nodup_nil, fun z => by rw [List.take_zero]; rfl, hLk hD2, hFL.new hD2⟩, fun i H' h => by obtain ⟨_, _, _, _, _, h, _⟩ := h; exact h, ?_, ?_⟩
      · rintro i x H2 hi hx ⟨kvs, e1, e2, e3, e4, e5, hF2⟩
        rw [List.length_map] at hi
        have hx2 : (zs.map V.str)[i]? = some (V.str zs[i]) := by simp [hi]
        rw [hx2] at hx
        obtain rfl : V.str zs[i] = x := Option.some.inj hx
        have htk : zs.take (i + 1) = zs.take i ++ [zs[i]] := by rw [List.take_add_one, List.getElem?_eq_getElem hi]; rfl
        have hsub := nodup_sub e3 (m := ts) (fun z hz => hzs z (List.mem_of_mem_take ((e4 z).mp hz)))
        have hln := keysOf_len e2
        walk_at "rr"
        refine ⟨rfl, ?_⟩
        walk_at "rr"
        refine iteT ?_
        walk_at "rr"
        refine ⟨kvs, .inr zs[i], rfl, e1, lt_ok (by omega), putK kvs (.inr zs[i]) (.bl true), upd_same, putK_keys e2, ?_, fun z => ?_, ?_, ?_⟩
        · by_cases hz : zs[i] ∈ keysOf kvs
          · rw [keysOf_put_old hz e2]; exact e3
          · rw [keysOf_put_new hz e2]
            exact List.nodup_append.mpr ⟨e3, by simp, fun a ha b hb e => hz (by rw [← List.mem_singleton.mp hb, ← e]; exact ha)⟩
        · rw [htk, List.mem_append, List.mem_singleton, ← e4 z]
          by_cases hz : zs[i] ∈ keysOf kvs
          · rw [keysOf_put_old hz e2]
            exact ⟨.inl, fun h => h.elim id fun e => by rw [e]; exact hz⟩
          · rw [keysOf_put_new hz e2, List.mem_append, List.mem_singleton]
        · rw [upd_ne (ne_of e5 e1 (by intro z; cases z))]; exact e5
        · refine hF2.upd (.inr ?_) e1 rfl
          exact hFL.free (.of hD2)
      · rintro H2 ⟨kvs, e1, e2, e3, e4, e5, hF2⟩
        rw [List.length_map, List.take_length] at e4
        have hsub := nodup_sub e3 (m := ts) (fun z hz => hzs z ((e4 z).mp hz))
        have hP2 := hP.keep0 hF2
        walk_at "rr"
        refine ⟨D2, kvs, keysOf kvs, rfl, .inl e1, keysOf_map e2, by omega, fun ys p hperm hsort hp => ?_⟩
        have hyt : ∀ z, z ∈ ys → nmB z = true := fun z hz => htn z (hzs z ((e4 z).mp (hperm.mem_iff.mp hz)))
        have hF3 : Fr Λ [] H (L2.upd H2 p (.lst (ys.map V.str))) := hF2.new hp
        have hLp : ∀ {D2 : Addr} {o : HO}, L2.upd H2 p (.lst (ys.map V.str)) D2 = none → L2.upd (L2.upd H2 p (.lst (ys.map V.str))) D2 o p = some (.lst (ys.map V.str)) := fun {D2 o} h => by
          rw [upd_ne (fun e => by rw [← e, upd_same] at h; cases h), upd_same]
        refine rd_lcl upd_same fun D3 hD3 => ⟨fun i H' => H' D3 = some (.lst (((ys.take i).filter fun z => !(seenP kv Rs z).isEmpty).map V.str)) ∧ H' p = some (.lst (ys.map V.str)) ∧ Fr Λ [] H H', ⟨upd_same, hLp hD3, hF3.new hD3⟩, fun i H' h => h.2.1, ?_, ?_⟩
        · rintro i x H4 hi hx ⟨f1, f2, hF4⟩
          rw [List.length_map] at hi
          have hx2 : (ys.map V.str)[i]? = some (V.str ys[i]) := by simp [hi]
          rw [hx2] at hx
          obtain rfl : V.str ys[i] = x := Option.some.inj hx
          have htk : ys.take (i + 1) = ys.take i ++ [ys[i]] := by rw [List.take_add_one, List.getElem?_eq_getElem hi]; rfl
          have hny := hyt _ (List.getElem_mem hi)
          have hP4 := hP.keep0 hF4
          have i1 := hP4.ins
          have hylen : ys.length < 20 := by rw [hperm.length_eq]; omega
          walk_at "rr"
          refine ⟨rfl, ?_⟩
          walk_at "rr"
          refine ⟨pl, dx, hd, md, kv, Rs, tn, ys[i], rfl, Nat.le_trans (nm_short hny) (by decide), hP4, fun H5 hF5 => ?_⟩
          rw [hny]
          have f15 := hF5.at f1 nm_nil rfl
          have f25 := hF5.at f2 nm_nil rfl
          refine ⟨_, rfl, rd_iteb (fun h => ?_) (fun h => ?_)⟩
          · have hs : (!(seenP kv Rs ys[i]).isEmpty) = true := by simpa using h
            walk_at "rr"
            refine ⟨_, f15, lt_ok ?_, ?_, ?_, ?_⟩
            · rw [List.length_map]
              exact Nat.le_trans (List.length_filter_le ..) (by rw [List.length_take]; omega)
            · rw [htk, List.filter_append, upd_same, List.map_append, List.filter_cons_of_pos (p := fun z => !(seenP kv Rs z).isEmpty) hs]; rfl
            · rw [upd_ne (fun e => by rw [← e, upd_same] at hD3; cases hD3)]; exact f25
            · exact (hF4.trans hF5).upd (.inr (hF3.free (.of hD3))) f15 rfl
          · have hs : ¬ (!(seenP kv Rs ys[i]).isEmpty) = true := by simpa using h
            refine ⟨?_, f25, hF4.trans hF5⟩
            rw [htk, List.filter_append, List.filter_cons_of_neg (p := fun z => !(seenP kv Rs z).isEmpty) hs, List.filter_nil, List.append_nil]
            exact f15
        · rintro H4 ⟨f1, f2, hF4⟩
          rw [List.length_map, List.take_length] at f1
          walk_at "rr"
          intro q hq
          walk_at "rr"
          exact k q ys _ hsort (hperm.nodup_iff.mpr e3) (fun z => by rw [hperm.mem_iff, e4 z, hiff z]) upd_same (hF4.new hq)
end
end Z

end
section
local macro_rules | `(tactic| walk_at "ne") => `(tactic| first
  | assumption
  | (refine Z.ne_sym ?_; assumption)
  | (refine' Z.ne_new ?ka ?kb; (case ka => assumption); (case kb => walk_at "h"))
  | (refine' Z.ne_sym (Z.ne_new ?ka ?kb); (case ka => assumption); (case kb => walk_at "h"))
  | ((with_reducible refine' Z.ne_nw ?ka ?kb ?kc); (case ka => assumption); (case kb => walk_at "h"); (case kc => rfl))
  | ((with_reducible refine' Z.ne_sym (Z.ne_nw ?ka ?kb ?kc)); (case ka => assumption); (case kb => walk_at "h"); (case kc => rfl))
  | exact L2.ne_of (by assumption) (by assumption) (by intro z; cases z)
  | exact Z.ne_sym (L2.ne_of (by assumption) (by assumption) (by intro z; cases z)))
local macro_rules | `(tactic| walk_at "nm") => `(tactic| first
  | exact Z.nm_nil
  | exact Z.nm_cons (by walk_at "ne") (by walk_at "nm"))
local macro_rules | `(tactic| walk_at "h") => `(tactic| first
  | assumption
  | exact L2.upd_same
  | ((with_reducible refine' Eq.trans (L2.upd_ne ?ka) ?kb); (case ka => walk_at "ne"); (case kb => walk_at "h"))
  | ((with_reducible refine' Z.Fr.at ?ka ?kb ?kc ?kd); (case ka => assumption); (case kb => walk_at "h"); (case kc => walk_at "nm"); (case kd => rfl))
  | ((with_reducible refine' Z.Fr.tup ?ka ?kb); (case ka => assumption); (case kb => walk_at "h")))
local macro_rules | `(tactic| walk_at "free") => `(tactic| first
  | assumption
  | exact Z.Nw.of (by assumption)
  | ((with_reducible refine' Z.Fr.free ?ka ?kb); (case ka => assumption); (case kb => walk_at "free")))
local macro_rules | `(tactic| walk_at "ms") => `(tactic| first
  | exact Or.inl List.mem_cons_self
  | exact Or.inl (List.mem_cons_of_mem _ List.mem_cons_self)
  | (left; simp; done)
  | (right; walk_at "free"))
local macro_rules | `(tactic| walk_at "sub") => `(tactic| first
  | exact Z.sub_nil
  | ((with_reducible refine' Z.sub_cons ?ka ?kb); (case ka => walk_at "ms"); (case kb => walk_at "sub")))
local macro_rules | `(tactic| walk_at "fr") => `(tactic| first
  | assumption
  | exact Z.Fr.refl _ _
  | ((with_reducible refine' Z.Fr.new ?ka ?kb); (case kb => assumption); (case ka => walk_at "fr"))
  | ((with_reducible refine' Z.Fr.upd ?ka ?kb ?kc ?kd ?ke); (case kb => walk_at "ms"); (case kc => walk_at "h"); (case kd => rfl); (case ke => rfl); (case ka => walk_at "fr"))
  | ((with_reducible refine' Z.Fr.step ?ka ?kb ?kc); (case ka => assumption); (case kb => walk_at "fr"); (case kc => walk_at "sub")))
local macro_rules | `(tactic| walk_at "dt") => `(tactic| first
  | assumption
  | (refine Z.DT.new ?_ (by assumption); walk_at "dt")
  | (refine Z.DTs.new ?_ (by assumption); walk_at "dt")
  | (refine' Z.DT.wr ?ka ?kb ?kc; (case kb => walk_at "h"); (case kc => rfl); (case ka => walk_at "dt"))
  | (refine' Z.DTs.wr ?ka ?kb ?kc; (case kb => walk_at "h"); (case kc => rfl); (case ka => walk_at "dt"))
  | (refine' Z.DT.fr ?ka ?kb; (case kb => assumption); (case ka => walk_at "dt"))
  | (refine' Z.DTs.fr ?ka ?kb; (case kb => assumption); (case ka => walk_at "dt")))
local macro_rules | `(tactic| walk_at "len") => `(tactic| first
  | exact Z.lt_ok (Nat.le_of_ble_eq_true (by with_unfolding_all rfl))
  | exact Z.le_ok (Nat.le_of_ble_eq_true (by with_unfolding_all rfl))
  | (apply Z.lt_ok; (try simp only [List.length_append, List.length_cons, List.length_nil, List.length_map, List.length_set, List.length_eraseIdx] at *); omega)
  | (apply Z.le_ok; (try simp only [List.length_append, List.length_cons, List.length_nil, List.length_map, List.length_set, List.length_eraseIdx] at *); omega))
local macro_rules | `(tactic| walk_at "r") => `(tactic| first
  | (with_reducible refine Z.rd_seq ?_)
  | (with_reducible refine Z.rd_asg ?_)
  | (with_reducible refine Z.rd_gname ?_)
  | (with_reducible refine Z.rd_ifs ?_)
  | (with_reducible refine Z.rd_next ?_)
  | (with_reducible refine Z.rd_and ?_)
  | (with_reducible refine Z.rd_or ?_)
  | (with_reducible refine Z.rd_not ?_)
  | (with_reducible refine Z.rd_test ?_)
  | (with_reducible refine Z.rd_tb ?_)
  | (with_reducible refine Z.rd_bl ?_)
  | (with_reducible refine Z.rd_op ?_)
  | (with_reducible refine Z.rd_c ?_)
  | ((with_reducible refine' Z.rd_var ?ka ?_); (case ka => with_unfolding_all rfl))
  | (with_reducible refine Z.rd_ret ?_)
  | (with_reducible refine Z.rd_retn ?_)
  | (with_reducible refine Z.rd_drop ?_)
  | (with_reducible refine Z.rd_nil ?_)
  | (with_reducible refine Z.rd_cons ?_)
  | (with_reducible refine Z.rd_cb ?_)
  | (with_reducible refine Z.rd_call ?_)
  | (with_reducible refine Z.rd_dget0 ?_)
  | ((with_reducible refine' Z.rd_dget1 ?ka ?kb ?_); (case ka => walk_at "h"); (case kb => with_unfolding_all rfl))
  | (with_reducible refine Z.rd_dput0 ?_)
  | ((with_reducible refine' Z.rd_dput1 ?ka ?kb ?_); (case ka => walk_at "h"); (case kb => walk_at "len"))
  | (with_reducible refine Z.rd_eqi ?_)
  | (with_reducible refine Z.rd_eqs ?_)
  | (with_reducible refine Z.rd_nei ?_)
  | (with_reducible refine Z.rd_nes ?_)
  | (with_reducible refine Z.rd_i0 ?_)
  | (with_reducible refine Z.rd_lst ?_)
  | (with_reducible refine Z.rd_tup ?_)
  | (with_reducible refine Z.rd_ifx ?_)
  | (with_reducible refine Z.rd_bm ?_)
  | (with_reducible refine Z.rd_bm0 ?_)
  | ((with_reducible refine' Z.rd_nil2 ?ka ?kb ?_); (case ka => walk_at "h"); (case kb => walk_at "h"))
  | ((with_reducible refine' Z.rd_nil2T ?ka ?kb ?_); (case ka => walk_at "h"); (case kb => walk_at "h"))
  | (with_reducible refine Z.rd_int1 ?_)
  | ((with_reducible refine' Z.rd_size ?ka ?_); (case ka => walk_at "len"))
  | ((with_reducible refine' Z.rd_tylist ?ka ?_); (case ka => walk_at "h"))
  | ((with_reducible refine' Z.rd_i ?ka ?_); (case ka => walk_at "num"))
  | ((with_reducible refine' Z.rd_append ?ka ?kb ?_); (case ka => walk_at "h"); (case kb => walk_at "len"))
  | (with_reducible refine Z.rd_for' ?_)
  | (with_reducible refine Z.rd_lc' ?_)
  | (with_reducible refine Z.rd_un ?_)
  | (with_reducible refine Z.rd_gm ?_)
  | (with_reducible refine Z.rd_xk ?_)
  | (with_reducible refine Z.rd_stard ?_)
  | ((with_reducible refine' Z.rd_stard1 ?ka ?_); (case ka => walk_at "h"))
  | (with_reducible refine Z.rd_star ?_)
  | ((with_reducible refine' Z.rd_star1 ?ka ?_); (case ka => walk_at "h"))
  | (with_reducible refine Z.rd_dc' ?_)
  | (with_reducible refine Z.rd_dnew ?_)
  | (with_reducible refine Z.rd_dpop ?_)
  | ((with_reducible refine' Z.rd_isd ?ka ?_); (case ka => walk_at "h"))
  | (with_reducible refine Z.rd_fldaug ?_)
  | (with_reducible refine Z.rd_ilt ?_)
  | (with_reducible refine Z.rd_mko ?_)
  | (with_reducible refine Z.rd_gk ?_)
  | (with_reducible refine Z.rd_gp ?_)
  | ((with_reducible refine' Z.rd_ins1 ?ka ?_); (case ka => walk_at "h"))
  | (with_reducible refine Z.rd_disp ?_)
  | (with_reducible refine Z.rd_pnil ?_)
  | (with_reducible refine Z.rd_pcons ?_)
  | (with_reducible refine Z.rd_m1 ?_)
  | (with_reducible refine Z.rd_isstr ?_)
  | (with_reducible refine Z.rd_sl ?_)
  | (with_reducible refine Z.rd_nopart ?_)
  | (with_reducible refine Z.rd_part ?_)
  | (with_reducible refine Z.rd_part1 ?_)
  | (with_reducible refine Z.rd_u ?_)
  | (with_reducible refine Z.rd_ilist ?_)
  | (with_reducible refine Z.rd_itup ?_)
  | (with_reducible refine Z.rd_istr ?_)
  | (with_reducible refine Z.rd_irng1 ?_)
  | (with_reducible refine Z.rd_yes ?_)
  | (with_reducible refine Z.rd_sfld0 ?_)
  | (with_reducible refine Z.rd_fld0 ?_)
  | (with_reducible refine Z.rd_din ?_)
  | (with_reducible refine Z.rd_dnotin ?_)
  | (with_reducible refine Z.rd_isn ?_)
  | (with_reducible refine Z.rd_notn ?_)
  | (with_reducible refine Z.rd_par ?_)
  | (with_reducible refine Z.rd_par1 ?_)
  | (with_reducible refine Z.rd_gnil ?_)
  | (with_reducible refine Z.rd_gcons ?_)
  | (with_reducible refine Z.rd_chain ?_)
  | (with_reducible refine Z.rd_andv ?_)
  | (with_reducible refine Z.rd_orv ?_)
  | (with_reducible refine Z.rd_notv ?_)
  | (with_reducible refine Z.rd_meth ?_)
  | (with_reducible refine Z.rd_while ?_)
  | ((with_reducible refine' Z.rd_ixl ?ka ?kb ?_); (case ka => walk_at "h"); (case kb => walk_at "ati"))
  | ((with_reducible refine' Z.rd_ixt ?ka ?kb ?_); (case ka => walk_at "h"); (case kb => walk_at "ati"))
  | ((with_reducible refine' Z.rd_len ?ka ?_); (case ka => walk_at "h"))
  | ((with_reducible refine' Z.rd_lens ?ka ?_); (case ka => walk_at "h"))
  | ((with_reducible refine' Z.rd_lent ?ka ?_); (case ka => walk_at "h"))
  | ((with_reducible refine' Z.rd_lstof ?ka ?_); (case ka => walk_at "h"))
  | ((with_reducible refine' Z.rd_tupof ?ka ?_); (case ka => walk_at "h"))
  | ((with_reducible refine' Z.rd_sfld1 ?ka ?kb ?kc ?kd ?_); (case ka => walk_at "h"); (case kb => assumption); (case kc => assumption); (case kd => (first | (with_unfolding_all decide) | exact Nat.le_of_ble_eq_true (by with_unfolding_all rfl))))
  | ((with_reducible refine' Z.rd_fld1 ?ka ?kb ?kc ?kd ?_); (case ka => walk_at "h"); (case kb => assumption); (case kc => assumption); (case kd => with_unfolding_all rfl))
  | ((with_reducible refine' Z.rd_din1 ?ka ?_); (case ka => walk_at "h"))
  | ((with_reducible refine' Z.rd_gtup ?ka ?kb ?_); (case ka => walk_at "h"); (case kb => with_unfolding_all rfl))
  | ((with_reducible refine' Z.rd_catl ?ka ?kb ?kc ?_); (case ka => walk_at "h"); (case kb => walk_at "h"); (case kc => walk_at "len"))
  | ((with_reducible refine' Z.rd_meth1 ?ka ?kb ?_); (case ka => walk_at "h"); (case kb => with_unfolding_all rfl))
  | ((with_reducible refine' Z.rd_addstr ?ka ?_); (case ka => walk_at "len")))
local macro_rules | `(tactic| walk_at "ati") => `(tactic| first
  | assumption
  | (with_unfolding_all rfl)
  | exact L2.atI_nat (by assumption)
  | exact L2.atI_nat (by with_unfolding_all rfl)
  | exact L2.atI_last _ _)
local macro_rules | `(tactic| walk_at "rr") => `(tactic| repeat (walk_at "r"))
local macro_rules | `(tactic| walk_at "num") => `(tactic| first
  | (with_unfolding_all decide)
  | (show (_ : Int) ≠ 0; omega)
  | (show (_ : Int) ≠ 0 ∧ _ < 1073741824; exact ⟨by omega, by omega⟩)
  | (show (0 : Int) ≤ _ ∧ _ ≤ (1000000 : Int) ∧ _; exact ⟨by decide, by decide, by omega⟩)
  | (show (-(2 ^ 64) < (_ : Int) ∧ _ < 2 ^ 64) ∨ _; (first | (left; exact ⟨by omega, by omega⟩) | (right; exact ⟨by omega, by omega⟩)))
  | omega)
namespace Z
open PySem PySem.Spec PyProof.Rows L2
abbrev s__law_result : Stmt := top 27
abbrev n__law_result : List Str := ["work", "error", "found", "caught"]
theorem sc__law_result : FnScope n__law_result ["work"] (defScope s__law_result) := ⟨rfl, rfl, rfl, by decide +kernel, rfl, by decide +kernel, by decide +kernel⟩
theorem takes_len {X : Cx} {W : WX} (tk : Takes X W) : Takes X (fun cls d σ H => σ.length = X.N.length → W cls d σ H) := fun u s' x => by
  obtain ⟨a, B, sI, pins, σ, H, cls, d, e, I, nb, up, sky, na, os, ag, w⟩ := x
  exact tk u s' ⟨a, B, sI, pins, σ, H, cls, d, e, I, nb, up, sky, na, os, ag, w I.len⟩
/-- found = work(): what the lambda gives goes to slot 2, what it raises is looked at -/
def tRb (f c' : Addr) (q : Str) (tl : XK → Hp → VK → Prop) (W : WX) : TS := fun D σ H => ∃ Ech : XK, (∀ cls d σ' H', σ'.length = 4 → Ech cls d H' → W cls d σ' H') ∧ σ[0]? = some (some (.ref f)) ∧ H c' = some (LamX.CodeO c' q) ∧ tl Ech H fun v H1 => gName 2 v σ H1 D.nx
/-- an answer of _law_result -/
def Ans (Λ : List (Addr × Str)) (w : Str) (v : V) (H : Hp) (Q : VK) : Prop := ∀ H' p, Fr Λ [] H H' → H' p = some (.tup [.str w, v]) → Q (.ref p) H'
/-- what the lambda may raise -/
def ResE (Λ : List (Addr × Str)) (CN CB : Addr) (Q : VK) : XK := fun cls d H' => (cls = .ref CN ∧ ∃ dd z, d = some dd ∧ H' dd = some (.xd [("name", .str z)]) ∧ Ans Λ "no place" (.str z) H' Q) ∨ (cls = .ref CB ∧ d = none ∧ Ans Λ "order" .non H' Q)
def TRes (Λ : List (Addr × Str)) (CN CB : Addr) : (XK → Hp → VK → Prop) → Hp → VK → Prop := fun tl H Q => ∀ H1, Fr Λ [] H H1 → ∀ Q' : VK, (∀ v H2, Ans Λ "gave" v H2 Q → Q' v H2) → tl (ResE Λ CN CB Q) H1 Q'
structure TR (K : PySem.W.Frag) (mg : Str → Option Value) (CT CN CB : Addr) : Prop where
  m_TakerError : mg "TakerError" = some (.ref CT)
  m_NoPlace : mg "NoPlace" = some (.ref CN)
  m_BadOrder : mg "BadOrder" = some (.ref CB)
  b_isinstance : mg "isinstance" = none
  xN : PySem.W.exmOne K (.ref CN) (.ref CT) = some true
  xB : PySem.W.exmOne K (.ref CB) (.ref CT) = some true
  eN : ExcC K CN
  eB : ExcC K CB
  kNN : PySem.W.kitOne K (.ref CN) (.ref CN) = some true
  kBN : PySem.W.kitOne K (.ref CB) (.ref CN) = some false
  kBB : PySem.W.kitOne K (.ref CB) (.ref CB) = some true
  xf : XfC K CN
  nn : PySem.W.findIn K (.ref CN) "name" = some none
section
variable {Λ : List (Addr × Str)} {X : Cx} {CT CN CB g : Addr} {cdg : Value} {q : Str}
theorem res_body {s : Shared} {H : Hp} {f c' : Addr} {tl : XK → Hp → VK → Prop} {p1 p2 p3 p4 : Pos}
    (act : ∀ (W : WX) (pn : List (Addr × Obj)) (xe : Value → Shared → Prop) (E : XK) (p1 p2 : Pos), Takes ((cxOf C8.CX0 X.prog X.w X.K X.mg X.base n__law_result "_law_result" (defScope s__law_result) g cdg X.A X.stack s H C8.E0).tr pn xe) W → (∀ cls d σ' H', E cls d H' → W cls d σ' H') →
      PE ((cxOf C8.CX0 X.prog X.w X.K X.mg X.base n__law_result "_law_result" (defScope s__law_result) g cdg X.A X.stack s H C8.E0).tr pn xe) (.Call (.Name "work" p1) [] [] p2) (fun σZ HZ Q => σZ[0]? = some (some (.ref f)) ∧ HZ c' = some (LamX.CodeO c' q) ∧ tl E HZ Q))
    (W : WX) (pn : List (Addr × Obj)) (xe : Value → Shared → Prop) (tk : Takes ((cxOf C8.CX0 X.prog X.w X.K X.mg X.base n__law_result "_law_result" (defScope s__law_result) g cdg X.A X.stack s H C8.E0).nox.tr pn xe) W) :
    PSs ((cxOf C8.CX0 X.prog X.w X.K X.mg X.base n__law_result "_law_result" (defScope s__law_result) g cdg X.A X.stack s H C8.E0).nox.tr pn xe) [.Assign [.Name "found" p3] (.Call (.Name "work" p1) [] [] p2) p4] (tRb f c' q tl W) := by
  refine ⟨fun pins s' σ H' D I h' => ?_⟩
  obtain ⟨Ech, hW, h1, h2, h3⟩ := h'
  have hp := act (fun cls d σ H => σ.length = 4 → W cls d σ H) pn xe Ech p1 p2 (takes_len tk) (fun cls d σ' H' he hl => hW cls d σ' H' hl he)
  exact (pss_one (ps_set (i := 2) (pos := p4) sc__law_result.nd rfl (.inl rfl) hp)).run pins s' σ H' D I ⟨h1, h2, h3⟩
theorem result_gives (T : TR X.K X.mg CT CN CB) : LamX.GivesTo X n__law_result "_law_result" (defScope s__law_result) g cdg (defBody s__law_result) "work" q (TRes Λ CN CB) := by
  intro f c' s H Q tl act hc h
  refine ⟨_, (pss_cons (ps_asg (pe_tup (pa_cons pe_non (pa_cons pe_non pa_nil))) (pg_tup rfl (pgs_cons (pg_name (i := 1) sc__law_result.nd rfl (.inl rfl)) (pgs_cons (pg_name (i := 2) sc__law_result.nd rfl (.inl rfl)) pgs_nil))))
      (pss_cons (Z.ps_try_keep rfl rfl rfl sc__law_result.nd (i := 3) rfl rfl ⟨rfl, by decide, .inl T.m_TakerError⟩ takes0 (fun W pn xe tk _ => Z.res_body act W pn xe tk) (fun a oe pn => pss_one (ps_set (i := 1) sc__law_result.nd rfl (.inl rfl) (pv 3))))
      (pss_cons (ps_if (pt_cmp (pc_isN (pv 1)))
      (pss_one (ps_ret (pe_tup (pa_cons pe_str (pa_cons (pv 2) pa_nil)))))
      pss_nil)
      (pss_cons (ps_if (pt_val (pe_callB call_isK (by rfl) T.b_isinstance (by decide +kernel) (pa_cons (pv 1) (pa_cons (pe_glob (v := .ref CN) rfl T.m_NoPlace rfl) pa_nil))))
      (pss_one (ps_ret (pe_tup (pa_cons pe_str (pa_cons (Z.pe_xk (pv 1)) pa_nil)))))
      pss_nil)
      (pss_one (ps_ret (pe_ifExp (pt_val (pe_callB call_isK (by rfl) T.b_isinstance (by decide +kernel) (pa_cons (pv 1) (pa_cons (pe_glob (v := .ref CB) rfl T.m_BadOrder rfl) pa_nil)))) (pe_tup (pa_cons pe_str (pa_cons pe_non pa_nil))) (pe_tup (pa_cons pe_str (pa_cons pe_non pa_nil)))))))))), ?_⟩
  walk_at "rr"
  intro t0 ht0
  walk_at "rr"
  have fin : ∀ (w : Str) (v : V) (H1 H2 : Hp) (p : Addr), Ans Λ w v H1 Q → Fr Λ [] H1 H2 → H2 p = none → Q (.ref p) (L2.upd H2 p (.tup [.str w, v])) := fun w v H1 H2 p ha hF hp => ha _ p (hF.new hp) upd_same
  have hF0 : Fr Λ [] H (L2.upd H t0 (.tup [.non, .non])) := (Fr.refl [] H).new ht0
  have hc1 : L2.upd H t0 (.tup [.non, .non]) c' = some (LamX.CodeO c' q) := by rw [upd_ne (ne_of_none hc ht0)]; exact hc
  refine ⟨ResE Λ CN CB Q, fun cls d σ' H' hl he => ?_, rfl, hc1, h _ hF0 _ fun v H2 ha => ?_⟩
  · obtain ⟨a0, a1, a2, a3, rfl⟩ : ∃ a0 a1 a2 a3, σ' = [a0, a1, a2, a3] := by
      match σ', hl with
      | [a0, a1, a2, a3], _ => exact ⟨_, _, _, _, rfl⟩
    rcases he with ⟨rfl, dd, z, rfl, hdd, ha⟩ | ⟨rfl, rfl, ha⟩
    · refine ⟨true, T.xN, fun _ a hn => ?_, fun z => nomatch z⟩
      walk_at "rr"
      refine iteF ?_
      walk_at "rr"
      have hdd1 : L2.upd H' a (ExK (.ref CN) (some dd) a) dd = some (.xd [("name", .str z)]) := by rw [upd_ne (ne_of_none hdd hn)]; exact hdd
      refine ⟨a, CN, some dd, _, _, true, rfl, upd_same, T.eN, .inr ⟨dd, _, rfl, hdd1⟩, .own _, T.kNN, ?_⟩
      walk_at "rr"
      refine iteT ?_
      walk_at "rr"
      refine ⟨a, CN, dd, _, _, rfl, upd_same, T.xf, T.nn, hdd1, rfl, ?_⟩
      walk_at "rr"
      intro p hp
      exact fin _ _ _ _ _ ha ((Fr.refl [] H').new hn) hp
    · refine ⟨true, T.xB, fun _ a hn => ?_, fun z => nomatch z⟩
      walk_at "rr"
      refine iteF ?_
      walk_at "rr"
      refine ⟨a, CB, none, _, _, false, rfl, upd_same, T.eB, .inl rfl, .own _, T.kBN, ?_⟩
      walk_at "rr"
      refine iteF ?_
      walk_at "rr"
      refine ⟨a, CB, none, _, _, true, rfl, upd_same, T.eB, .inl rfl, .own _, T.kBB, ?_⟩
      walk_at "rr"
      refine iteT ?_
      walk_at "rr"
      intro p hp
      exact fin _ _ _ _ _ ha ((Fr.refl [] H').new hn) hp
  · walk_at "rr"
    refine iteT ?_
    walk_at "rr"
    intro p hp
    exact fin _ _ _ _ _ ha (Fr.refl [] H2) hp
/-- _law_result, as it stands in the module -/
structure GRes (K : PySem.W.Frag) (mg : Str → Option Value) (CT CN CB : Addr) : Prop where
  ex : ∃ g fd, Fun K "_law_result" "_law_result" s__law_result g fd ∧ mg "_law_result" = some (.ref g) ∧ L2.Binds K fd ["work"] [] ∧ TR K mg CT CN CB
/-- _law_result(lambda: body) -/
theorem pe_res {k : Nat} {c Pt : Addr} {params : Arguments} {body : Expr} {scope : Scope} {t : XK → TE} {p lpos pos : Pos} (G : GRes X.K X.mg CT CN CB) (hg : Gl X "_law_result") (TB : LamX.TabB X.base X.mg c Pt) (hcode : X.env.code = .ref c) (hmT : (Pt, X.env.qual ++ "<lambda>") ∈ Λ) (hu : ∀ p ∈ Λ, p.1 = Pt → p.2 = X.env.qual ++ "<lambda>")
    (hr : Room (k + 2) X.A) (L : LamX.LamS X.env.scope scope) (hdef : defaultsOf params X.env = ([], []))
    (hbind : ∀ (q : Str) (cl : List (Str × Addr)) (pm cv ctv : Value), bindArgs (PySem.W.kla_fn "<lambda>" q params body scope cl pm cv ctv) ⟨[], []⟩ = pure [])
    (hbody : ∀ (A : Around) (outer : List Env) (s : Shared) (H : Hp) (E : XK) (f c' : Addr), Room k (A.deeper (LamX.lamEnv X scope s.heap.objs.size f c')) → PE (LamX.lamCx X A outer s H E scope f c') body (t E)) :
    PE X (.Call (.Name "_law_result" p) [.Lambda params body scope lpos] [] pos) (LamX.tLam Λ (TRes Λ CN CB) t) := by
  obtain ⟨g, fd, F, hm, hb, T⟩ := G.ex
  obtain ⟨oc, od, kV, doc, pm, an, cdv, ct, osl, rfl, lk, hcd⟩ := F.ex
  exact LamX.pe_lamcall hg hm F.kp lk hcd hb sc__law_result rfl (.inl rfl) (result_gives T) TB hcode hmT hu hr L hdef hbind hbody (by decide) (by decide) (by decide)
/-- a def whose code has a table of its own (it makes lambdas) -/
structure FunC (K : PySem.W.Frag) (x qual : Str) (st : Stmt) (f : Addr) (fd : FuncData) (c : Addr) : Prop where
  ex : ∃ (oc : Value) (od : Option Addr) (kV doc pm : Value) (an : Option Addr) (ct : Value) (osl : Array (Option Value)),
    fd = PySem.W.fnOf x qual (defArgs st) (defBody st) (defScope st) .none kV doc pm an (.ref c) ct ∧ K.lookup f = some ⟨oc, od, .func fd, osl⟩ ∧ PySem.W.codeIn K (.ref c) qual = true
theorem g_ofC {γ : Bool} {P : Program} {w : World} {K : PySem.W.Frag} {mg : Str → Option Value} {base : Heap} {x qual : Str} {st : Stmt} {f c : Addr} {fd : FuncData} {N ps : List Str} {k : Nat} {sp : Sp} (F : FunC K x qual st f fd c) (S : FnScope N ps (defScope st)) (len : ∀ vs H Q E, sp vs H Q E → vs.length = ps.length)
    (hbody : ∀ (A : Around) (outer : List Env) (s : Shared) (H : Hp) (vs : List V) (Q : VK) (E : XK), (γ = true → A.guards = some []) → Room k (A.deeper (envOfC qual (defScope st) s.heap.objs.size f (.ref c))) → sp vs H Q E →
      ∃ t, PSs (cxOf (L2.CX P w) P w K mg base N qual (defScope st) f (.ref c) A outer s H E) (defBody st) t ∧ t { nx := fun _ H' => Q .non H', rt := Q } (L2.start N vs) H) : GOk γ P w K mg base (k + 1) f fd ps sp := by
  obtain ⟨oc, od, kV, doc, pm, an, ct, osl, rfl, lk, hcd⟩ := F.ex
  refine ⟨len, fun A outer s H args us vs Q E hg hr e0 hb r hsp => ?_⟩
  exact LamX.run_ofS lk hcd S hr e0 hb r (len _ _ _ _ hsp) fun hr' => hbody A outer s H vs Q E hg hr' hsp
/-- the lambda's call, read -/
theorem rd_res {t : XK → TE} {σ : L2.St} {H : Hp} {Q : VK} (h0 : LamX.Tabs Λ H) (h : ∀ H1, Fr Λ [] H H1 → ∀ Q' : VK, (∀ v H2, Ans Λ "gave" v H2 Q → Q' v H2) → t (ResE Λ CN CB Q) σ H1 Q') : LamX.tLam Λ (TRes Λ CN CB) t σ H Q :=
  ⟨h0, fun H1 e t1 H2 f2 Q' hQ => h H2 ((Fr.extN e t1).trans f2) Q' hQ⟩
end
end Z

end
section
local macro_rules | `(tactic| walk_at "ne") => `(tactic| first
  | assumption
  | (refine Z.ne_sym ?_; assumption)
  | (refine' Z.ne_new ?ka ?kb; (case ka => assumption); (case kb => walk_at "h"))
  | (refine' Z.ne_sym (Z.ne_new ?ka ?kb); (case ka => assumption); (case kb => walk_at "h"))
  | ((with_reducible refine' Z.ne_nw ?ka ?kb ?kc); (case ka => assumption); (case kb => walk_at "h"); (case kc => rfl))
  | ((with_reducible refine' Z.ne_sym (Z.ne_nw ?ka ?kb ?kc)); (case ka => assumption); (case kb => walk_at "h"); (case kc => rfl))
  | exact L2.ne_of (by assumption) (by assumption) (by intro z; cases z)
  | exact Z.ne_sym (L2.ne_of (by assumption) (by assumption) (by intro z; cases z)))
local macro_rules | `(tactic| walk_at "nm") => `(tactic| first
  | exact Z.nm_nil
  | exact Z.nm_cons (by walk_at "ne") (by walk_at "nm"))
local macro_rules | `(tactic| walk_at "h") => `(tactic| first
  | assumption
  | exact L2.upd_same
  | ((with_reducible refine' Eq.trans (L2.upd_ne ?ka) ?kb); (case ka => walk_at "ne"); (case kb => walk_at "h"))
  | ((with_reducible refine' Z.Fr.at ?ka ?kb ?kc ?kd); (case ka => assumption); (case kb => walk_at "h"); (case kc => walk_at "nm"); (case kd => rfl))
  | ((with_reducible refine' Z.Fr.tup ?ka ?kb); (case ka => assumption); (case kb => walk_at "h")))
local macro_rules | `(tactic| walk_at "free") => `(tactic| first
  | assumption
  | exact Z.Nw.of (by assumption)
  | ((with_reducible refine' Z.Fr.free ?ka ?kb); (case ka => assumption); (case kb => walk_at "free")))
local macro_rules | `(tactic| walk_at "ms") => `(tactic| first
  | exact Or.inl List.mem_cons_self
  | exact Or.inl (List.mem_cons_of_mem _ List.mem_cons_self)
  | (left; simp; done)
  | (right; walk_at "free"))
local macro_rules | `(tactic| walk_at "sub") => `(tactic| first
  | exact Z.sub_nil
  | ((with_reducible refine' Z.sub_cons ?ka ?kb); (case ka => walk_at "ms"); (case kb => walk_at "sub")))
local macro_rules | `(tactic| walk_at "fr") => `(tactic| first
  | assumption
  | exact Z.Fr.refl _ _
  | ((with_reducible refine' Z.Fr.new ?ka ?kb); (case kb => assumption); (case ka => walk_at "fr"))
  | ((with_reducible refine' Z.Fr.upd ?ka ?kb ?kc ?kd ?ke); (case kb => walk_at "ms"); (case kc => walk_at "h"); (case kd => rfl); (case ke => rfl); (case ka => walk_at "fr"))
  | ((with_reducible refine' Z.Fr.step ?ka ?kb ?kc); (case ka => assumption); (case kb => walk_at "fr"); (case kc => walk_at "sub")))
local macro_rules | `(tactic| walk_at "dt") => `(tactic| first
  | assumption
  | (refine Z.DT.new ?_ (by assumption); walk_at "dt")
  | (refine Z.DTs.new ?_ (by assumption); walk_at "dt")
  | (refine' Z.DT.wr ?ka ?kb ?kc; (case kb => walk_at "h"); (case kc => rfl); (case ka => walk_at "dt"))
  | (refine' Z.DTs.wr ?ka ?kb ?kc; (case kb => walk_at "h"); (case kc => rfl); (case ka => walk_at "dt"))
  | (refine' Z.DT.fr ?ka ?kb; (case kb => assumption); (case ka => walk_at "dt"))
  | (refine' Z.DTs.fr ?ka ?kb; (case kb => assumption); (case ka => walk_at "dt")))
local macro_rules | `(tactic| walk_at "len") => `(tactic| first
  | exact Z.lt_ok (Nat.le_of_ble_eq_true (by with_unfolding_all rfl))
  | exact Z.le_ok (Nat.le_of_ble_eq_true (by with_unfolding_all rfl))
  | (apply Z.lt_ok; (try simp only [List.length_append, List.length_cons, List.length_nil, List.length_map, List.length_set, List.length_eraseIdx] at *); omega)
  | (apply Z.le_ok; (try simp only [List.length_append, List.length_cons, List.length_nil, List.length_map, List.length_set, List.length_eraseIdx] at *); omega))
local macro_rules | `(tactic| walk_at "r") => `(tactic| first
  | (with_reducible refine Z.rd_seq ?_)
  | (with_reducible refine Z.rd_asg ?_)
  | (with_reducible refine Z.rd_gname ?_)
  | (with_reducible refine Z.rd_ifs ?_)
  | (with_reducible refine Z.rd_next ?_)
  | (with_reducible refine Z.rd_and ?_)
  | (with_reducible refine Z.rd_or ?_)
  | (with_reducible refine Z.rd_not ?_)
  | (with_reducible refine Z.rd_test ?_)
  | (with_reducible refine Z.rd_tb ?_)
  | (with_reducible refine Z.rd_bl ?_)
  | (with_reducible refine Z.rd_op ?_)
  | (with_reducible refine Z.rd_c ?_)
  | ((with_reducible refine' Z.rd_var ?ka ?_); (case ka => with_unfolding_all rfl))
  | (with_reducible refine Z.rd_ret ?_)
  | (with_reducible refine Z.rd_retn ?_)
  | (with_reducible refine Z.rd_drop ?_)
  | (with_reducible refine Z.rd_nil ?_)
  | (with_reducible refine Z.rd_cons ?_)
  | (with_reducible refine Z.rd_cb ?_)
  | (with_reducible refine Z.rd_call ?_)
  | (with_reducible refine Z.rd_dget0 ?_)
  | ((with_reducible refine' Z.rd_dget1 ?ka ?kb ?_); (case ka => walk_at "h"); (case kb => with_unfolding_all rfl))
  | (with_reducible refine Z.rd_dput0 ?_)
  | ((with_reducible refine' Z.rd_dput1 ?ka ?kb ?_); (case ka => walk_at "h"); (case kb => walk_at "len"))
  | (with_reducible refine Z.rd_eqi ?_)
  | (with_reducible refine Z.rd_eqs ?_)
  | (with_reducible refine Z.rd_nei ?_)
  | (with_reducible refine Z.rd_nes ?_)
  | (with_reducible refine Z.rd_i0 ?_)
  | (with_reducible refine Z.rd_lst ?_)
  | (with_reducible refine Z.rd_tup ?_)
  | (with_reducible refine Z.rd_ifx ?_)
  | (with_reducible refine Z.rd_bm ?_)
  | (with_reducible refine Z.rd_bm0 ?_)
  | ((with_reducible refine' Z.rd_nil2 ?ka ?kb ?_); (case ka => walk_at "h"); (case kb => walk_at "h"))
  | ((with_reducible refine' Z.rd_nil2T ?ka ?kb ?_); (case ka => walk_at "h"); (case kb => walk_at "h"))
  | (with_reducible refine Z.rd_int1 ?_)
  | ((with_reducible refine' Z.rd_size ?ka ?_); (case ka => walk_at "len"))
  | ((with_reducible refine' Z.rd_tylist ?ka ?_); (case ka => walk_at "h"))
  | ((with_reducible refine' Z.rd_i ?ka ?_); (case ka => walk_at "num"))
  | ((with_reducible refine' Z.rd_append ?ka ?kb ?_); (case ka => walk_at "h"); (case kb => walk_at "len"))
  | (with_reducible refine Z.rd_for' ?_)
  | (with_reducible refine Z.rd_lc' ?_)
  | (with_reducible refine Z.rd_un ?_)
  | (with_reducible refine Z.rd_gm ?_)
  | (with_reducible refine Z.rd_xk ?_)
  | (with_reducible refine Z.rd_stard ?_)
  | ((with_reducible refine' Z.rd_stard1 ?ka ?_); (case ka => walk_at "h"))
  | (with_reducible refine Z.rd_star ?_)
  | ((with_reducible refine' Z.rd_star1 ?ka ?_); (case ka => walk_at "h"))
  | (with_reducible refine Z.rd_dc' ?_)
  | (with_reducible refine Z.rd_dnew ?_)
  | (with_reducible refine Z.rd_dpop ?_)
  | ((with_reducible refine' Z.rd_isd ?ka ?_); (case ka => walk_at "h"))
  | (with_reducible refine Z.rd_fldaug ?_)
  | (with_reducible refine Z.rd_ilt ?_)
  | (with_reducible refine Z.rd_mko ?_)
  | (with_reducible refine Z.rd_gk ?_)
  | (with_reducible refine Z.rd_gp ?_)
  | ((with_reducible refine' Z.rd_ins1 ?ka ?_); (case ka => walk_at "h"))
  | (with_reducible refine Z.rd_disp ?_)
  | (with_reducible refine Z.rd_pnil ?_)
  | (with_reducible refine Z.rd_pcons ?_)
  | (with_reducible refine Z.rd_m1 ?_)
  | (with_reducible refine Z.rd_isstr ?_)
  | (with_reducible refine Z.rd_sl ?_)
  | (with_reducible refine Z.rd_nopart ?_)
  | (with_reducible refine Z.rd_part ?_)
  | (with_reducible refine Z.rd_part1 ?_)
  | (with_reducible refine Z.rd_u ?_)
  | (with_reducible refine Z.rd_ilist ?_)
  | (with_reducible refine Z.rd_itup ?_)
  | (with_reducible refine Z.rd_istr ?_)
  | (with_reducible refine Z.rd_irng1 ?_)
  | (with_reducible refine Z.rd_yes ?_)
  | (with_reducible refine Z.rd_sfld0 ?_)
  | (with_reducible refine Z.rd_fld0 ?_)
  | (with_reducible refine Z.rd_din ?_)
  | (with_reducible refine Z.rd_dnotin ?_)
  | (with_reducible refine Z.rd_isn ?_)
  | (with_reducible refine Z.rd_notn ?_)
  | (with_reducible refine Z.rd_par ?_)
  | (with_reducible refine Z.rd_par1 ?_)
  | (with_reducible refine Z.rd_gnil ?_)
  | (with_reducible refine Z.rd_gcons ?_)
  | (with_reducible refine Z.rd_chain ?_)
  | (with_reducible refine Z.rd_andv ?_)
  | (with_reducible refine Z.rd_orv ?_)
  | (with_reducible refine Z.rd_notv ?_)
  | (with_reducible refine Z.rd_meth ?_)
  | (with_reducible refine Z.rd_while ?_)
  | ((with_reducible refine' Z.rd_ixl ?ka ?kb ?_); (case ka => walk_at "h"); (case kb => walk_at "ati"))
  | ((with_reducible refine' Z.rd_ixt ?ka ?kb ?_); (case ka => walk_at "h"); (case kb => walk_at "ati"))
  | ((with_reducible refine' Z.rd_len ?ka ?_); (case ka => walk_at "h"))
  | ((with_reducible refine' Z.rd_lens ?ka ?_); (case ka => walk_at "h"))
  | ((with_reducible refine' Z.rd_lent ?ka ?_); (case ka => walk_at "h"))
  | ((with_reducible refine' Z.rd_lstof ?ka ?_); (case ka => walk_at "h"))
  | ((with_reducible refine' Z.rd_tupof ?ka ?_); (case ka => walk_at "h"))
  | ((with_reducible refine' Z.rd_sfld1 ?ka ?kb ?kc ?kd ?_); (case ka => walk_at "h"); (case kb => assumption); (case kc => assumption); (case kd => (first | (with_unfolding_all decide) | exact Nat.le_of_ble_eq_true (by with_unfolding_all rfl))))
  | ((with_reducible refine' Z.rd_fld1 ?ka ?kb ?kc ?kd ?_); (case ka => walk_at "h"); (case kb => assumption); (case kc => assumption); (case kd => with_unfolding_all rfl))
  | ((with_reducible refine' Z.rd_din1 ?ka ?_); (case ka => walk_at "h"))
  | ((with_reducible refine' Z.rd_gtup ?ka ?kb ?_); (case ka => walk_at "h"); (case kb => with_unfolding_all rfl))
  | ((with_reducible refine' Z.rd_catl ?ka ?kb ?kc ?_); (case ka => walk_at "h"); (case kb => walk_at "h"); (case kc => walk_at "len"))
  | ((with_reducible refine' Z.rd_meth1 ?ka ?kb ?_); (case ka => walk_at "h"); (case kb => with_unfolding_all rfl))
  | ((with_reducible refine' Z.rd_addstr ?ka ?_); (case ka => walk_at "len")))
local macro_rules | `(tactic| walk_at "ati") => `(tactic| first
  | assumption
  | (with_unfolding_all rfl)
  | exact L2.atI_nat (by assumption)
  | exact L2.atI_nat (by with_unfolding_all rfl)
  | exact L2.atI_last _ _)
local macro_rules | `(tactic| walk_at "rr") => `(tactic| repeat (walk_at "r"))
local macro_rules | `(tactic| walk_at "num") => `(tactic| first
  | (with_unfolding_all decide)
  | (show (_ : Int) ≠ 0; omega)
  | (show (_ : Int) ≠ 0 ∧ _ < 1073741824; exact ⟨by omega, by omega⟩)
  | (show (0 : Int) ≤ _ ∧ _ ≤ (1000000 : Int) ∧ _; exact ⟨by decide, by decide, by omega⟩)
  | (show (-(2 ^ 64) < (_ : Int) ∧ _ < 2 ^ 64) ∨ _; (first | (left; exact ⟨by omega, by omega⟩) | (right; exact ⟨by omega, by omega⟩)))
  | omega)
namespace Z
open PySem PySem.Spec PyProof.Rows L2
abbrev s__law_seen : Stmt := top 26
abbrev n__law_seen : List Str := ["box", "title", "held", "found", "spot", "label", "some"]
theorem sc__law_seen : FnScope n__law_seen ["box", "title"] (defScope s__law_seen) := ⟨rfl, rfl, rfl, by decide +kernel, rfl, by decide +kernel, by decide +kernel⟩
/-- all that the law and the program know -/
structure Wg where
  pl : Addr
  dx : Addr
  hd : Addr
  md : Addr
  bx : Addr
  bh : Addr
  bm : Addr
  bb : Addr
  kp : List (L2.Key × V)
  kl : List (L2.Key × V)
  Rs : List Rp
  Ls : List (Addr × Addr)
  bg : List Nat
  tn : Int
  ts : List Str
def stepL (Rs : List Rp) (z : Str) (acc : List V) (i : Nat) : List V := match Rs[i]? with
  | some R => if R.z = z then R.xs else acc
  | none => acc
/-- what the law says that is seen at z -/
def seenL (kl : List (L2.Key × V)) (Rs : List Rp) (bg : List Nat) (z : Str) : List V := bg.foldl (stepL Rs z) (valV kl (.inr z)).toList
def bxK (g : Wg) : List (L2.Key × V) := [(.inr "held", .ref g.bh), (.inr "made", .ref g.bm), (.inr "begun", .ref g.bb)]
/-- the law's box -/
structure Bx (H : Hp) (g : Wg) : Prop where
  box : H g.bx = some (.dK (bxK g))
  bh : H g.bh = some (.dK g.kl)
  bm : H g.bm = some (.lst (g.Ls.map fun l => V.ref l.1))
  bb : H g.bb = some (.lst (g.bg.map fun (i : Nat) => V.int (i : Int)))
  ll : g.Ls.length = g.Rs.length
  ls : ∀ (i : Nat) (l : Addr × Addr) (R : Rp), g.Ls[i]? = some l → g.Rs[i]? = some R → H l.1 = some (.tup [.str R.z, .ref l.2, .ref R.r]) ∧ H l.2 = some (.tup R.xs)
  lk : ∀ p ∈ g.kl, ∃ z, p.1 = .inr z
  lf : g.kl.length ≤ 1000 ∧ g.bg.length ≤ 1000
  bl : ∀ i ∈ g.bg, i < g.Rs.length
theorem Bx.keep {Λ : List (Addr × Str)} {S : List Addr} {H H' : Hp} {g : Wg} (b : Bx H g) (f : Fr Λ S H H') (h1 : g.bx ∉ S) (h2 : g.bh ∉ S) (h3 : g.bm ∉ S) (h4 : g.bb ∉ S) : Bx H' g :=
  ⟨f.at b.box h1 rfl, f.at b.bh h2 rfl, f.at b.bm h3 rfl, f.at b.bb h4 rfl, b.ll, fun i l R e1 e2 => ⟨f.tup (b.ls i l R e1 e2).1, f.tup (b.ls i l R e1 e2).2⟩, b.lk, b.lf, b.bl⟩
theorem Bx.keep0 {Λ : List (Addr × Str)} {H H' : Hp} {g : Wg} (b : Bx H g) (f : Fr Λ [] H H') : Bx H' g := b.keep f nm_nil nm_nil nm_nil nm_nil
def sp_lseen (Λ : List (Addr × Str)) : Sp := fun vs H Q _ => ∃ (g : Wg) (z : Str), vs = [.ref g.bx, .str z] ∧ Bx H g ∧ ∀ p H', H' p = some (.tup (seenL g.kl g.Rs g.bg z)) → Fr Λ [] H H' → Q (.ref p) H'
section
variable {γ : Bool} {Λ : List (Addr × Str)} {P : Program} {w : World} {K : PySem.W.Frag} {mg : Str → Option Value} {base : Heap}
theorem ok_lseen {f : Addr} {fd : FuncData} (F : Fun K "_law_seen" "_law_seen" s__law_seen f fd) : GOk γ P w K mg base 1 f fd ["box", "title"] (sp_lseen Λ) := by
  refine g_of F sc__law_seen (fun vs H Q E h => ?_) (fun cdv A outer s H vs Q E hA hr h => ?_)
  · obtain ⟨g, z, rfl, _⟩ := h
    rfl
  · obtain ⟨g, z, rfl, hB, k⟩ := h
    have hu := hu_of hr
    refine ⟨_, (pss_cons (ps_set (i := 2) sc__law_seen.nd rfl (.inl rfl) (pe_dget hu (pv 0) pe_str (fun _ _ => rfl)))
      (pss_cons (ps_set (i := 3) sc__law_seen.nd rfl (.inl rfl) (pe_ifExp (pt_cmp (pc_din hu (pv 1) (pv 2))) (pe_tup (pa_cons (pe_dget hu (pv 2) (pv 1) (fun _ _ => rfl)) pa_nil)) (pe_tup pa_nil)))
      (pss_cons (ps_for (passes_of rfl) rfl (pi_list (pe_dget hu (pv 0) pe_str (fun _ _ => rfl))) (pg_name (i := 4) sc__law_seen.nd rfl (.inl rfl))
      (pss_cons (ps_asg (pe_slice sl_tup (pe_ix ix_list (pe_dget hu (pv 0) pe_str (fun _ _ => rfl)) (pv 4) (fun _ _ => rfl)) po_none (po_some pe_int)) (pg_tup rfl (pgs_cons (pg_name (i := 5) sc__law_seen.nd rfl (.inl rfl)) (pgs_cons (pg_name (i := 6) sc__law_seen.nd rfl (.inl rfl)) pgs_nil))))
      (pss_one (ps_if (pt_cmpR op_eq (pv 5) (pv 1) (nomark _))
      (pss_one (ps_set (i := 3) sc__law_seen.nd rfl (.inl rfl) (pv 6)))
      pss_nil))))
      (pss_one (ps_ret (pv 3)))))), ?_⟩
    have b1 := hB.box
    unfold bxK at b1
    have b2 := hB.bh
    have b3 := hB.bm
    have b4 := hB.bb
    walk_at "rr"
    have e0 : ∀ o : Option V, valV g.kl (.inr z) = o → o.toList = (valV g.kl (.inr z)).toList := fun o e => by rw [e]
    rcases hv : valV g.kl (.inr z) with _ | v
    case' none =>
      refine iteF ?_
      walk_at "rr"
      intro p hp
      have hF : Fr Λ [] H (L2.upd H p (.tup (none : Option V).toList)) := by walk_at "fr"
      have hp1 : L2.upd H p (.tup (none : Option V).toList) p = some (.tup (none : Option V).toList) := upd_same
      have e1 := e0 _ hv
      walk_at "rr"
    case' some =>
      refine iteT ?_
      walk_at "rr"
      refine rd_dget1 (by walk_at "h") hv ?_
      walk_at "rr"
      intro p hp
      have hF : Fr Λ [] H (L2.upd H p (.tup (some v : Option V).toList)) := by walk_at "fr"
      have hp1 : L2.upd H p (.tup (some v : Option V).toList) p = some (.tup (some v : Option V).toList) := upd_same
      have e1 := e0 _ hv
      walk_at "rr"
    all_goals
      refine rd_forl (xs := g.bg.map fun (i : Nat) => V.int (i : Int)) (by walk_at "h") (fun i σ H' => ∃ (p : Addr) (v4 v5 v6 : Option V), σ = [some (.ref g.bx), some (.str z), some (.ref g.bh), some (.ref p), v4, v5, v6] ∧ H' p = some (.tup ((g.bg.take i).foldl (stepL g.Rs z) (valV g.kl (.inr z)).toList)) ∧ Fr Λ [] H H')
        ⟨p, _, _, _, rfl, by rw [List.take_zero, List.foldl_nil, ← e1]; exact hp1, hF⟩ ?_ ?_ ?_
      · rintro i σ H1 ⟨q, v4, v5, v6, rfl, hq, hF1⟩
        walk_at "h"
      · rintro i x σ H1 hi hx ⟨q, v4, v5, v6, rfl, hq, hF1⟩
        rw [List.length_map] at hi
        have hx2 : (g.bg.map fun (i : Nat) => V.int (i : Int))[i]? = some (V.int (g.bg[i] : Nat)) := by simp [hi]
        rw [hx2] at hx
        obtain rfl : V.int ((g.bg[i] : Nat) : Int) = x := Option.some.inj hx
        have hbl := hB.bl _ (List.getElem_mem hi)
        have hnx : (g.bg.take (i + 1)).foldl (stepL g.Rs z) (valV g.kl (.inr z)).toList = stepL g.Rs z ((g.bg.take i).foldl (stepL g.Rs z) (valV g.kl (.inr z)).toList) g.bg[i] := by
          rw [List.take_add_one, List.getElem?_eq_getElem hi, List.foldl_append]
          rfl
        rw [hnx]
        generalize (g.bg.take i).foldl (stepL g.Rs z) (valV g.kl (.inr z)).toList = acc at hq ⊢
        generalize g.bg[i] = m at hbl ⊢
        obtain ⟨R, hR⟩ : ∃ R, g.Rs[m]? = some R := ⟨_, List.getElem?_eq_getElem hbl⟩
        obtain ⟨l, hl⟩ : ∃ l, g.Ls[m]? = some l := ⟨_, List.getElem?_eq_getElem (by rw [hB.ll]; exact hbl)⟩
        obtain ⟨t1, t2⟩ := hB.ls m l R hl hR
        have t11 := hF1.tup t1
        have t21 := hF1.tup t2
        have hat : atI (g.Ls.map fun l => V.ref l.1) (m : Int) = some (V.ref l.1) := atI_nat (by simp [hl])
        have es : stepL g.Rs z acc m = if R.z = z then R.xs else acc := by unfold stepL; rw [hR]
        rw [es]
        walk_at "rr"
        refine ⟨l.1, _, rfl, SqT.of t11, ?_, fun e he => ?_⟩
        · intro hw
          have h3 : HT.sIx [V.str R.z, V.ref l.2, V.ref R.r].length [V.str R.z, V.ref l.2, V.ref R.r].length (some 2) = 2 := rfl
          rw [h3] at hw
          exact absurd hw.2 (by show ¬ (2 = 3); decide)
        have hcut : cutV [V.str R.z, V.ref l.2, V.ref R.r] none (some 2) = [V.str R.z, V.ref l.2] := rfl
        rw [hcut]
        have he1 : L2.upd H1 e (.tup [V.str R.z, V.ref l.2]) e = some (.tup [V.str R.z, V.ref l.2]) := upd_same
        have hq1 : L2.upd H1 e (.tup [V.str R.z, V.ref l.2]) q = some (.tup acc) := by rw [upd_ne (ne_of_none hq he)]; exact hq
        have ht1 : L2.upd H1 e (.tup [V.str R.z, V.ref l.2]) l.2 = some (.tup R.xs) := by rw [upd_ne (ne_of_none t21 he)]; exact t21
        have hFe := hF1.new (o := .tup [V.str R.z, V.ref l.2]) he
        generalize L2.upd H1 e (.tup [V.str R.z, V.ref l.2]) = H2 at he1 hq1 ht1 hFe ⊢
        walk_at "rr"
        refine rd_ite (fun hz => ?_) (fun hz => ?_)
        · walk_at "rr"
          rw [if_pos hz]
          exact ⟨l.2, _, _, _, rfl, ht1, hFe⟩
        · walk_at "rr"
          rw [if_neg hz]
          exact ⟨q, _, _, _, rfl, hq1, hFe⟩
      · rintro σ H1 ⟨q, v4, v5, v6, rfl, hq, hF1⟩
        rw [List.length_map, List.take_length] at hq
        walk_at "rr"
        exact k q H1 hq hF1
end
end Z

end
section
local macro_rules | `(tactic| walk_at "ne") => `(tactic| first
  | assumption
  | (refine Z.ne_sym ?_; assumption)
  | (refine' Z.ne_new ?ka ?kb; (case ka => assumption); (case kb => walk_at "h"))
  | (refine' Z.ne_sym (Z.ne_new ?ka ?kb); (case ka => assumption); (case kb => walk_at "h"))
  | ((with_reducible refine' Z.ne_nw ?ka ?kb ?kc); (case ka => assumption); (case kb => walk_at "h"); (case kc => rfl))
  | ((with_reducible refine' Z.ne_sym (Z.ne_nw ?ka ?kb ?kc)); (case ka => assumption); (case kb => walk_at "h"); (case kc => rfl))
  | exact L2.ne_of (by assumption) (by assumption) (by intro z; cases z)
  | exact Z.ne_sym (L2.ne_of (by assumption) (by assumption) (by intro z; cases z)))
local macro_rules | `(tactic| walk_at "nm") => `(tactic| first
  | exact Z.nm_nil
  | exact Z.nm_cons (by walk_at "ne") (by walk_at "nm"))
local macro_rules | `(tactic| walk_at "h") => `(tactic| first
  | assumption
  | exact L2.upd_same
  | ((with_reducible refine' Eq.trans (L2.upd_ne ?ka) ?kb); (case ka => walk_at "ne"); (case kb => walk_at "h"))
  | ((with_reducible refine' Z.Fr.at ?ka ?kb ?kc ?kd); (case ka => assumption); (case kb => walk_at "h"); (case kc => walk_at "nm"); (case kd => rfl))
  | ((with_reducible refine' Z.Fr.tup ?ka ?kb); (case ka => assumption); (case kb => walk_at "h")))
local macro_rules | `(tactic| walk_at "free") => `(tactic| first
  | assumption
  | exact Z.Nw.of (by assumption)
  | ((with_reducible refine' Z.Fr.free ?ka ?kb); (case ka => assumption); (case kb => walk_at "free")))
local macro_rules | `(tactic| walk_at "ms") => `(tactic| first
  | exact Or.inl List.mem_cons_self
  | exact Or.inl (List.mem_cons_of_mem _ List.mem_cons_self)
  | (left; simp; done)
  | (right; walk_at "free"))
local macro_rules | `(tactic| walk_at "sub") => `(tactic| first
  | exact Z.sub_nil
  | ((with_reducible refine' Z.sub_cons ?ka ?kb); (case ka => walk_at "ms"); (case kb => walk_at "sub")))
local macro_rules | `(tactic| walk_at "fr") => `(tactic| first
  | assumption
  | exact Z.Fr.refl _ _
  | ((with_reducible refine' Z.Fr.new ?ka ?kb); (case kb => assumption); (case ka => walk_at "fr"))
  | ((with_reducible refine' Z.Fr.upd ?ka ?kb ?kc ?kd ?ke); (case kb => walk_at "ms"); (case kc => walk_at "h"); (case kd => rfl); (case ke => rfl); (case ka => walk_at "fr"))
  | ((with_reducible refine' Z.Fr.step ?ka ?kb ?kc); (case ka => assumption); (case kb => walk_at "fr"); (case kc => walk_at "sub")))
local macro_rules | `(tactic| walk_at "dt") => `(tactic| first
  | assumption
  | (refine Z.DT.new ?_ (by assumption); walk_at "dt")
  | (refine Z.DTs.new ?_ (by assumption); walk_at "dt")
  | (refine' Z.DT.wr ?ka ?kb ?kc; (case kb => walk_at "h"); (case kc => rfl); (case ka => walk_at "dt"))
  | (refine' Z.DTs.wr ?ka ?kb ?kc; (case kb => walk_at "h"); (case kc => rfl); (case ka => walk_at "dt"))
  | (refine' Z.DT.fr ?ka ?kb; (case kb => assumption); (case ka => walk_at "dt"))
  | (refine' Z.DTs.fr ?ka ?kb; (case kb => assumption); (case ka => walk_at "dt")))
local macro_rules | `(tactic| walk_at "len") => `(tactic| first
  | exact Z.lt_ok (Nat.le_of_ble_eq_true (by with_unfolding_all rfl))
  | exact Z.le_ok (Nat.le_of_ble_eq_true (by with_unfolding_all rfl))
  | (apply Z.lt_ok; (try simp only [List.length_append, List.length_cons, List.length_nil, List.length_map, List.length_set, List.length_eraseIdx] at *); omega)
  | (apply Z.le_ok; (try simp only [List.length_append, List.length_cons, List.length_nil, List.length_map, List.length_set, List.length_eraseIdx] at *); omega))
local macro_rules | `(tactic| walk_at "r") => `(tactic| first
  | (with_reducible refine Z.rd_seq ?_)
  | (with_reducible refine Z.rd_asg ?_)
  | (with_reducible refine Z.rd_gname ?_)
  | (with_reducible refine Z.rd_ifs ?_)
  | (with_reducible refine Z.rd_next ?_)
  | (with_reducible refine Z.rd_and ?_)
  | (with_reducible refine Z.rd_or ?_)
  | (with_reducible refine Z.rd_not ?_)
  | (with_reducible refine Z.rd_test ?_)
  | (with_reducible refine Z.rd_tb ?_)
  | (with_reducible refine Z.rd_bl ?_)
  | (with_reducible refine Z.rd_op ?_)
  | (with_reducible refine Z.rd_c ?_)
  | ((with_reducible refine' Z.rd_var ?ka ?_); (case ka => with_unfolding_all rfl))
  | (with_reducible refine Z.rd_ret ?_)
  | (with_reducible refine Z.rd_retn ?_)
  | (with_reducible refine Z.rd_drop ?_)
  | (with_reducible refine Z.rd_nil ?_)
  | (with_reducible refine Z.rd_cons ?_)
  | (with_reducible refine Z.rd_cb ?_)
  | (with_reducible refine Z.rd_call ?_)
  | (with_reducible refine Z.rd_dget0 ?_)
  | ((with_reducible refine' Z.rd_dget1 ?ka ?kb ?_); (case ka => walk_at "h"); (case kb => with_unfolding_all rfl))
  | (with_reducible refine Z.rd_dput0 ?_)
  | ((with_reducible refine' Z.rd_dput1 ?ka ?kb ?_); (case ka => walk_at "h"); (case kb => walk_at "len"))
  | (with_reducible refine Z.rd_eqi ?_)
  | (with_reducible refine Z.rd_eqs ?_)
  | (with_reducible refine Z.rd_nei ?_)
  | (with_reducible refine Z.rd_nes ?_)
  | (with_reducible refine Z.rd_i0 ?_)
  | (with_reducible refine Z.rd_lst ?_)
  | (with_reducible refine Z.rd_tup ?_)
  | (with_reducible refine Z.rd_ifx ?_)
  | (with_reducible refine Z.rd_bm ?_)
  | (with_reducible refine Z.rd_bm0 ?_)
  | ((with_reducible refine' Z.rd_nil2 ?ka ?kb ?_); (case ka => walk_at "h"); (case kb => walk_at "h"))
  | ((with_reducible refine' Z.rd_nil2T ?ka ?kb ?_); (case ka => walk_at "h"); (case kb => walk_at "h"))
  | (with_reducible refine Z.rd_int1 ?_)
  | ((with_reducible refine' Z.rd_size ?ka ?_); (case ka => walk_at "len"))
  | ((with_reducible refine' Z.rd_tylist ?ka ?_); (case ka => walk_at "h"))
  | ((with_reducible refine' Z.rd_i ?ka ?_); (case ka => walk_at "num"))
  | ((with_reducible refine' Z.rd_append ?ka ?kb ?_); (case ka => walk_at "h"); (case kb => walk_at "len"))
  | (with_reducible refine Z.rd_for' ?_)
  | (with_reducible refine Z.rd_lc' ?_)
  | (with_reducible refine Z.rd_un ?_)
  | (with_reducible refine Z.rd_gm ?_)
  | (with_reducible refine Z.rd_xk ?_)
  | (with_reducible refine Z.rd_stard ?_)
  | ((with_reducible refine' Z.rd_stard1 ?ka ?_); (case ka => walk_at "h"))
  | (with_reducible refine Z.rd_star ?_)
  | ((with_reducible refine' Z.rd_star1 ?ka ?_); (case ka => walk_at "h"))
  | (with_reducible refine Z.rd_dc' ?_)
  | (with_reducible refine Z.rd_dnew ?_)
  | (with_reducible refine Z.rd_dpop ?_)
  | ((with_reducible refine' Z.rd_isd ?ka ?_); (case ka => walk_at "h"))
  | (with_reducible refine Z.rd_fldaug ?_)
  | (with_reducible refine Z.rd_ilt ?_)
  | (with_reducible refine Z.rd_mko ?_)
  | (with_reducible refine Z.rd_gk ?_)
  | (with_reducible refine Z.rd_gp ?_)
  | ((with_reducible refine' Z.rd_ins1 ?ka ?_); (case ka => walk_at "h"))
  | (with_reducible refine Z.rd_disp ?_)
  | (with_reducible refine Z.rd_pnil ?_)
  | (with_reducible refine Z.rd_pcons ?_)
  | (with_reducible refine Z.rd_m1 ?_)
  | (with_reducible refine Z.rd_isstr ?_)
  | (with_reducible refine Z.rd_sl ?_)
  | (with_reducible refine Z.rd_nopart ?_)
  | (with_reducible refine Z.rd_part ?_)
  | (with_reducible refine Z.rd_part1 ?_)
  | (with_reducible refine Z.rd_u ?_)
  | (with_reducible refine Z.rd_ilist ?_)
  | (with_reducible refine Z.rd_itup ?_)
  | (with_reducible refine Z.rd_istr ?_)
  | (with_reducible refine Z.rd_irng1 ?_)
  | (with_reducible refine Z.rd_yes ?_)
  | (with_reducible refine Z.rd_sfld0 ?_)
  | (with_reducible refine Z.rd_fld0 ?_)
  | (with_reducible refine Z.rd_din ?_)
  | (with_reducible refine Z.rd_dnotin ?_)
  | (with_reducible refine Z.rd_isn ?_)
  | (with_reducible refine Z.rd_notn ?_)
  | (with_reducible refine Z.rd_par ?_)
  | (with_reducible refine Z.rd_par1 ?_)
  | (with_reducible refine Z.rd_gnil ?_)
  | (with_reducible refine Z.rd_gcons ?_)
  | (with_reducible refine Z.rd_chain ?_)
  | (with_reducible refine Z.rd_andv ?_)
  | (with_reducible refine Z.rd_orv ?_)
  | (with_reducible refine Z.rd_notv ?_)
  | (with_reducible refine Z.rd_meth ?_)
  | (with_reducible refine Z.rd_while ?_)
  | ((with_reducible refine' Z.rd_ixl ?ka ?kb ?_); (case ka => walk_at "h"); (case kb => walk_at "ati"))
  | ((with_reducible refine' Z.rd_ixt ?ka ?kb ?_); (case ka => walk_at "h"); (case kb => walk_at "ati"))
  | ((with_reducible refine' Z.rd_len ?ka ?_); (case ka => walk_at "h"))
  | ((with_reducible refine' Z.rd_lens ?ka ?_); (case ka => walk_at "h"))
  | ((with_reducible refine' Z.rd_lent ?ka ?_); (case ka => walk_at "h"))
  | ((with_reducible refine' Z.rd_lstof ?ka ?_); (case ka => walk_at "h"))
  | ((with_reducible refine' Z.rd_tupof ?ka ?_); (case ka => walk_at "h"))
  | ((with_reducible refine' Z.rd_sfld1 ?ka ?kb ?kc ?kd ?_); (case ka => walk_at "h"); (case kb => assumption); (case kc => assumption); (case kd => (first | (with_unfolding_all decide) | exact Nat.le_of_ble_eq_true (by with_unfolding_all rfl))))
  | ((with_reducible refine' Z.rd_fld1 ?ka ?kb ?kc ?kd ?_); (case ka => walk_at "h"); (case kb => assumption); (case kc => assumption); (case kd => with_unfolding_all rfl))
  | ((with_reducible refine' Z.rd_din1 ?ka ?_); (case ka => walk_at "h"))
  | ((with_reducible refine' Z.rd_gtup ?ka ?kb ?_); (case ka => walk_at "h"); (case kb => with_unfolding_all rfl))
  | ((with_reducible refine' Z.rd_catl ?ka ?kb ?kc ?_); (case ka => walk_at "h"); (case kb => walk_at "h"); (case kc => walk_at "len"))
  | ((with_reducible refine' Z.rd_meth1 ?ka ?kb ?_); (case ka => walk_at "h"); (case kb => with_unfolding_all rfl))
  | ((with_reducible refine' Z.rd_addstr ?ka ?_); (case ka => walk_at "len")))
local macro_rules | `(tactic| walk_at "ati") => `(tactic| first
  | assumption
  | (with_unfolding_all rfl)
  | exact L2.atI_nat (by assumption)
  | exact L2.atI_nat (by with_unfolding_all rfl)
  | exact L2.atI_last _ _)
local macro_rules | `(tactic| walk_at "rr") => `(tactic| repeat (walk_at "r"))
local macro_rules | `(tactic| walk_at "num") => `(tactic| first
  | (with_unfolding_all decide)
  | (show (_ : Int) ≠ 0; omega)
  | (show (_ : Int) ≠ 0 ∧ _ < 1073741824; exact ⟨by omega, by omega⟩)
  | (show (0 : Int) ≤ _ ∧ _ ≤ (1000000 : Int) ∧ _; exact ⟨by decide, by decide, by omega⟩)
  | (show (-(2 ^ 64) < (_ : Int) ∧ _ < 2 ^ 64) ∨ _; (first | (left; exact ⟨by omega, by omega⟩) | (right; exact ⟨by omega, by omega⟩)))
  | omega)
/-! ### the plain law: what began last is what has the greatest turn; sorted lists -/
namespace Z
open PySem PySem.Spec PyProof.Rows L2
def turnI (Rs : List Rp) (i : Nat) : Int := match Rs[i]? with
  | some R => R.t.getD 0
  | none => 0
section
variable {z : Str} {b : List V} {Rs : List Rp}
def GoodP (z : Str) (b : List V) (pre : List Rp) (acc : List V × Int) : Prop := (acc = (b, 0) ∧ ∀ R ∈ pre, R.z = z → ∀ t, R.t = some t → t ≤ 0) ∨
  ∃ R ∈ pre, R.z = z ∧ R.t = some acc.2 ∧ acc.1 = R.xs ∧ 0 < acc.2 ∧ ∀ R' ∈ pre, R'.z = z → ∀ t, R'.t = some t → t ≤ acc.2
theorem goodP_step {pre : List Rp} {acc : List V × Int} {R : Rp} (h : GoodP z b pre acc) : GoodP z b (pre ++ [R]) (stepP z acc R) := by
  have split : ∀ {Q : Rp → Prop}, (∀ S ∈ pre, Q S) → Q R → ∀ S ∈ pre ++ [R], Q S := fun {Q} h1 h2 S hS => (List.mem_append.mp hS).elim (h1 S) fun e => by rw [List.mem_singleton.mp e]; exact h2
  unfold stepP
  cases ht : R.t with
  | none =>
    rcases h with ⟨e, h⟩ | ⟨S, hS, h1, h2, h3, h4, h5⟩
    · exact .inl ⟨e, split h fun _ t q => by rw [ht] at q; cases q⟩
    · exact .inr ⟨S, List.mem_append_left _ hS, h1, h2, h3, h4, split h5 fun _ t q => by rw [ht] at q; cases q⟩
  | some t =>
    dsimp only
    by_cases hc : R.z = z ∧ acc.2 < t
    · rw [if_pos hc]
      refine .inr ⟨R, by simp, hc.1, ht, rfl, ?_, split (fun S hS hz t' q => ?_) fun _ t' q => ?_⟩
      · rcases h with ⟨e, h⟩ | ⟨S, hS, h1, h2, h3, h4, h5⟩
        · rw [e] at hc; exact hc.2
        · exact Int.lt_trans h4 hc.2
      · rcases h with ⟨e, h⟩ | ⟨S', hS', h1, h2, h3, h4, h5⟩
        · have := h S hS hz t' q
          rw [e] at hc
          exact Int.le_trans this (Int.le_of_lt hc.2)
        · exact Int.le_trans (h5 S hS hz t' q) (Int.le_of_lt hc.2)
      · rw [ht] at q
        cases q
        exact Int.le_refl _
    · rw [if_neg hc]
      rcases h with ⟨e, h⟩ | ⟨S, hS, h1, h2, h3, h4, h5⟩
      · refine .inl ⟨e, split h fun hz t' q => ?_⟩
        rw [ht] at q
        cases q
        rw [e] at hc
        exact Int.not_lt.mp fun h => hc ⟨hz, h⟩
      · refine .inr ⟨S, List.mem_append_left _ hS, h1, h2, h3, h4, split h5 fun hz t' q => ?_⟩
        rw [ht] at q
        cases q
        exact Int.not_lt.mp fun h => hc ⟨hz, h⟩
theorem goodP : ∀ (l pre : List Rp) (acc : List V × Int), GoodP z b pre acc → GoodP z b (pre ++ l) (l.foldl (stepP z) acc)
  | [], pre, acc, h => by rw [List.append_nil]; exact h
  | R :: l, pre, acc, h => by
    have := goodP l (pre ++ [R]) _ (goodP_step (R := R) h)
    rw [List.append_assoc] at this
    exact this
def GoodL (Rs : List Rp) (z : Str) (b : List V) (pre : List Nat) (acc : List V) : Prop := (acc = b ∧ ∀ i ∈ pre, ∀ R, Rs[i]? = some R → R.z ≠ z) ∨
  ∃ i ∈ pre, ∃ R, Rs[i]? = some R ∧ R.z = z ∧ acc = R.xs ∧ ∀ j ∈ pre, ∀ R', Rs[j]? = some R' → R'.z = z → turnI Rs j ≤ turnI Rs i
theorem goodL_step {pre : List Nat} {acc : List V} {i : Nat} (hi : i < Rs.length) (hp : ∀ j ∈ pre, turnI Rs j < turnI Rs i) (h : GoodL Rs z b pre acc) : GoodL Rs z b (pre ++ [i]) (stepL Rs z acc i) := by
  have split : ∀ {Q : Nat → Prop}, (∀ S ∈ pre, Q S) → Q i → ∀ S ∈ pre ++ [i], Q S := fun {Q} h1 h2 S hS => (List.mem_append.mp hS).elim (h1 S) fun e => by rw [List.mem_singleton.mp e]; exact h2
  have hR : Rs[i]? = some Rs[i] := List.getElem?_eq_getElem hi
  unfold stepL
  rw [hR]
  dsimp only
  by_cases hz : Rs[i].z = z
  · rw [if_pos hz]
    exact .inr ⟨i, by simp, Rs[i], hR, hz, rfl, split (fun j hj _ _ _ => Int.le_of_lt (hp j hj)) fun _ _ _ => Int.le_refl _⟩
  · rw [if_neg hz]
    rcases h with ⟨e, h⟩ | ⟨k, hk, R, h1, h2, h3, h4⟩
    · exact .inl ⟨e, split h fun R q => by rw [hR] at q; cases q; exact hz⟩
    · exact .inr ⟨k, List.mem_append_left _ hk, R, h1, h2, h3, split h4 fun R q e => by rw [hR] at q; cases q; exact absurd e hz⟩
theorem goodL : ∀ (l pre : List Nat) (acc : List V), (∀ i ∈ l, i < Rs.length) → (pre ++ l).Pairwise (fun i j => turnI Rs i < turnI Rs j) → GoodL Rs z b pre acc → GoodL Rs z b (pre ++ l) (l.foldl (stepL Rs z) acc)
  | [], pre, acc, _, _, h => by rw [List.append_nil]; exact h
  | i :: l, pre, acc, hl, hp, h => by
    have h1 : ∀ j ∈ pre, turnI Rs j < turnI Rs i := fun j hj => (List.pairwise_append.mp hp).2.2 j hj i (by simp)
    have e : pre ++ i :: l = (pre ++ [i]) ++ l := by simp
    have := goodL l (pre ++ [i]) _ (fun k hk => hl k (by simp [hk])) (by rw [← e]; exact hp) (goodL_step (hl i (by simp)) h1 h)
    rw [e]
    exact this
/-- the two looks agree -/
theorem seen_eq {kp kl : List (L2.Key × V)} {bg : List Nat} (kk : valV kl (.inr z) = valV kp (.inr z)) (on : ∀ i R, Rs[i]? = some R → (R.t.isSome = true ↔ i ∈ bg)) (bl : ∀ i ∈ bg, i < Rs.length)
    (up : bg.Pairwise (fun i j => turnI Rs i < turnI Rs j)) (pos : ∀ i ∈ bg, 0 < turnI Rs i) : seenL kl Rs bg z = seenP kp Rs z := by
  have hP : GoodP z (valV kp (.inr z)).toList Rs (Rs.foldl (stepP z) ((valV kp (.inr z)).toList, 0)) := goodP Rs [] _ (.inl ⟨rfl, fun R h => nomatch h⟩)
  have hL : GoodL Rs z (valV kp (.inr z)).toList bg (bg.foldl (stepL Rs z) (valV kp (.inr z)).toList) := goodL bg [] _ bl up (.inl ⟨rfl, fun R h => nomatch h⟩)
  unfold seenL seenP
  rw [kk]
  generalize bg.foldl (stepL Rs z) (valV kp (.inr z)).toList = x at hL ⊢
  generalize Rs.foldl (stepP z) ((valV kp (.inr z)).toList, 0) = y at hP ⊢
  have inbg : ∀ R ∈ Rs, ∀ t, R.t = some t → ∃ i ∈ bg, Rs[i]? = some R ∧ turnI Rs i = t := fun R hR t ht => by
    obtain ⟨i, hi⟩ := List.mem_iff_getElem?.mp hR
    exact ⟨i, (on i R hi).mp (by rw [ht]; rfl), hi, by unfold turnI; rw [hi]; show R.t.getD 0 = t; rw [ht]; rfl⟩
  rcases hL with ⟨e1, h1⟩ | ⟨i, hi, R, r1, r2, r3, r4⟩
  · rcases hP with ⟨e2, _⟩ | ⟨R, hR, p1, p2, p3, p4, p5⟩
    · rw [e1, e2]
    · obtain ⟨i, hi, hi2, _⟩ := inbg R hR _ p2
      exact absurd p1 (h1 i hi R hi2)
  · have hsome := (on i R r1).mpr hi
    obtain ⟨t, ht⟩ := Option.isSome_iff_exists.mp hsome
    have hti : turnI Rs i = t := by unfold turnI; rw [r1]; show R.t.getD 0 = t; rw [ht]; rfl
    have hpos := pos i hi
    have hm := List.mem_of_getElem? r1
    rcases hP with ⟨e2, p1⟩ | ⟨R2, hR2, p1, p2, p3, p4, p5⟩
    · exact absurd (p1 R hm r2 t ht) (by omega)
    · obtain ⟨j, hj, hj2, hj3⟩ := inbg R2 hR2 _ p2
      have le1 := r4 j hj R2 hj2 p1
      have le2 := p5 R hm r2 t ht
      have eij : i = j := by
        obtain ⟨a, ha⟩ := List.mem_iff_getElem.mp hi
        obtain ⟨c, hc⟩ := List.mem_iff_getElem.mp hj
        obtain ⟨ha1, ha2⟩ := ha
        obtain ⟨hc1, hc2⟩ := hc
        rcases Nat.lt_trichotomy a c with h | h | h
        · have := List.pairwise_iff_getElem.mp up a c ha1 hc1 h
          rw [ha2, hc2] at this
          omega
        · subst h
          rw [← ha2, ← hc2]
        · have := List.pairwise_iff_getElem.mp up c a hc1 ha1 h
          rw [ha2, hc2] at this
          omega
      subst eij
      rw [r1] at hj2
      cases hj2
      rw [r3, p3]
end
/-! sorted lists of texts -/
def leS (a b : Str) : Prop := ltCps b.cps.toList a.cps.toList = false
theorem leS_trans {a b c : Str} (h1 : leS a b) (h2 : leS b c) : leS a c := by
  unfold leS at *
  rw [ltCps_eq, decide_eq_false_iff_not] at *
  exact List.not_lt.mpr (List.le_trans (List.not_lt.mp h1) (List.not_lt.mp h2))
theorem leS_anti {a b : Str} (h1 : leS a b) (h2 : leS b a) : a = b := by
  unfold leS at *
  rw [ltCps_eq, decide_eq_false_iff_not] at *
  exact str_eq (List.le_antisymm (List.not_lt.mp h1) (List.not_lt.mp h2))
theorem rising_pw : ∀ (l : List Str) (x : Str), risingS x l = true → (x :: l).Pairwise leS
  | [], x, _ => by simp
  | y :: r, x, h => by
    have h' : (!ltCps y.cps.toList x.cps.toList && risingS y r) = true := h
    rw [Bool.and_eq_true] at h'
    have h1 : leS x y := by simpa [leS] using h'.1
    have ih := rising_pw r y h'.2
    refine List.pairwise_cons.mpr ⟨fun w hw => ?_, ih⟩
    rcases List.mem_cons.mp hw with rfl | hw
    · exact h1
    · exact leS_trans h1 ((List.pairwise_cons.mp ih).1 w hw)
theorem sorted_pw {l : List Str} (h : sortedS l = true) : l.Pairwise leS := by
  cases l with
  | nil => exact .nil
  | cons x r => exact rising_pw r x h
theorem sorted_eq : ∀ {l m : List Str}, l.Pairwise leS → m.Pairwise leS → l.Nodup → m.Nodup → (∀ z, z ∈ l ↔ z ∈ m) → l = m
  | [], [], _, _, _, _, _ => rfl
  | [], y :: m, _, _, _, _, h => absurd ((h y).mpr (by simp)) (by simp)
  | x :: l, [], _, _, _, _, h => absurd ((h x).mp (by simp)) (by simp)
  | x :: l, y :: m, h1, h2, d1, d2, h => by
    obtain ⟨a1, a2⟩ := List.pairwise_cons.mp h1
    obtain ⟨b1, b2⟩ := List.pairwise_cons.mp h2
    obtain ⟨c1, c2⟩ := List.nodup_cons.mp d1
    obtain ⟨e1, e2⟩ := List.nodup_cons.mp d2
    have hxy : x = y := by
      rcases List.mem_cons.mp ((h x).mp (by simp)) with e | hx
      · exact e
      · rcases List.mem_cons.mp ((h y).mpr (by simp)) with e | hy
        · exact e.symm
        · exact leS_anti (a1 y hy) (b1 x hx)
    subst hxy
    congr 1
    refine sorted_eq a2 b2 c2 e2 fun z => ⟨fun hz => ?_, fun hz => ?_⟩
    · rcases List.mem_cons.mp ((h z).mp (List.mem_cons_of_mem _ hz)) with e | q
      · exact absurd (e ▸ hz) c1
      · exact q
    · rcases List.mem_cons.mp ((h z).mpr (List.mem_cons_of_mem _ hz)) with e | q
      · exact absurd (e ▸ hz) e1
      · exact q
end Z

end
section
local macro_rules | `(tactic| walk_at "ne") => `(tactic| first
  | assumption
  | (refine Z.ne_sym ?_; assumption)
  | (refine' Z.ne_new ?ka ?kb; (case ka => assumption); (case kb => walk_at "h"))
  | (refine' Z.ne_sym (Z.ne_new ?ka ?kb); (case ka => assumption); (case kb => walk_at "h"))
  | ((with_reducible refine' Z.ne_nw ?ka ?kb ?kc); (case ka => assumption); (case kb => walk_at "h"); (case kc => rfl))
  | ((with_reducible refine' Z.ne_sym (Z.ne_nw ?ka ?kb ?kc)); (case ka => assumption); (case kb => walk_at "h"); (case kc => rfl))
  | exact L2.ne_of (by assumption) (by assumption) (by intro z; cases z)
  | exact Z.ne_sym (L2.ne_of (by assumption) (by assumption) (by intro z; cases z)))
local macro_rules | `(tactic| walk_at "nm") => `(tactic| first
  | exact Z.nm_nil
  | exact Z.nm_cons (by walk_at "ne") (by walk_at "nm"))
local macro_rules | `(tactic| walk_at "h") => `(tactic| first
  | assumption
  | exact L2.upd_same
  | ((with_reducible refine' Eq.trans (L2.upd_ne ?ka) ?kb); (case ka => walk_at "ne"); (case kb => walk_at "h"))
  | ((with_reducible refine' Z.Fr.at ?ka ?kb ?kc ?kd); (case ka => assumption); (case kb => walk_at "h"); (case kc => walk_at "nm"); (case kd => rfl))
  | ((with_reducible refine' Z.Fr.tup ?ka ?kb); (case ka => assumption); (case kb => walk_at "h")))
local macro_rules | `(tactic| walk_at "free") => `(tactic| first
  | assumption
  | exact Z.Nw.of (by assumption)
  | ((with_reducible refine' Z.Fr.free ?ka ?kb); (case ka => assumption); (case kb => walk_at "free")))
local macro_rules | `(tactic| walk_at "ms") => `(tactic| first
  | exact Or.inl List.mem_cons_self
  | exact Or.inl (List.mem_cons_of_mem _ List.mem_cons_self)
  | (left; simp; done)
  | (right; walk_at "free"))
local macro_rules | `(tactic| walk_at "sub") => `(tactic| first
  | exact Z.sub_nil
  | ((with_reducible refine' Z.sub_cons ?ka ?kb); (case ka => walk_at "ms"); (case kb => walk_at "sub")))
local macro_rules | `(tactic| walk_at "fr") => `(tactic| first
  | assumption
  | exact Z.Fr.refl _ _
  | ((with_reducible refine' Z.Fr.new ?ka ?kb); (case kb => assumption); (case ka => walk_at "fr"))
  | ((with_reducible refine' Z.Fr.upd ?ka ?kb ?kc ?kd ?ke); (case kb => walk_at "ms"); (case kc => walk_at "h"); (case kd => rfl); (case ke => rfl); (case ka => walk_at "fr"))
  | ((with_reducible refine' Z.Fr.step ?ka ?kb ?kc); (case ka => assumption); (case kb => walk_at "fr"); (case kc => walk_at "sub")))
local macro_rules | `(tactic| walk_at "dt") => `(tactic| first
  | assumption
  | (refine Z.DT.new ?_ (by assumption); walk_at "dt")
  | (refine Z.DTs.new ?_ (by assumption); walk_at "dt")
  | (refine' Z.DT.wr ?ka ?kb ?kc; (case kb => walk_at "h"); (case kc => rfl); (case ka => walk_at "dt"))
  | (refine' Z.DTs.wr ?ka ?kb ?kc; (case kb => walk_at "h"); (case kc => rfl); (case ka => walk_at "dt"))
  | (refine' Z.DT.fr ?ka ?kb; (case kb => assumption); (case ka => walk_at "dt"))
  | (refine' Z.DTs.fr ?ka ?kb; (case kb => assumption); (case ka => walk_at "dt")))
local macro_rules | `(tactic| walk_at "len") => `(tactic| first
  | exact Z.lt_ok (Nat.le_of_ble_eq_true (by with_unfolding_all rfl))
  | exact Z.le_ok (Nat.le_of_ble_eq_true (by with_unfolding_all rfl))
  | (apply Z.lt_ok; (try simp only [List.length_append, List.length_cons, List.length_nil, List.length_map, List.length_set, List.length_eraseIdx] at *); omega)
  | (apply Z.le_ok; (try simp only [List.length_append, List.length_cons, List.length_nil, List.length_map, List.length_set, List.length_eraseIdx] at *); omega))
local macro_rules | `(tactic| walk_at "r") => `(tactic| first
  | (with_reducible refine Z.rd_seq ?_)
  | (with_reducible refine Z.rd_asg ?_)
  | (with_reducible refine Z.rd_gname ?_)
  | (with_reducible refine Z.rd_ifs ?_)
  | (with_reducible refine Z.rd_next ?_)
  | (with_reducible refine Z.rd_and ?_)
  | (with_reducible refine Z.rd_or ?_)
  | (with_reducible refine Z.rd_not ?_)
  | (with_reducible refine Z.rd_test ?_)
  | (with_reducible refine Z.rd_tb ?_)
  | (with_reducible refine Z.rd_bl ?_)
  | (with_reducible refine Z.rd_op ?_)
  | (with_reducible refine Z.rd_c ?_)
  | ((with_reducible refine' Z.rd_var ?ka ?_); (case ka => with_unfolding_all rfl))
  | (with_reducible refine Z.rd_ret ?_)
  | (with_reducible refine Z.rd_retn ?_)
  | (with_reducible refine Z.rd_drop ?_)
  | (with_reducible refine Z.rd_nil ?_)
  | (with_reducible refine Z.rd_cons ?_)
  | (with_reducible refine Z.rd_cb ?_)
  | (with_reducible refine Z.rd_call ?_)
  | (with_reducible refine Z.rd_dget0 ?_)
  | ((with_reducible refine' Z.rd_dget1 ?ka ?kb ?_); (case ka => walk_at "h"); (case kb => with_unfolding_all rfl))
  | (with_reducible refine Z.rd_dput0 ?_)
  | ((with_reducible refine' Z.rd_dput1 ?ka ?kb ?_); (case ka => walk_at "h"); (case kb => walk_at "len"))
  | (with_reducible refine Z.rd_eqi ?_)
  | (with_reducible refine Z.rd_eqs ?_)
  | (with_reducible refine Z.rd_nei ?_)
  | (with_reducible refine Z.rd_nes ?_)
  | (with_reducible refine Z.rd_i0 ?_)
  | (with_reducible refine Z.rd_lst ?_)
  | (with_reducible refine Z.rd_tup ?_)
  | (with_reducible refine Z.rd_ifx ?_)
  | (with_reducible refine Z.rd_bm ?_)
  | (with_reducible refine Z.rd_bm0 ?_)
  | ((with_reducible refine' Z.rd_nil2 ?ka ?kb ?_); (case ka => walk_at "h"); (case kb => walk_at "h"))
  | ((with_reducible refine' Z.rd_nil2T ?ka ?kb ?_); (case ka => walk_at "h"); (case kb => walk_at "h"))
  | (with_reducible refine Z.rd_int1 ?_)
  | ((with_reducible refine' Z.rd_size ?ka ?_); (case ka => walk_at "len"))
  | ((with_reducible refine' Z.rd_tylist ?ka ?_); (case ka => walk_at "h"))
  | ((with_reducible refine' Z.rd_i ?ka ?_); (case ka => walk_at "num"))
  | ((with_reducible refine' Z.rd_append ?ka ?kb ?_); (case ka => walk_at "h"); (case kb => walk_at "len"))
  | (with_reducible refine Z.rd_for' ?_)
  | (with_reducible refine Z.rd_lc' ?_)
  | (with_reducible refine Z.rd_un ?_)
  | (with_reducible refine Z.rd_gm ?_)
  | (with_reducible refine Z.rd_xk ?_)
  | (with_reducible refine Z.rd_stard ?_)
  | ((with_reducible refine' Z.rd_stard1 ?ka ?_); (case ka => walk_at "h"))
  | (with_reducible refine Z.rd_star ?_)
  | ((with_reducible refine' Z.rd_star1 ?ka ?_); (case ka => walk_at "h"))
  | (with_reducible refine Z.rd_dc' ?_)
  | (with_reducible refine Z.rd_dnew ?_)
  | (with_reducible refine Z.rd_dpop ?_)
  | ((with_reducible refine' Z.rd_isd ?ka ?_); (case ka => walk_at "h"))
  | (with_reducible refine Z.rd_fldaug ?_)
  | (with_reducible refine Z.rd_ilt ?_)
  | (with_reducible refine Z.rd_mko ?_)
  | (with_reducible refine Z.rd_gk ?_)
  | (with_reducible refine Z.rd_gp ?_)
  | ((with_reducible refine' Z.rd_ins1 ?ka ?_); (case ka => walk_at "h"))
  | (with_reducible refine Z.rd_disp ?_)
  | (with_reducible refine Z.rd_pnil ?_)
  | (with_reducible refine Z.rd_pcons ?_)
  | (with_reducible refine Z.rd_m1 ?_)
  | (with_reducible refine Z.rd_isstr ?_)
  | (with_reducible refine Z.rd_sl ?_)
  | (with_reducible refine Z.rd_nopart ?_)
  | (with_reducible refine Z.rd_part ?_)
  | (with_reducible refine Z.rd_part1 ?_)
  | (with_reducible refine Z.rd_u ?_)
  | (with_reducible refine Z.rd_ilist ?_)
  | (with_reducible refine Z.rd_itup ?_)
  | (with_reducible refine Z.rd_istr ?_)
  | (with_reducible refine Z.rd_irng1 ?_)
  | (with_reducible refine Z.rd_yes ?_)
  | (with_reducible refine Z.rd_sfld0 ?_)
  | (with_reducible refine Z.rd_fld0 ?_)
  | (with_reducible refine Z.rd_din ?_)
  | (with_reducible refine Z.rd_dnotin ?_)
  | (with_reducible refine Z.rd_isn ?_)
  | (with_reducible refine Z.rd_notn ?_)
  | (with_reducible refine Z.rd_par ?_)
  | (with_reducible refine Z.rd_par1 ?_)
  | (with_reducible refine Z.rd_gnil ?_)
  | (with_reducible refine Z.rd_gcons ?_)
  | (with_reducible refine Z.rd_chain ?_)
  | (with_reducible refine Z.rd_andv ?_)
  | (with_reducible refine Z.rd_orv ?_)
  | (with_reducible refine Z.rd_notv ?_)
  | (with_reducible refine Z.rd_meth ?_)
  | (with_reducible refine Z.rd_while ?_)
  | ((with_reducible refine' Z.rd_ixl ?ka ?kb ?_); (case ka => walk_at "h"); (case kb => walk_at "ati"))
  | ((with_reducible refine' Z.rd_ixt ?ka ?kb ?_); (case ka => walk_at "h"); (case kb => walk_at "ati"))
  | ((with_reducible refine' Z.rd_len ?ka ?_); (case ka => walk_at "h"))
  | ((with_reducible refine' Z.rd_lens ?ka ?_); (case ka => walk_at "h"))
  | ((with_reducible refine' Z.rd_lent ?ka ?_); (case ka => walk_at "h"))
  | ((with_reducible refine' Z.rd_lstof ?ka ?_); (case ka => walk_at "h"))
  | ((with_reducible refine' Z.rd_tupof ?ka ?_); (case ka => walk_at "h"))
  | ((with_reducible refine' Z.rd_sfld1 ?ka ?kb ?kc ?kd ?_); (case ka => walk_at "h"); (case kb => assumption); (case kc => assumption); (case kd => (first | (with_unfolding_all decide) | exact Nat.le_of_ble_eq_true (by with_unfolding_all rfl))))
  | ((with_reducible refine' Z.rd_fld1 ?ka ?kb ?kc ?kd ?_); (case ka => walk_at "h"); (case kb => assumption); (case kc => assumption); (case kd => with_unfolding_all rfl))
  | ((with_reducible refine' Z.rd_din1 ?ka ?_); (case ka => walk_at "h"))
  | ((with_reducible refine' Z.rd_gtup ?ka ?kb ?_); (case ka => walk_at "h"); (case kb => with_unfolding_all rfl))
  | ((with_reducible refine' Z.rd_catl ?ka ?kb ?kc ?_); (case ka => walk_at "h"); (case kb => walk_at "h"); (case kc => walk_at "len"))
  | ((with_reducible refine' Z.rd_meth1 ?ka ?kb ?_); (case ka => walk_at "h"); (case kb => with_unfolding_all rfl))
  | ((with_reducible refine' Z.rd_addstr ?ka ?_); (case ka => walk_at "len")))
local macro_rules | `(tactic| walk_at "ati") => `(tactic| first
  | assumption
  | (with_unfolding_all rfl)
  | exact L2.atI_nat (by assumption)
  | exact L2.atI_nat (by with_unfolding_all rfl)
  | exact L2.atI_last _ _)
local macro_rules | `(tactic| walk_at "rr") => `(tactic| repeat (walk_at "r"))
local macro_rules | `(tactic| walk_at "num") => `(tactic| first
  | (with_unfolding_all decide)
  | (show (_ : Int) ≠ 0; omega)
  | (show (_ : Int) ≠ 0 ∧ _ < 1073741824; exact ⟨by omega, by omega⟩)
  | (show (0 : Int) ≤ _ ∧ _ ≤ (1000000 : Int) ∧ _; exact ⟨by decide, by decide, by omega⟩)
  | (show (-(2 ^ 64) < (_ : Int) ∧ _ < 2 ^ 64) ∨ _; (first | (left; exact ⟨by omega, by omega⟩) | (right; exact ⟨by omega, by omega⟩)))
  | omega)
/-! ### what is shown of small data -/
namespace Z
open PySem PySem.Spec PyProof.Rows L2
def bl : Nat → Nat
  | 0 => 40
  | n + 1 => 2 * (bl n + 1)
theorem bl_ge : ∀ n, 40 ≤ bl n
  | 0 => Nat.le_refl _
  | n + 1 => by have := bl_ge n; show 40 ≤ 2 * (bl n + 1); omega
/-- d may be shown; its texts are of n signs together at most -/
structure Shw (d : PyData) (n : Nat) : Prop where
  s : d.showable = true
  h : d.hasDict = false
  l : d.leavesShort 300 = true
  b : d.bulk ≤ n
theorem leaf_shw {d : PyData} (h : leafB d = true) : Shw d 40 := by
  cases d with
  | none => exact ⟨rfl, rfl, rfl, Nat.zero_le _⟩
  | bool b => exact ⟨rfl, rfl, rfl, Nat.zero_le _⟩
  | int i =>
    have hb : i.natAbs < 2 ^ 200 := of_decide_eq_true h
    have hl : i.natAbs.log2 < 200 := by
      by_cases h0 : i.natAbs = 0
      · rw [h0]; decide
      · exact (Nat.log2_lt h0).mpr hb
    have e := int_text_length_le (k := 200) (by decide) hl
    refine ⟨?_, rfl, ?_, Nat.zero_le _⟩
    · simp only [PyData.showable, decide_eq_true_eq]; omega
    · simp only [PyData.leavesShort, decide_eq_true_eq]
      have : (PyData.shown (.int i)).length = (toString i).length := PySem.ofString_length _
      omega
  | str x =>
    simp only [leafB, Bool.and_eq_true, decide_eq_true_eq] at h
    refine ⟨rfl, rfl, ?_, h.1⟩
    simp only [PyData.leavesShort, List.all_eq_true, decide_eq_true_eq]
    intro c hc
    have := Array.all_eq_true_iff_forall_mem.mp h.2 c (by simpa using hc)
    have : c < 0x110000 := of_decide_eq_true this
    omega
  | list _ => cases h
  | tuple _ => cases h
  | dict _ => cases h
theorem tup_shw {n : Nat} : ∀ {ds : List PyData}, (∀ d ∈ ds, Shw d n) → PyData.showableAll ds = true ∧ PyData.hasDictAll ds = false ∧ PyData.leavesShortAll 300 ds = true ∧ PyData.bulkAll ds ≤ ds.length * (n + 1)
  | [], _ => ⟨rfl, rfl, rfl, Nat.zero_le _⟩
  | d :: ds, h => by
    obtain ⟨a1, a2, a3, a4⟩ := h d (by simp)
    obtain ⟨b1, b2, b3, b4⟩ := tup_shw (ds := ds) fun d hd => h d (by simp [hd])
    refine ⟨?_, ?_, ?_, ?_⟩
    · simp only [PyData.showableAll, a1, b1]; rfl
    · simp only [PyData.hasDictAll, a2, b2]; rfl
    · simp only [PyData.leavesShortAll, a3, b3]; rfl
    · simp only [PyData.bulkAll, List.length_cons]
      rw [Nat.add_mul]
      omega
theorem Shw.tup {n : Nat} {ds : List PyData} (h : ∀ d ∈ ds, Shw d n) : Shw (.tuple ds) (ds.length * (n + 1)) := by
  obtain ⟨b1, b2, b3, b4⟩ := tup_shw h
  exact ⟨by simpa only [PyData.showable] using b1, by simpa only [PyData.hasDict] using b2, by simpa only [PyData.leavesShort] using b3, by simpa only [PyData.bulk] using b4⟩
theorem Shw.mono {n m : Nat} {d : PyData} (h : Shw d n) (l : n ≤ m) : Shw d m := ⟨h.s, h.h, h.l, Nat.le_trans h.b l⟩
theorem VL.shw : ∀ {n : Nat} {d : PyData}, VL n d → Shw d (bl n) := by
  intro n
  induction n with
  | zero =>
    intro d h
    cases h with
    | leaf _ _ h => exact leaf_shw h
  | succ n ih =>
    intro d h
    cases h with
    | leaf _ _ h => exact (leaf_shw h).mono (bl_ge (n + 1))
    | tup _ ds hl hd =>
      refine (Shw.tup fun d h => ih (hd d h)).mono ?_
      show ds.length * (bl n + 1) ≤ 2 * (bl n + 1)
      exact Nat.mul_le_mul_right _ hl
theorem Shw.len {n : Nat} {d : PyData} (h : Shw d n) (hn : n ≤ 1000) : d.shown.length ≤ sizeLine := by
  have e := PyData.shown_le_bulk 300 (by decide) d h.l
  have := h.b
  rw [sizeLine_eq]
  have : 302 * d.bulk ≤ 302 * 1000 := Nat.mul_le_mul_left _ (by omega)
  omega
/-- an answer (w, v) as data -/
theorem pair_shw {w : Str} {d : PyData} {n : Nat} (hw : leafB (.str w) = true) (hd : Shw d n) (hn : 40 ≤ n) : Shw (.tuple [.str w, d]) (2 * (n + 1)) :=
  (Shw.tup (ds := [.str w, d]) (n := n) fun e he => by
    rcases List.mem_cons.mp he with rfl | he
    · exact (leaf_shw hw).mono hn
    · rw [List.mem_singleton.mp he]; exact hd)
theorem rd_reprB {K : PySem.W.Frag} {b : Bool} {H : Hp} {Q : VK} (h : Q (.str (PyData.shown (.bool b))) H) : rRepr K [.bl b] H Q :=
  ⟨_, _, rfl, .bl b, rfl, rfl, by show PyData.depth (.bool b) ≤ 60; exact Nat.zero_le _, (leaf_shw (d := .bool b) rfl).len (by decide), h⟩
theorem rd_reprP {K : PySem.W.Frag} {p : Addr} {w : Str} {v : V} {d : PyData} {H : Hp} {Q : VK} (e : H p = some (.tup [.str w, v])) (hw : leafB (.str w) = true) (hd : DT H v d) (hv : VL 2 d) (h : Q (.str (PyData.shown (.tuple [.str w, d]))) H) : rRepr K [.ref p] H Q := by
  have hs := pair_shw hw hv.shw (bl_ge 2)
  refine ⟨_, _, rfl, .tup (SqT.of e) (.cons (.str w) (.cons (DT.dp d v hd) .nil)), hs.s, hs.h, ?_, hs.len (by decide), h⟩
  have := hv.depth
  show PyData.depthAll [.str w, d] + 1 ≤ 60
  have e1 : PyData.depthAll [.str w, d] = max 0 (max d.depth 0) := rfl
  rw [e1]
  omega
end Z

end
section
local macro_rules | `(tactic| walk_at "ne") => `(tactic| first
  | assumption
  | (refine Z.ne_sym ?_; assumption)
  | (refine' Z.ne_new ?ka ?kb; (case ka => assumption); (case kb => walk_at "h"))
  | (refine' Z.ne_sym (Z.ne_new ?ka ?kb); (case ka => assumption); (case kb => walk_at "h"))
  | ((with_reducible refine' Z.ne_nw ?ka ?kb ?kc); (case ka => assumption); (case kb => walk_at "h"); (case kc => rfl))
  | ((with_reducible refine' Z.ne_sym (Z.ne_nw ?ka ?kb ?kc)); (case ka => assumption); (case kb => walk_at "h"); (case kc => rfl))
  | exact L2.ne_of (by assumption) (by assumption) (by intro z; cases z)
  | exact Z.ne_sym (L2.ne_of (by assumption) (by assumption) (by intro z; cases z)))
local macro_rules | `(tactic| walk_at "nm") => `(tactic| first
  | exact Z.nm_nil
  | exact Z.nm_cons (by walk_at "ne") (by walk_at "nm"))
local macro_rules | `(tactic| walk_at "h") => `(tactic| first
  | assumption
  | exact L2.upd_same
  | ((with_reducible refine' Eq.trans (L2.upd_ne ?ka) ?kb); (case ka => walk_at "ne"); (case kb => walk_at "h"))
  | ((with_reducible refine' Z.Fr.at ?ka ?kb ?kc ?kd); (case ka => assumption); (case kb => walk_at "h"); (case kc => walk_at "nm"); (case kd => rfl))
  | ((with_reducible refine' Z.Fr.tup ?ka ?kb); (case ka => assumption); (case kb => walk_at "h")))
local macro_rules | `(tactic| walk_at "free") => `(tactic| first
  | assumption
  | exact Z.Nw.of (by assumption)
  | ((with_reducible refine' Z.Fr.free ?ka ?kb); (case ka => assumption); (case kb => walk_at "free")))
local macro_rules | `(tactic| walk_at "ms") => `(tactic| first
  | exact Or.inl List.mem_cons_self
  | exact Or.inl (List.mem_cons_of_mem _ List.mem_cons_self)
  | (left; simp; done)
  | (right; walk_at "free"))
local macro_rules | `(tactic| walk_at "sub") => `(tactic| first
  | exact Z.sub_nil
  | ((with_reducible refine' Z.sub_cons ?ka ?kb); (case ka => walk_at "ms"); (case kb => walk_at "sub")))
local macro_rules | `(tactic| walk_at "fr") => `(tactic| first
  | assumption
  | exact Z.Fr.refl _ _
  | ((with_reducible refine' Z.Fr.new ?ka ?kb); (case kb => assumption); (case ka => walk_at "fr"))
  | ((with_reducible refine' Z.Fr.upd ?ka ?kb ?kc ?kd ?ke); (case kb => walk_at "ms"); (case kc => walk_at "h"); (case kd => rfl); (case ke => rfl); (case ka => walk_at "fr"))
  | ((with_reducible refine' Z.Fr.step ?ka ?kb ?kc); (case ka => assumption); (case kb => walk_at "fr"); (case kc => walk_at "sub")))
local macro_rules | `(tactic| walk_at "dt") => `(tactic| first
  | assumption
  | (refine Z.DT.new ?_ (by assumption); walk_at "dt")
  | (refine Z.DTs.new ?_ (by assumption); walk_at "dt")
  | (refine' Z.DT.wr ?ka ?kb ?kc; (case kb => walk_at "h"); (case kc => rfl); (case ka => walk_at "dt"))
  | (refine' Z.DTs.wr ?ka ?kb ?kc; (case kb => walk_at "h"); (case kc => rfl); (case ka => walk_at "dt"))
  | (refine' Z.DT.fr ?ka ?kb; (case kb => assumption); (case ka => walk_at "dt"))
  | (refine' Z.DTs.fr ?ka ?kb; (case kb => assumption); (case ka => walk_at "dt")))
local macro_rules | `(tactic| walk_at "len") => `(tactic| first
  | exact Z.lt_ok (Nat.le_of_ble_eq_true (by with_unfolding_all rfl))
  | exact Z.le_ok (Nat.le_of_ble_eq_true (by with_unfolding_all rfl))
  | (apply Z.lt_ok; (try simp only [List.length_append, List.length_cons, List.length_nil, List.length_map, List.length_set, List.length_eraseIdx] at *); omega)
  | (apply Z.le_ok; (try simp only [List.length_append, List.length_cons, List.length_nil, List.length_map, List.length_set, List.length_eraseIdx] at *); omega))
local macro_rules | `(tactic| walk_at "r") => `(tactic| first
  | (with_reducible refine Z.rd_seq ?_)
  | (with_reducible refine Z.rd_asg ?_)
  | (with_reducible refine Z.rd_gname ?_)
  | (with_reducible refine Z.rd_ifs ?_)
  | (with_reducible refine Z.rd_next ?_)
  | (with_reducible refine Z.rd_and ?_)
  | (with_reducible refine Z.rd_or ?_)
  | (with_reducible refine Z.rd_not ?_)
  | (with_reducible refine Z.rd_test ?_)
  | (with_reducible refine Z.rd_tb ?_)
  | (with_reducible refine Z.rd_bl ?_)
  | (with_reducible refine Z.rd_op ?_)
  | (with_reducible refine Z.rd_c ?_)
  | ((with_reducible refine' Z.rd_var ?ka ?_); (case ka => with_unfolding_all rfl))
  | (with_reducible refine Z.rd_ret ?_)
  | (with_reducible refine Z.rd_retn ?_)
  | (with_reducible refine Z.rd_drop ?_)
  | (with_reducible refine Z.rd_nil ?_)
  | (with_reducible refine Z.rd_cons ?_)
  | (with_reducible refine Z.rd_cb ?_)
  | (with_reducible refine Z.rd_call ?_)
  | (with_reducible refine Z.rd_dget0 ?_)
  | ((with_reducible refine' Z.rd_dget1 ?ka ?kb ?_); (case ka => walk_at "h"); (case kb => with_unfolding_all rfl))
  | (with_reducible refine Z.rd_dput0 ?_)
  | ((with_reducible refine' Z.rd_dput1 ?ka ?kb ?_); (case ka => walk_at "h"); (case kb => walk_at "len"))
  | (with_reducible refine Z.rd_eqi ?_)
  | (with_reducible refine Z.rd_eqs ?_)
  | (with_reducible refine Z.rd_nei ?_)
  | (with_reducible refine Z.rd_nes ?_)
  | (with_reducible refine Z.rd_i0 ?_)
  | (with_reducible refine Z.rd_lst ?_)
  | (with_reducible refine Z.rd_tup ?_)
  | (with_reducible refine Z.rd_ifx ?_)
  | (with_reducible refine Z.rd_bm ?_)
  | (with_reducible refine Z.rd_bm0 ?_)
  | ((with_reducible refine' Z.rd_nil2 ?ka ?kb ?_); (case ka => walk_at "h"); (case kb => walk_at "h"))
  | ((with_reducible refine' Z.rd_nil2T ?ka ?kb ?_); (case ka => walk_at "h"); (case kb => walk_at "h"))
  | (with_reducible refine Z.rd_int1 ?_)
  | ((with_reducible refine' Z.rd_size ?ka ?_); (case ka => walk_at "len"))
  | ((with_reducible refine' Z.rd_tylist ?ka ?_); (case ka => walk_at "h"))
  | ((with_reducible refine' Z.rd_i ?ka ?_); (case ka => walk_at "num"))
  | ((with_reducible refine' Z.rd_append ?ka ?kb ?_); (case ka => walk_at "h"); (case kb => walk_at "len"))
  | (with_reducible refine Z.rd_for' ?_)
  | (with_reducible refine Z.rd_lc' ?_)
  | (with_reducible refine Z.rd_un ?_)
  | (with_reducible refine Z.rd_gm ?_)
  | (with_reducible refine Z.rd_xk ?_)
  | (with_reducible refine Z.rd_stard ?_)
  | ((with_reducible refine' Z.rd_stard1 ?ka ?_); (case ka => walk_at "h"))
  | (with_reducible refine Z.rd_star ?_)
  | ((with_reducible refine' Z.rd_star1 ?ka ?_); (case ka => walk_at "h"))
  | (with_reducible refine Z.rd_dc' ?_)
  | (with_reducible refine Z.rd_dnew ?_)
  | (with_reducible refine Z.rd_dpop ?_)
  | ((with_reducible refine' Z.rd_isd ?ka ?_); (case ka => walk_at "h"))
  | (with_reducible refine Z.rd_fldaug ?_)
  | (with_reducible refine Z.rd_ilt ?_)
  | (with_reducible refine Z.rd_mko ?_)
  | (with_reducible refine Z.rd_gk ?_)
  | (with_reducible refine Z.rd_gp ?_)
  | ((with_reducible refine' Z.rd_ins1 ?ka ?_); (case ka => walk_at "h"))
  | (with_reducible refine Z.rd_disp ?_)
  | (with_reducible refine Z.rd_pnil ?_)
  | (with_reducible refine Z.rd_pcons ?_)
  | (with_reducible refine Z.rd_m1 ?_)
  | (with_reducible refine Z.rd_isstr ?_)
  | (with_reducible refine Z.rd_sl ?_)
  | (with_reducible refine Z.rd_nopart ?_)
  | (with_reducible refine Z.rd_part ?_)
  | (with_reducible refine Z.rd_part1 ?_)
  | (with_reducible refine Z.rd_u ?_)
  | (with_reducible refine Z.rd_ilist ?_)
  | (with_reducible refine Z.rd_itup ?_)
  | (with_reducible refine Z.rd_istr ?_)
  | (with_reducible refine Z.rd_irng1 ?_)
  | (with_reducible refine Z.rd_yes ?_)
  | (with_reducible refine Z.rd_sfld0 ?_)
  | (with_reducible refine Z.rd_fld0 ?_)
  | (with_reducible refine Z.rd_din ?_)
  | (with_reducible refine Z.rd_dnotin ?_)
  | (with_reducible refine Z.rd_isn ?_)
  | (with_reducible refine Z.rd_notn ?_)
  | (with_reducible refine Z.rd_par ?_)
  | (with_reducible refine Z.rd_par1 ?_)
  | (with_reducible refine Z.rd_gnil ?_)
  | (with_reducible refine Z.rd_gcons ?_)
  | (with_reducible refine Z.rd_chain ?_)
  | (with_reducible refine Z.rd_andv ?_)
  | (with_reducible refine Z.rd_orv ?_)
  | (with_reducible refine Z.rd_notv ?_)
  | (with_reducible refine Z.rd_meth ?_)
  | (with_reducible refine Z.rd_while ?_)
  | ((with_reducible refine' Z.rd_ixl ?ka ?kb ?_); (case ka => walk_at "h"); (case kb => walk_at "ati"))
  | ((with_reducible refine' Z.rd_ixt ?ka ?kb ?_); (case ka => walk_at "h"); (case kb => walk_at "ati"))
  | ((with_reducible refine' Z.rd_len ?ka ?_); (case ka => walk_at "h"))
  | ((with_reducible refine' Z.rd_lens ?ka ?_); (case ka => walk_at "h"))
  | ((with_reducible refine' Z.rd_lent ?ka ?_); (case ka => walk_at "h"))
  | ((with_reducible refine' Z.rd_lstof ?ka ?_); (case ka => walk_at "h"))
  | ((with_reducible refine' Z.rd_tupof ?ka ?_); (case ka => walk_at "h"))
  | ((with_reducible refine' Z.rd_sfld1 ?ka ?kb ?kc ?kd ?_); (case ka => walk_at "h"); (case kb => assumption); (case kc => assumption); (case kd => (first | (with_unfolding_all decide) | exact Nat.le_of_ble_eq_true (by with_unfolding_all rfl))))
  | ((with_reducible refine' Z.rd_fld1 ?ka ?kb ?kc ?kd ?_); (case ka => walk_at "h"); (case kb => assumption); (case kc => assumption); (case kd => with_unfolding_all rfl))
  | ((with_reducible refine' Z.rd_din1 ?ka ?_); (case ka => walk_at "h"))
  | ((with_reducible refine' Z.rd_gtup ?ka ?kb ?_); (case ka => walk_at "h"); (case kb => with_unfolding_all rfl))
  | ((with_reducible refine' Z.rd_catl ?ka ?kb ?kc ?_); (case ka => walk_at "h"); (case kb => walk_at "h"); (case kc => walk_at "len"))
  | ((with_reducible refine' Z.rd_meth1 ?ka ?kb ?_); (case ka => walk_at "h"); (case kb => with_unfolding_all rfl))
  | ((with_reducible refine' Z.rd_addstr ?ka ?_); (case ka => walk_at "len")))
local macro_rules | `(tactic| walk_at "ati") => `(tactic| first
  | assumption
  | (with_unfolding_all rfl)
  | exact L2.atI_nat (by assumption)
  | exact L2.atI_nat (by with_unfolding_all rfl)
  | exact L2.atI_last _ _)
local macro_rules | `(tactic| walk_at "rr") => `(tactic| repeat (walk_at "r"))
local macro_rules | `(tactic| walk_at "num") => `(tactic| first
  | (with_unfolding_all decide)
  | (show (_ : Int) ≠ 0; omega)
  | (show (_ : Int) ≠ 0 ∧ _ < 1073741824; exact ⟨by omega, by omega⟩)
  | (show (0 : Int) ≤ _ ∧ _ ≤ (1000000 : Int) ∧ _; exact ⟨by decide, by decide, by omega⟩)
  | (show (-(2 ^ 64) < (_ : Int) ∧ _ < 2 ^ 64) ∨ _; (first | (left; exact ⟨by omega, by omega⟩) | (right; exact ⟨by omega, by omega⟩)))
  | omega)
namespace Z
open PySem PySem.Spec PyProof.Rows L2
abbrev s__law_asked : Stmt := top 28
abbrev n__law_asked : List Str := ["box", "stead", "title", "found", "due"]
theorem sc__law_asked : FnScope n__law_asked ["box", "stead", "title"] (defScope s__law_asked) := ⟨rfl, rfl, rfl, by decide +kernel, rfl, by decide +kernel, by decide +kernel⟩
/-- the law's box and the program's places tell the same -/
structure Wd (C CR : Addr) (H : Hp) (g : Wg) : Prop where
  P : Pl C CR H g.pl g.dx g.hd g.md g.kp g.Rs g.tn
  B : Bx H g
  kk : ∀ z, valV g.kl (.inr z) = valV g.kp (.inr z)
  tl : g.ts.length ≤ 10
  tn : ∀ z ∈ g.ts, nmB z = true
  td : g.ts.Nodup
  kin : ∀ z ∈ keysOf g.kp, z ∈ g.ts
  rin : ∀ R ∈ g.Rs, R.z ∈ g.ts
  nd : g.bg.Nodup
  on : ∀ i R, g.Rs[i]? = some R → (R.t.isSome = true ↔ i ∈ g.bg)
  up : g.bg.Pairwise (fun i j => turnI g.Rs i < turnI g.Rs j)
  pos : ∀ i ∈ g.bg, 0 < turnI g.Rs i ∧ turnI g.Rs i ≤ g.tn
  t0 : 0 ≤ g.tn
  smk : ∀ z v, valV g.kp (.inr z) = some v → Sm H v
  smr : ∀ R ∈ g.Rs, R.xs.length ≤ 1 ∧ ∀ v ∈ R.xs, Sm H v
  xh : g.bx ≠ g.bh
  hh : g.hd ≠ g.bh
  hx : g.hd ≠ g.bx
  mb : g.bm ≠ g.bb
  mm : g.md ≠ g.bm
  mb2 : g.md ≠ g.bb
theorem Wd.keep0 {Λ : List (Addr × Str)} {C CR : Addr} {H H' : Hp} {g : Wg} (w : Wd C CR H g) (f : Fr Λ [] H H') : Wd C CR H' g :=
  ⟨w.P.keep0 f, w.B.keep0 f, w.kk, w.tl, w.tn, w.td, w.kin, w.rin, w.nd, w.on, w.up, w.pos, w.t0, fun z v h => (w.smk z v h).fr f, fun R hR => ⟨(w.smr R hR).1, fun v hv => ((w.smr R hR).2 v hv).fr f⟩, w.xh, w.hh, w.hx, w.mb, w.mm, w.mb2⟩
theorem Wd.seen {C CR : Addr} {H : Hp} {g : Wg} (w : Wd C CR H g) (z : Str) : seenL g.kl g.Rs g.bg z = seenP g.kp g.Rs z :=
  seen_eq (w.kk z) w.on w.B.bl w.up fun i hi => (w.pos i hi).1
/-- what is seen is small data, at most one -/
theorem Wd.seenSm {C CR : Addr} {H : Hp} {g : Wg} (w : Wd C CR H g) (z : Str) : (seenP g.kp g.Rs z).length ≤ 1 ∧ ∀ v ∈ seenP g.kp g.Rs z, Sm H v := by
  have hP : GoodP z (valV g.kp (.inr z)).toList g.Rs (g.Rs.foldl (stepP z) ((valV g.kp (.inr z)).toList, 0)) := goodP g.Rs [] _ (.inl ⟨rfl, fun R h => nomatch h⟩)
  unfold seenP
  rcases hP with ⟨e, _⟩ | ⟨R, hR, _, _, e, _⟩
  · rw [e]
    cases hv : valV g.kp (.inr z) with
    | none => exact ⟨by simp, fun v h => nomatch h⟩
    | some v => exact ⟨by simp, fun u hu => by rw [List.mem_singleton.mp hu]; exact w.smk z v hv⟩
  · rw [e]; exact w.smr R hR
theorem nm_leaf {z : Str} (h : nmB z = true) : leafB (.str z) = true := by
  obtain ⟨_, h2, h3⟩ := wdB_le (nmB_wd h)
  have hsz : z.cps.size = (cl z).length := by unfold cl; simp
  simp only [leafB, Bool.and_eq_true, decide_eq_true_eq]
  refine ⟨by omega, Array.all_eq_true_iff_forall_mem.mpr fun c hc => ?_⟩
  have := h3 c (by unfold cl; simpa using hc)
  unfold lowB at this
  simp only [Bool.and_eq_true, decide_eq_true_eq] at this
  exact decide_eq_true (by omega)
def sp_asked (Λ : List (Addr × Str)) (C CR : Addr) : Sp := fun vs H Q _ => ∃ (g : Wg) (z : Str), vs = [.ref g.bx, .ref g.pl, .str z] ∧ Wd C CR H g ∧ z ∈ g.ts ∧ LamX.Tabs Λ H ∧ ∀ H', Fr Λ [] H H' → Q (.bl true) H'
structure G7 (γ : Bool) (Λ : List (Addr × Str)) (P : Program) (w : World) (K : PySem.W.Frag) (mg : Str → Option Value) (base : Heap) (C CR CT CN CB : Addr) : Prop where
  law_seen : GD γ P w K mg base "_law_seen" ["box", "title"] 1 (sp_lseen Λ)
  law_result : GRes K mg CT CN CB
  Places_has : GM γ P w K mg base C "has" 3 (sp_has Λ C CR)
  Places_read : GM γ P w K mg base C "read" 4 (sp_read Λ C CR CN)
structure T8 (P : Program) (K : PySem.W.Frag) (mg : Str → Option Value) (C CR CN CB : Addr) : Prop extends T7 P K mg C CR CN CB where
  b_repr : mg "repr" = none
  b_range : mg "range" = none
section
variable {Λ : List (Addr × Str)} {P : Program} {w : World} {K : PySem.W.Frag} {mg : Str → Option Value} {base : Heap} {C CR CT CN CB : Addr}
theorem ok_asked {f c Pt : Addr} {fd : FuncData} (F : FunC K "_law_asked" "_law_asked" s__law_asked f fd c) (TB : LamX.TabB base mg c Pt) (hmT : (Pt, (("_law_asked" : Str) ++ ".<locals>." ++ "<lambda>")) ∈ Λ) (hu1 : ∀ p ∈ Λ, p.1 = Pt → p.2 = (("_law_asked" : Str) ++ ".<locals>." ++ "<lambda>"))
    (T : T8 P K mg C CR CN CB) (G : G7 false Λ P w K mg base C CR CT CN CB) : GOk true P w K mg base 10 f fd ["box", "stead", "title"] (sp_asked Λ C CR) := by
  refine g_ofC F sc__law_asked (fun vs H Q E h => ?_) (fun A outer s H vs Q E hA hr h => ?_)
  · obtain ⟨g, z, rfl, _⟩ := h
    rfl
  · obtain ⟨g, z, rfl, hW, hz, hTab, k⟩ := h
    have hu := hu_of hr
    obtain ⟨cP, cR, n1, n2, n3, n4, n5, n6, n7⟩ := T.toTP
    refine ⟨_, (pss_cons (ps_set (i := 3) sc__law_asked.nd rfl (.inl rfl) (pe_g G.law_seen (by first | exact hA | exact fun z => nomatch z) (hr.mono (by first | decide | omega)) rfl passL (pa_cons (pv 0) (pa_cons (pv 2) pa_nil))))
      (pss_cons (ps_set (i := 4) sc__law_asked.nd rfl (.inl rfl) (pe_ifExp (pt_cmpR (op_neNilT hr.units0) (pv 3) (pe_tup pa_nil) (nomark _)) (pe_tup (pa_cons pe_str (pa_cons (pe_ix ix_tup (pv 3) pe_int (fun _ _ => rfl)) pa_nil))) (pe_tup (pa_cons pe_str (pa_cons (pv 2) pa_nil)))))
      (pss_cons (ps_if (pt_cmpR op_ne (pe_callB (call_reprD (hA rfl) hr.units) (by rfl) T.b_repr (by decide +kernel) (pa_cons (Z.pe_res (k := 6) G.law_result rfl TB rfl hmT hu1 (hr.mono (by first | decide | omega)) (LamX.lamS_by (sc := defScope s__law_asked) (by decide +kernel)) rfl (fun _ _ _ _ _ => rfl) (fun A outer s H E f c' hrl => (pe_gm G.Places_read T.cP (by first | exact hA | exact fun z => nomatch z) (hrl.mono (by first | decide | omega)) (Z.passY (E := E) rfl rfl rfl rfl) (pv 1) (pa_cons (pv 2) pa_nil)))) pa_nil)) (pe_callB (call_reprD (hA rfl) hr.units) (by rfl) T.b_repr (by decide +kernel) (pa_cons (pv 4) pa_nil)) (nomark _))
      (pss_one (ps_ret pe_bl))
      pss_nil)
      (pss_one (ps_ret (pe_cmpR op_eq (pe_callB (call_reprD (hA rfl) hr.units) (by rfl) T.b_repr (by decide +kernel) (pa_cons (pe_gm G.Places_has T.cP (by first | exact hA | exact fun z => nomatch z) (hr.mono (by first | decide | omega)) passL (pv 1) (pa_cons (pv 2) pa_nil)) pa_nil)) (pe_callB (call_reprD (hA rfl) hr.units) (by rfl) T.b_repr (by decide +kernel) (pa_cons (pe_cmpR (op_neNilT hr.units0) (pv 3) (pe_tup pa_nil) (nomark _)) pa_nil)) (nomark _))))))), ?_⟩
    walk_at "rr"
    refine ⟨g, z, rfl, hW.B, fun p H1 hp hF1 => ?_⟩
    rw [hW.seen z] at hp
    have hW1 := hW.keep0 hF1
    have hzn := hW.tn z hz
    obtain ⟨hs1, hs2⟩ := hW1.seenSm z
    have hT1 := hF1.tabs hTab
    cases hs : seenP g.kp g.Rs z with
    | nil =>
      rw [hs] at hp
      walk_at "rr"
      intro e he
      walk_at "rr"
      refine iteF ?_
      walk_at "rr"
      intro q hq
      walk_at "rr"
      have hFq : Fr Λ [] H1 (L2.upd (L2.upd H1 e (.tup [])) q (.tup [.str "no place", .str z])) := by walk_at "fr"
      have hq1 : L2.upd (L2.upd H1 e (.tup [])) q (.tup [.str "no place", .str z]) q = some (.tup [.str "no place", .str z]) := upd_same
      have hp1 := hFq.tup hp
      generalize L2.upd (L2.upd H1 e (.tup [])) q (.tup [.str "no place", .str z]) = H2 at hFq hq1 hp1 ⊢
      have hW2 := hW1.keep0 hFq
      refine rd_res (hFq.tabs hT1) fun H3 hF3 Q' hQ' => ?_
      have hW3 := hW2.keep0 hF3
      have i1 := hW3.P.ins
      walk_at "rr"
      refine ⟨g.pl, g.dx, g.hd, g.md, g.kp, g.Rs, g.tn, z, rfl, hzn, hW3.P, fun v vs H' hv => ?_, fun d H4 _ hF4 hd => ?_⟩
      · rw [hs] at hv
        cases hv
      refine .inl ⟨rfl, d, z, rfl, upd_same, fun H5 r hF5 hr => ?_⟩
      have hF25 : Fr Λ [] H2 H5 := ((hF3.trans hF4).new hd).trans hF5
      have hq5 := hF25.tup hq1
      have hp5 := hF25.tup hp1
      have hW5 := hW2.keep0 hF25
      have i1 := hW5.P.ins
      walk_at "rr"
      refine rd_reprP hr (by decide +kernel) (.str z) (.leaf _ _ (nm_leaf hzn)) ?_
      walk_at "rr"
      refine rd_reprP hq5 (by decide +kernel) (.str z) (.leaf _ _ (nm_leaf hzn)) ?_
      walk_at "rr"
      refine rd_iten (fun h => absurd rfl h) (fun _ => ?_)
      walk_at "rr"
      refine ⟨g.pl, g.dx, g.hd, g.md, g.kp, g.Rs, g.tn, z, rfl, Nat.le_trans (nm_short hzn) (by decide), hW5.P, fun H6 hF6 => ?_⟩
      rw [hs, hzn]
      have hp6 := hF6.tup hp5
      walk_at "rr"
      refine rd_reprB ?_
      walk_at "rr"
      intro e2 he2
      walk_at "rr"
      refine rd_reprB ?_
      walk_at "rr"
      show Q (.bl (decide (PyData.shown (.bool false) = PyData.shown (.bool false)))) _
      rw [decide_eq_true rfl]
      exact k _ ((((hF1.trans hFq).trans hF25).trans hF6).new he2)
    | cons v vs =>
      obtain rfl : vs = [] := by
        rw [hs] at hs1
        cases vs with
        | nil => rfl
        | cons _ _ => simp at hs1
      rw [hs] at hp
      obtain ⟨dv, hdt, hvl⟩ := hs2 v (by rw [hs]; simp)
      walk_at "rr"
      intro e he
      walk_at "rr"
      refine iteT ?_
      walk_at "rr"
      intro q hq
      walk_at "rr"
      have hFq : Fr Λ [] H1 (L2.upd (L2.upd H1 e (.tup [])) q (.tup [.str "gave", v])) := by walk_at "fr"
      have hq1 : L2.upd (L2.upd H1 e (.tup [])) q (.tup [.str "gave", v]) q = some (.tup [.str "gave", v]) := upd_same
      have hp1 := hFq.tup hp
      generalize L2.upd (L2.upd H1 e (.tup [])) q (.tup [.str "gave", v]) = H2 at hFq hq1 hp1 ⊢
      have hW2 := hW1.keep0 hFq
      refine rd_res (hFq.tabs hT1) fun H3 hF3 Q' hQ' => ?_
      have hW3 := hW2.keep0 hF3
      have i1 := hW3.P.ins
      walk_at "rr"
      refine ⟨g.pl, g.dx, g.hd, g.md, g.kp, g.Rs, g.tn, z, rfl, hzn, hW3.P, fun v' vs' H4 hv hF4 => ?_, fun d H' hv => ?_⟩
      rotate_left
      · rw [hs] at hv
        cases hv
      rw [hs] at hv
      obtain ⟨rfl, _⟩ := List.cons.inj hv
      refine hQ' _ _ fun H5 r hF5 hr => ?_
      have hF25 : Fr Λ [] H2 H5 := (hF3.trans hF4).trans hF5
      have hq5 := hF25.tup hq1
      have hp5 := hF25.tup hp1
      have hW5 := hW2.keep0 hF25
      have i1 := hW5.P.ins
      have hdt5 := (hdt.fr hFq).fr hF25
      walk_at "rr"
      refine rd_reprP hr (by decide +kernel) hdt5 hvl ?_
      walk_at "rr"
      refine rd_reprP hq5 (by decide +kernel) hdt5 hvl ?_
      walk_at "rr"
      refine rd_iten (fun h => absurd rfl h) (fun _ => ?_)
      walk_at "rr"
      refine ⟨g.pl, g.dx, g.hd, g.md, g.kp, g.Rs, g.tn, z, rfl, Nat.le_trans (nm_short hzn) (by decide), hW5.P, fun H6 hF6 => ?_⟩
      rw [hs, hzn]
      have hp6 := hF6.tup hp5
      walk_at "rr"
      refine rd_reprB ?_
      walk_at "rr"
      intro e2 he2
      walk_at "rr"
      refine rd_reprB ?_
      walk_at "rr"
      show Q (.bl (decide (PyData.shown (.bool true) = PyData.shown (.bool true)))) _
      rw [decide_eq_true rfl]
      exact k _ ((((hF1.trans hFq).trans hF25).trans hF6).new he2)
end
end Z

end
section
local macro_rules | `(tactic| walk_at "ne") => `(tactic| first
  | assumption
  | (refine Z.ne_sym ?_; assumption)
  | (refine' Z.ne_new ?ka ?kb; (case ka => assumption); (case kb => walk_at "h"))
  | (refine' Z.ne_sym (Z.ne_new ?ka ?kb); (case ka => assumption); (case kb => walk_at "h"))
  | ((with_reducible refine' Z.ne_nw ?ka ?kb ?kc); (case ka => assumption); (case kb => walk_at "h"); (case kc => rfl))
  | ((with_reducible refine' Z.ne_sym (Z.ne_nw ?ka ?kb ?kc)); (case ka => assumption); (case kb => walk_at "h"); (case kc => rfl))
  | exact L2.ne_of (by assumption) (by assumption) (by intro z; cases z)
  | exact Z.ne_sym (L2.ne_of (by assumption) (by assumption) (by intro z; cases z)))
local macro_rules | `(tactic| walk_at "nm") => `(tactic| first
  | exact Z.nm_nil
  | exact Z.nm_cons (by walk_at "ne") (by walk_at "nm"))
local macro_rules | `(tactic| walk_at "h") => `(tactic| first
  | assumption
  | exact L2.upd_same
  | ((with_reducible refine' Eq.trans (L2.upd_ne ?ka) ?kb); (case ka => walk_at "ne"); (case kb => walk_at "h"))
  | ((with_reducible refine' Z.Fr.at ?ka ?kb ?kc ?kd); (case ka => assumption); (case kb => walk_at "h"); (case kc => walk_at "nm"); (case kd => rfl))
  | ((with_reducible refine' Z.Fr.tup ?ka ?kb); (case ka => assumption); (case kb => walk_at "h")))
local macro_rules | `(tactic| walk_at "free") => `(tactic| first
  | assumption
  | exact Z.Nw.of (by assumption)
  | ((with_reducible refine' Z.Fr.free ?ka ?kb); (case ka => assumption); (case kb => walk_at "free")))
local macro_rules | `(tactic| walk_at "ms") => `(tactic| first
  | exact Or.inl List.mem_cons_self
  | exact Or.inl (List.mem_cons_of_mem _ List.mem_cons_self)
  | (left; simp; done)
  | (right; walk_at "free"))
local macro_rules | `(tactic| walk_at "sub") => `(tactic| first
  | exact Z.sub_nil
  | ((with_reducible refine' Z.sub_cons ?ka ?kb); (case ka => walk_at "ms"); (case kb => walk_at "sub")))
local macro_rules | `(tactic| walk_at "fr") => `(tactic| first
  | assumption
  | exact Z.Fr.refl _ _
  | ((with_reducible refine' Z.Fr.new ?ka ?kb); (case kb => assumption); (case ka => walk_at "fr"))
  | ((with_reducible refine' Z.Fr.upd ?ka ?kb ?kc ?kd ?ke); (case kb => walk_at "ms"); (case kc => walk_at "h"); (case kd => rfl); (case ke => rfl); (case ka => walk_at "fr"))
  | ((with_reducible refine' Z.Fr.step ?ka ?kb ?kc); (case ka => assumption); (case kb => walk_at "fr"); (case kc => walk_at "sub")))
local macro_rules | `(tactic| walk_at "dt") => `(tactic| first
  | assumption
  | (refine Z.DT.new ?_ (by assumption); walk_at "dt")
  | (refine Z.DTs.new ?_ (by assumption); walk_at "dt")
  | (refine' Z.DT.wr ?ka ?kb ?kc; (case kb => walk_at "h"); (case kc => rfl); (case ka => walk_at "dt"))
  | (refine' Z.DTs.wr ?ka ?kb ?kc; (case kb => walk_at "h"); (case kc => rfl); (case ka => walk_at "dt"))
  | (refine' Z.DT.fr ?ka ?kb; (case kb => assumption); (case ka => walk_at "dt"))
  | (refine' Z.DTs.fr ?ka ?kb; (case kb => assumption); (case ka => walk_at "dt")))
local macro_rules | `(tactic| walk_at "len") => `(tactic| first
  | exact Z.lt_ok (Nat.le_of_ble_eq_true (by with_unfolding_all rfl))
  | exact Z.le_ok (Nat.le_of_ble_eq_true (by with_unfolding_all rfl))
  | (apply Z.lt_ok; (try simp only [List.length_append, List.length_cons, List.length_nil, List.length_map, List.length_set, List.length_eraseIdx] at *); omega)
  | (apply Z.le_ok; (try simp only [List.length_append, List.length_cons, List.length_nil, List.length_map, List.length_set, List.length_eraseIdx] at *); omega))
local macro_rules | `(tactic| walk_at "r") => `(tactic| first
  | (with_reducible refine Z.rd_seq ?_)
  | (with_reducible refine Z.rd_asg ?_)
  | (with_reducible refine Z.rd_gname ?_)
  | (with_reducible refine Z.rd_ifs ?_)
  | (with_reducible refine Z.rd_next ?_)
  | (with_reducible refine Z.rd_and ?_)
  | (with_reducible refine Z.rd_or ?_)
  | (with_reducible refine Z.rd_not ?_)
  | (with_reducible refine Z.rd_test ?_)
  | (with_reducible refine Z.rd_tb ?_)
  | (with_reducible refine Z.rd_bl ?_)
  | (with_reducible refine Z.rd_op ?_)
  | (with_reducible refine Z.rd_c ?_)
  | ((with_reducible refine' Z.rd_var ?ka ?_); (case ka => with_unfolding_all rfl))
  | (with_reducible refine Z.rd_ret ?_)
  | (with_reducible refine Z.rd_retn ?_)
  | (with_reducible refine Z.rd_drop ?_)
  | (with_reducible refine Z.rd_nil ?_)
  | (with_reducible refine Z.rd_cons ?_)
  | (with_reducible refine Z.rd_cb ?_)
  | (with_reducible refine Z.rd_call ?_)
  | (with_reducible refine Z.rd_dget0 ?_)
  | ((with_reducible refine' Z.rd_dget1 ?ka ?kb ?_); (case ka => walk_at "h"); (case kb => with_unfolding_all rfl))
  | (with_reducible refine Z.rd_dput0 ?_)
  | ((with_reducible refine' Z.rd_dput1 ?ka ?kb ?_); (case ka => walk_at "h"); (case kb => walk_at "len"))
  | (with_reducible refine Z.rd_eqi ?_)
  | (with_reducible refine Z.rd_eqs ?_)
  | (with_reducible refine Z.rd_nei ?_)
  | (with_reducible refine Z.rd_nes ?_)
  | (with_reducible refine Z.rd_i0 ?_)
  | (with_reducible refine Z.rd_lst ?_)
  | (with_reducible refine Z.rd_tup ?_)
  | (with_reducible refine Z.rd_ifx ?_)
  | (with_reducible refine Z.rd_bm ?_)
  | (with_reducible refine Z.rd_bm0 ?_)
  | ((with_reducible refine' Z.rd_nil2 ?ka ?kb ?_); (case ka => walk_at "h"); (case kb => walk_at "h"))
  | ((with_reducible refine' Z.rd_nil2T ?ka ?kb ?_); (case ka => walk_at "h"); (case kb => walk_at "h"))
  | (with_reducible refine Z.rd_int1 ?_)
  | ((with_reducible refine' Z.rd_size ?ka ?_); (case ka => walk_at "len"))
  | ((with_reducible refine' Z.rd_tylist ?ka ?_); (case ka => walk_at "h"))
  | ((with_reducible refine' Z.rd_i ?ka ?_); (case ka => walk_at "num"))
  | ((with_reducible refine' Z.rd_append ?ka ?kb ?_); (case ka => walk_at "h"); (case kb => walk_at "len"))
  | (with_reducible refine Z.rd_for' ?_)
  | (with_reducible refine Z.rd_lc' ?_)
  | (with_reducible refine Z.rd_un ?_)
  | (with_reducible refine Z.rd_gm ?_)
  | (with_reducible refine Z.rd_xk ?_)
  | (with_reducible refine Z.rd_stard ?_)
  | ((with_reducible refine' Z.rd_stard1 ?ka ?_); (case ka => walk_at "h"))
  | (with_reducible refine Z.rd_star ?_)
  | ((with_reducible refine' Z.rd_star1 ?ka ?_); (case ka => walk_at "h"))
  | (with_reducible refine Z.rd_dc' ?_)
  | (with_reducible refine Z.rd_dnew ?_)
  | (with_reducible refine Z.rd_dpop ?_)
  | ((with_reducible refine' Z.rd_isd ?ka ?_); (case ka => walk_at "h"))
  | (with_reducible refine Z.rd_fldaug ?_)
  | (with_reducible refine Z.rd_ilt ?_)
  | (with_reducible refine Z.rd_mko ?_)
  | (with_reducible refine Z.rd_gk ?_)
  | (with_reducible refine Z.rd_gp ?_)
  | ((with_reducible refine' Z.rd_ins1 ?ka ?_); (case ka => walk_at "h"))
  | (with_reducible refine Z.rd_disp ?_)
  | (with_reducible refine Z.rd_pnil ?_)
  | (with_reducible refine Z.rd_pcons ?_)
  | (with_reducible refine Z.rd_m1 ?_)
  | (with_reducible refine Z.rd_isstr ?_)
  | (with_reducible refine Z.rd_sl ?_)
  | (with_reducible refine Z.rd_nopart ?_)
  | (with_reducible refine Z.rd_part ?_)
  | (with_reducible refine Z.rd_part1 ?_)
  | (with_reducible refine Z.rd_u ?_)
  | (with_reducible refine Z.rd_ilist ?_)
  | (with_reducible refine Z.rd_itup ?_)
  | (with_reducible refine Z.rd_istr ?_)
  | (with_reducible refine Z.rd_irng1 ?_)
  | (with_reducible refine Z.rd_yes ?_)
  | (with_reducible refine Z.rd_sfld0 ?_)
  | (with_reducible refine Z.rd_fld0 ?_)
  | (with_reducible refine Z.rd_din ?_)
  | (with_reducible refine Z.rd_dnotin ?_)
  | (with_reducible refine Z.rd_isn ?_)
  | (with_reducible refine Z.rd_notn ?_)
  | (with_reducible refine Z.rd_par ?_)
  | (with_reducible refine Z.rd_par1 ?_)
  | (with_reducible refine Z.rd_gnil ?_)
  | (with_reducible refine Z.rd_gcons ?_)
  | (with_reducible refine Z.rd_chain ?_)
  | (with_reducible refine Z.rd_andv ?_)
  | (with_reducible refine Z.rd_orv ?_)
  | (with_reducible refine Z.rd_notv ?_)
  | (with_reducible refine Z.rd_meth ?_)
  | (with_reducible refine Z.rd_while ?_)
  | ((with_reducible refine' Z.rd_ixl ?ka ?kb ?_); (case ka => walk_at "h"); (case kb => walk_at "ati"))
  | ((with_reducible refine' Z.rd_ixt ?ka ?kb ?_); (case ka => walk_at "h"); (case kb => walk_at "ati"))
  | ((with_reducible refine' Z.rd_len ?ka ?_); (case ka => walk_at "h"))
  | ((with_reducible refine' Z.rd_lens ?ka ?_); (case ka => walk_at "h"))
  | ((with_reducible refine' Z.rd_lent ?ka ?_); (case ka => walk_at "h"))
  | ((with_reducible refine' Z.rd_lstof ?ka ?_); (case ka => walk_at "h"))
  | ((with_reducible refine' Z.rd_tupof ?ka ?_); (case ka => walk_at "h"))
  | ((with_reducible refine' Z.rd_sfld1 ?ka ?kb ?kc ?kd ?_); (case ka => walk_at "h"); (case kb => assumption); (case kc => assumption); (case kd => (first | (with_unfolding_all decide) | exact Nat.le_of_ble_eq_true (by with_unfolding_all rfl))))
  | ((with_reducible refine' Z.rd_fld1 ?ka ?kb ?kc ?kd ?_); (case ka => walk_at "h"); (case kb => assumption); (case kc => assumption); (case kd => with_unfolding_all rfl))
  | ((with_reducible refine' Z.rd_din1 ?ka ?_); (case ka => walk_at "h"))
  | ((with_reducible refine' Z.rd_gtup ?ka ?kb ?_); (case ka => walk_at "h"); (case kb => with_unfolding_all rfl))
  | ((with_reducible refine' Z.rd_catl ?ka ?kb ?kc ?_); (case ka => walk_at "h"); (case kb => walk_at "h"); (case kc => walk_at "len"))
  | ((with_reducible refine' Z.rd_meth1 ?ka ?kb ?_); (case ka => walk_at "h"); (case kb => with_unfolding_all rfl))
  | ((with_reducible refine' Z.rd_addstr ?ka ?_); (case ka => walk_at "len")))
local macro_rules | `(tactic| walk_at "ati") => `(tactic| first
  | assumption
  | (with_unfolding_all rfl)
  | exact L2.atI_nat (by assumption)
  | exact L2.atI_nat (by with_unfolding_all rfl)
  | exact L2.atI_last _ _)
local macro_rules | `(tactic| walk_at "rr") => `(tactic| repeat (walk_at "r"))
local macro_rules | `(tactic| walk_at "num") => `(tactic| first
  | (with_unfolding_all decide)
  | (show (_ : Int) ≠ 0; omega)
  | (show (_ : Int) ≠ 0 ∧ _ < 1073741824; exact ⟨by omega, by omega⟩)
  | (show (0 : Int) ≤ _ ∧ _ ≤ (1000000 : Int) ∧ _; exact ⟨by decide, by decide, by omega⟩)
  | (show (-(2 ^ 64) < (_ : Int) ∧ _ < 2 ^ 64) ∨ _; (first | (left; exact ⟨by omega, by omega⟩) | (right; exact ⟨by omega, by omega⟩)))
  | omega)
namespace Z
open PySem PySem.Spec PyProof.Rows L2
abbrev s__law_all_right : Stmt := top 29
abbrev n__law_all_right : List Str := ["box", "stead", "titles", "title", "every", "spot"]
theorem sc__law_all_right : FnScope n__law_all_right ["box", "stead", "titles"] (defScope s__law_all_right) := ⟨rfl, rfl, rfl, by decide +kernel, rfl, by decide +kernel, by decide +kernel⟩
theorem strs_dt (H : Hp) : ∀ l : List Str, DTs H (l.map V.str) (l.map PyData.str)
  | [] => .nil
  | x :: l => .cons (.str x) (strs_dt H l)
theorem nm_ok {z : Str} (h : nmB z = true) : PyData.strOk z = true := by
  have := nm_leaf h
  simp only [leafB, Bool.and_eq_true] at this
  exact this.2
theorem strs_lay : ∀ l : List Str, (∀ x ∈ l, nmB x = true) → PyData.canLayAll0 (l.map PyData.str) = true ∧ PyData.depthAll (l.map PyData.str) = 0
  | [], _ => ⟨rfl, rfl⟩
  | x :: l, h => by
    obtain ⟨a, b⟩ := strs_lay l fun y hy => h y (by simp [hy])
    refine ⟨?_, ?_⟩
    · simp only [List.map_cons, PyData.canLayAll0, PyData.canLay0, a, nm_ok (h x (by simp))]; rfl
    · simp only [List.map_cons, PyData.depthAll, PyData.depth, b]; rfl
theorem strs_can {l : List Str} (h : ∀ x ∈ l, nmB x = true) : (PyData.tuple (l.map PyData.str)).canLay0 = true := by
  simp only [PyData.canLay0]; exact (strs_lay l h).1
theorem strs_shaped {l : List Str} (h : ∀ x ∈ l, nmB x = true) : SeqAt.shaped (.tuple (l.map PyData.str)) = true := by
  unfold SeqAt.shaped
  rw [strs_can h]
  have : (PyData.tuple (l.map PyData.str)).depth = 1 := by simp only [PyData.depth, (strs_lay l h).2]
  rw [this]
  decide
/-- what is seen stands somewhere -/
theorem seen_in {kp : List (L2.Key × V)} {Rs : List Rp} {z : Str} (hk : ∀ p ∈ kp, ∃ y, p.1 = .inr y) (h : seenP kp Rs z ≠ []) : z ∈ keysOf kp ∨ ∃ R ∈ Rs, R.z = z := by
  have hP : GoodP z (valV kp (.inr z)).toList Rs (Rs.foldl (stepP z) ((valV kp (.inr z)).toList, 0)) := goodP Rs [] _ (.inl ⟨rfl, fun R h => nomatch h⟩)
  unfold seenP at h
  rcases hP with ⟨e, _⟩ | ⟨R, hR, hz, _⟩
  · rw [e] at h
    cases hv : valV kp (.inr z) with
    | none => rw [hv] at h; exact absurd rfl h
    | some v =>
      have := valV_in hv
      rw [keysOf_map hk] at this
      obtain ⟨y, hy, e2⟩ := List.mem_map.mp this
      injection e2 with e2
      exact .inl (e2 ▸ hy)
  · exact .inr ⟨R, hR, hz⟩
theorem flat_ints (l : List Nat) : (l.map fun (i : Nat) => V.int (i : Int)).all flatV = true := by
  rw [List.all_eq_true]
  intro v hv
  obtain ⟨i, _, rfl⟩ := List.mem_map.mp hv
  rfl
theorem inV_int {i : Nat} {l : List Nat} : inV (.int (i : Int)) (l.map fun (i : Nat) => V.int (i : Int)) = decide (i ∈ l) := by
  unfold inV
  rw [Bool.eq_iff_iff, List.any_eq_true, decide_eq_true_eq]
  constructor
  · rintro ⟨v, hv, e⟩
    obtain ⟨y, hy, rfl⟩ := List.mem_map.mp hv
    have e2 : ((y : Int) == (i : Int)) = true := e
    have : y = i := by have := beq_iff_eq.mp e2; omega
    rw [← this]; exact hy
  · intro h
    exact ⟨_, List.mem_map.mpr ⟨i, h, rfl⟩, by simp [eqV]⟩
def sp_right (Λ : List (Addr × Str)) (C CR : Addr) : Sp := fun vs H Q _ => ∃ (g : Wg) (tl : Addr), vs = [.ref g.bx, .ref g.pl, .ref tl] ∧ Wd C CR H g ∧ H tl = some (.lst (g.ts.map V.str)) ∧ LamX.Tabs Λ H ∧ ∀ H', Fr Λ [] H H' → Q (.bl true) H'
structure G8 (Λ : List (Addr × Str)) (P : Program) (w : World) (K : PySem.W.Frag) (mg : Str → Option Value) (base : Heap) (C CR : Addr) : Prop where
  law_seen : GD false P w K mg base "_law_seen" ["box", "title"] 1 (sp_lseen Λ)
  law_asked : GD true P w K mg base "_law_asked" ["box", "stead", "title"] 10 (sp_asked Λ C CR)
  Places_names : GM false P w K mg base C "names" 4 (sp_names2 Λ C CR)
  Replacement_in_force : GP false P w K mg base CR "in_force" 1 (sp_in_force C CR)
section
variable {Λ : List (Addr × Str)} {P : Program} {w : World} {K : PySem.W.Frag} {mg : Str → Option Value} {base : Heap} {C CR CT CN CB : Addr}
theorem ok_right {f : Addr} {fd : FuncData} (F : Fun K "_law_all_right" "_law_all_right" s__law_all_right f fd) (T : T8 P K mg C CR CN CB) (G : G8 Λ P w K mg base C CR) : GOk true P w K mg base 11 f fd ["box", "stead", "titles"] (sp_right Λ C CR) := by
  refine g_of F sc__law_all_right (fun vs H Q E h => ?_) (fun cdv A outer s H vs Q E hA hr h => ?_)
  · obtain ⟨g, tl, rfl, _⟩ := h
    rfl
  · obtain ⟨g, tl, rfl, hW, htl, hTab, k⟩ := h
    have hu := hu_of hr
    obtain ⟨cP, cR, n1, n2, n3, n4, n5, n6, n7⟩ := T.toTP
    refine ⟨_, (pss_cons (ps_set (i := 4) sc__law_all_right.nd rfl (.inl rfl) (pe_callTy call_tuple_of (by rfl) T.b_tuple (by decide +kernel) (pa_cons (pe_lc (own := [("title", 3)]) (g := gName 3) (tt := _) rfl sc__law_all_right.nd (pi_list (pe_callB cr_sortedS (by rfl) T.b_sorted (by decide +kernel) (pa_cons (pv 2) pa_nil))) (blkOk_by (own := [("title", 3)]) (N := n__law_all_right) (sc := defScope s__law_all_right) (by decide +kernel)) (fun _ _ _ _ _ => (pg_name (i := 3) sc__law_all_right.nd rfl (.inl rfl))) (fun _ _ _ _ _ => (pts_one (pt_cmpR (Z.k_neNilT K hr.units0) (pe_g G.law_seen (by first | exact hA | exact fun z => nomatch z) (hr.mono (by first | decide | omega)) rfl passL (pa_cons (pv 0) (pa_cons (pv 3) pa_nil))) (pe_tup pa_nil) (nomark _)))) (fun _ _ _ _ _ => (pv 3))) pa_nil)))
      (pss_cons (ps_if (PW.pt (pw_or (pt_cmpR (op_neD hr.units) (pe_gm0 G.Places_names T.cP (by first | exact hA | exact fun z => nomatch z) (hr.mono (by first | decide | omega)) passL (pv 1)) (pv 4) (nomark _)) (pw_or1 (pt_cmpR (op_neNil hr.units0) (pe_lc (own := [("title", 3)]) (g := gName 3) (tt := _) rfl sc__law_all_right.nd (pi_list (pv 2)) (blkOk_by (own := [("title", 3)]) (N := n__law_all_right) (sc := defScope s__law_all_right) (by decide +kernel)) (fun _ _ _ _ _ => (pg_name (i := 3) sc__law_all_right.nd rfl (.inl rfl))) (fun _ _ _ _ _ => (pts_one (pt_not (pt_val (pe_g G.law_asked (by first | exact hA | exact fun z => nomatch z) (hr.mono (by first | decide | omega)) rfl passL (pa_cons (pv 0) (pa_cons (pv 1) (pa_cons (pv 3) pa_nil)))))))) (fun _ _ _ _ _ => (pv 3))) (pe_lst pa_nil) (nomark _)))))
      (pss_one (ps_ret pe_bl))
      pss_nil)
      (pss_cons (ps_for (passes_of rfl) rfl (pi_range1 rfl T.b_range (pa_cons (pe_callB call_len_seq (by rfl) T.b_len (by decide +kernel) (pa_cons (pe_dget hu (pv 0) pe_str (fun _ _ => rfl)) pa_nil)) pa_nil)) (pg_name (i := 5) sc__law_all_right.nd rfl (.inl rfl))
      (pss_one (ps_if (pt_cmpR op_ne (pe_callB (call_reprD (hA rfl) hr.units) (by rfl) T.b_repr (by decide +kernel) (pa_cons (pe_gp G.Replacement_in_force T.cR (by first | exact hA | exact fun z => nomatch z) (hr.mono (by first | decide | omega)) (pe_ix ix_tup (pe_ix ix_list (pe_dget hu (pv 0) pe_str (fun _ _ => rfl)) (pv 5) (fun _ _ => rfl)) pe_int (fun _ _ => rfl)) rfl) pa_nil)) (pe_callB (call_reprD (hA rfl) hr.units) (by rfl) T.b_repr (by decide +kernel) (pa_cons (pe_cmpR op_in_seq (pv 5) (pe_dget hu (pv 0) pe_str (fun _ _ => rfl)) rfl) pa_nil)) (nomark _))
      (pss_one (ps_ret pe_bl))
      pss_nil)))
      (pss_one (ps_ret pe_bl))))), ?_⟩
    have htl10 := hW.tl
    have hB := hW.B
    have b1 := hB.box
    unfold bxK at b1
    walk_at "rr"
    refine ⟨tl, g.ts, rfl, SqL.of htl, by omega, fun ys p hperm hsort hp => ?_⟩
    have hF0 : Fr Λ [] H (L2.upd H p (.lst (ys.map V.str))) := (Fr.refl [] H).new hp
    have hLp : ∀ {D2 : Addr} {o : HO}, L2.upd H p (.lst (ys.map V.str)) D2 = none → L2.upd (L2.upd H p (.lst (ys.map V.str))) D2 o p = some (.lst (ys.map V.str)) := fun {D2 o} h => by
      rw [upd_ne (fun e => by rw [← e, upd_same] at h; cases h), upd_same]
    have hylen : ys.length ≤ 10 := by rw [hperm.length_eq]; exact htl10
    refine rd_lcl upd_same fun D hD => ⟨fun i H' => H' D = some (.lst (((ys.take i).filter fun z => !(seenP g.kp g.Rs z).isEmpty).map V.str)) ∧ H' p = some (.lst (ys.map V.str)) ∧ Fr Λ [] H H', ⟨upd_same, hLp hD, hF0.new hD⟩, fun i H' h => h.2.1, ?_, ?_⟩
    · rintro i x H1 hi hx ⟨f1, f2, hF1⟩
      rw [List.length_map] at hi
      have hx2 : (ys.map V.str)[i]? = some (V.str ys[i]) := by simp [hi]
      rw [hx2] at hx
      obtain rfl : V.str ys[i] = x := Option.some.inj hx
      have htk : ys.take (i + 1) = ys.take i ++ [ys[i]] := by rw [List.take_add_one, List.getElem?_eq_getElem hi]; rfl
      have hfl : ∀ b : Bool, (!(seenP g.kp g.Rs ys[i]).isEmpty) = b → (ys.take (i + 1)).filter (fun z => !(seenP g.kp g.Rs z).isEmpty) = (ys.take i).filter (fun z => !(seenP g.kp g.Rs z).isEmpty) ++ if b = true then [ys[i]] else [] := fun b hb => by
        rw [htk, List.filter_append]
        cases b with
        | true => rw [List.filter_cons_of_pos (p := fun z => !(seenP g.kp g.Rs z).isEmpty) hb]; rfl
        | false => rw [List.filter_cons_of_neg (p := fun z => !(seenP g.kp g.Rs z).isEmpty) (by simpa using hb)]; rfl
      have hW1 := hW.keep0 hF1
      walk_at "rr"
      refine ⟨rfl, ?_⟩
      walk_at "rr"
      refine ⟨g, ys[i], rfl, hW1.B, fun q H2 hq hF2 => ?_⟩
      rw [hW1.seen] at hq
      have f12 := hF2.at f1 nm_nil rfl
      have f22 := hF2.at f2 nm_nil rfl
      walk_at "rr"
      intro e he
      walk_at "rr"
      have f13 := (show L2.upd H2 e (.tup []) D = H2 D from upd_ne (ne_of_none f12 he)).trans f12
      have f23 := (show L2.upd H2 e (.tup []) p = H2 p from upd_ne (ne_of_none f22 he)).trans f22
      have hF3 : Fr Λ [] H (L2.upd H2 e (.tup [])) := (hF1.trans hF2).new he
      have hDp : p ≠ D := fun z => by rw [← z, upd_same] at hD; cases hD
      refine rd_iteb (fun h => ?_) (fun h => ?_)
      · walk_at "rr"
        refine ⟨_, f13, lt_ok ?_, ?_, ?_, ?_⟩
        · rw [List.length_map]
          exact Nat.le_trans (List.length_filter_le ..) (by rw [List.length_take]; omega)
        · rw [upd_same, hfl true (by simpa using h), List.map_append]; rfl
        · rw [upd_ne hDp]; exact f23
        · exact hF3.upd (.inr (hF0.free (.of hD))) f13 rfl
      · refine ⟨?_, f23, hF3⟩
        rw [hfl false (by simpa using h), if_neg Bool.false_ne_true, List.append_nil]
        exact f13
    · rintro H1 ⟨f1, f2, hF1⟩
      rw [List.length_map, List.take_length] at f1
      walk_at "rr"
      intro ev hev
      walk_at "rr"
      have hev1 : L2.upd H1 ev (.tup ((ys.filter fun z => !(seenP g.kp g.Rs z).isEmpty).map V.str)) ev = some (.tup ((ys.filter fun z => !(seenP g.kp g.Rs z).isEmpty).map V.str)) := upd_same
      have hF2 : Fr Λ [] H (L2.upd H1 ev (.tup ((ys.filter fun z => !(seenP g.kp g.Rs z).isEmpty).map V.str))) := hF1.new hev
      generalize L2.upd H1 ev (.tup ((ys.filter fun z => !(seenP g.kp g.Rs z).isEmpty).map V.str)) = H2 at hev1 hF2 ⊢
      have hW2 := hW.keep0 hF2
      have i1 := hW2.P.ins
      walk_at "rr"
      refine ⟨g.pl, g.dx, g.hd, g.md, g.kp, g.Rs, g.tn, g.ts, rfl, hW2.P, by omega, hW.tn, hW.kin, hW.rin, fun q ys2 H3 hsort2 hnd2 hmem2 hq hF3 => ?_⟩
      have hyn : ys.Nodup := hperm.nodup_iff.mpr hW.td
      have hnm : ∀ x ∈ ys.filter (fun z => !(seenP g.kp g.Rs z).isEmpty), nmB x = true := fun x hx => hW.tn x (hperm.mem_iff.mp (List.mem_filter.mp hx).1)
      have heq : ys2.filter (fun z => !(seenP g.kp g.Rs z).isEmpty) = ys.filter (fun z => !(seenP g.kp g.Rs z).isEmpty) := by
        refine sorted_eq ((sorted_pw hsort2).filter _) ((sorted_pw hsort).filter _) (hnd2.filter _) (hyn.filter _) fun z => ?_
        rw [List.mem_filter, List.mem_filter, hmem2 z, hperm.mem_iff]
        refine ⟨fun h => ⟨?_, h.2⟩, fun h => ⟨?_, h.2⟩⟩
        · rcases h.1 with h | ⟨R, hR, rfl⟩
          · exact hW.kin z h
          · exact hW.rin R hR
        · exact seen_in hW.P.keys (fun e => by have := h.2; rw [e] at this; cases this)
      rw [heq] at hq
      have hev3 := hF3.tup hev1
      generalize ys.filter (fun z => !(seenP g.kp g.Rs z).isEmpty) = fl at hq hev3 hnm
      walk_at "rr"
      refine ⟨.tuple (fl.map .str), .tuple (fl.map .str), .tup (SqT.of hq) (DTs.dp _ _ (strs_dt H3 fl)), .tup (SqT.of hev3) (DTs.dp _ _ (strs_dt H3 fl)), strs_shaped hnm, strs_shaped hnm, ?_⟩
      rw [SeqAt.eqv_refl _ (strs_can hnm)]
      refine ⟨_, rfl, iteF ?_⟩
      have hF03 : Fr Λ [] H H3 := hF2.trans hF3
      have hW3 := hW.keep0 hF03
      have htl3 := hF03.at htl nm_nil rfl
      walk_at "rr"
      refine rd_lcl htl3 fun D2 hD2 => ⟨fun i H' => H' D2 = some (.lst []) ∧ Fr Λ [] H3 H', ⟨upd_same, (Fr.refl [] H3).new hD2⟩, fun i H' h => h.2.at htl3 nm_nil rfl, ?_, ?_⟩
      · rintro i x H4 hi hx ⟨e1, hF4⟩
        rw [List.length_map] at hi
        have hx2 : (g.ts.map V.str)[i]? = some (V.str g.ts[i]) := by simp [hi]
        rw [hx2] at hx
        obtain rfl : V.str g.ts[i] = x := Option.some.inj hx
        walk_at "rr"
        refine ⟨rfl, ?_⟩
        walk_at "rr"
        refine ⟨g, g.ts[i], rfl, hW3.keep0 hF4, List.getElem_mem hi, hF4.tabs (hF03.tabs hTab), fun H5 hF5 => ⟨_, rfl, iteF ⟨hF5.at e1 nm_nil rfl, hF4.trans hF5⟩⟩⟩
      · rintro H4 ⟨e1, hF4⟩
        have hW4 := hW3.keep0 hF4
        walk_at "rr"
        intro e2 he2
        walk_at "rr"
        refine iteF ?_
        have hF5 : Fr Λ [] H (L2.upd H4 e2 (.lst [])) := (hF03.trans hF4).new he2
        generalize L2.upd H4 e2 (.lst []) = H5 at hF5 ⊢
        have hW5 := hW.keep0 hF5
        have b1 := hW5.B.box
        unfold bxK at b1
        have b3 := hW5.B.bm
        walk_at "rr"
        refine rd_forr (n := g.Ls.length) (by rw [List.length_map]) (by rw [hW.B.ll]; have := hW.P.few.2; omega) (fun i σ H' => ∃ v3 v5 : Option V, σ = [some (.ref g.bx), some (.ref g.pl), some (.ref tl), v3, some (.ref ev), v5] ∧ Fr Λ [] H H') ⟨_, _, rfl, hF5⟩ ?_ ?_
        · rintro i σ H6 hi ⟨v3, v5, rfl, hF6⟩
          have hW6 := hW.keep0 hF6
          have hB6 := hW6.B
          have b1 := hB6.box
          unfold bxK at b1
          have b3 := hB6.bm
          have b4 := hB6.bb
          have hir : i < g.Rs.length := by rw [← hB6.ll]; exact hi
          obtain ⟨R, hR⟩ : ∃ R, g.Rs[i]? = some R := ⟨_, List.getElem?_eq_getElem hir⟩
          obtain ⟨l, hl⟩ : ∃ l, g.Ls[i]? = some l := ⟨_, List.getElem?_eq_getElem hi⟩
          obtain ⟨t1, t2⟩ := hB6.ls i l R hl hR
          have hRr := (hW6.P.rp R (List.mem_of_getElem? hR)).1
          have hat : atI (g.Ls.map fun l => V.ref l.1) (i : Int) = some (V.ref l.1) := atI_nat (by simp [hl])
          walk_at "rr"
          refine ⟨g.pl, R, rfl, hRr, ?_⟩
          walk_at "rr"
          refine rd_reprB ?_
          walk_at "rr"
          refine rd_in b4 rfl (flat_ints _) ?_
          rw [if_neg Bool.false_ne_true, inV_int]
          walk_at "rr"
          refine rd_reprB ?_
          have eb : R.t.isSome = decide (i ∈ g.bg) := by
            have := hW.on i R hR
            by_cases h : i ∈ g.bg
            · rw [decide_eq_true h]; exact this.mpr h
            · rw [decide_eq_false h]
              cases hs : R.t.isSome with
              | false => rfl
              | true => exact absurd (this.mp hs) h
          rw [eb]
          walk_at "rr"
          refine rd_iten (fun h => absurd rfl h) (fun _ => ?_)
          walk_at "rr"
          exact ⟨_, _, rfl, hF6⟩
        · rintro σ H6 ⟨v3, v5, rfl, hF6⟩
          walk_at "rr"
          exact k H6 hF6
end
end Z

end
section
local macro_rules | `(tactic| walk_at "ne") => `(tactic| first
  | assumption
  | (refine Z.ne_sym ?_; assumption)
  | (refine' Z.ne_new ?ka ?kb; (case ka => assumption); (case kb => walk_at "h"))
  | (refine' Z.ne_sym (Z.ne_new ?ka ?kb); (case ka => assumption); (case kb => walk_at "h"))
  | ((with_reducible refine' Z.ne_nw ?ka ?kb ?kc); (case ka => assumption); (case kb => walk_at "h"); (case kc => rfl))
  | ((with_reducible refine' Z.ne_sym (Z.ne_nw ?ka ?kb ?kc)); (case ka => assumption); (case kb => walk_at "h"); (case kc => rfl))
  | exact L2.ne_of (by assumption) (by assumption) (by intro z; cases z)
  | exact Z.ne_sym (L2.ne_of (by assumption) (by assumption) (by intro z; cases z)))
local macro_rules | `(tactic| walk_at "nm") => `(tactic| first
  | exact Z.nm_nil
  | exact Z.nm_cons (by walk_at "ne") (by walk_at "nm"))
local macro_rules | `(tactic| walk_at "h") => `(tactic| first
  | assumption
  | exact L2.upd_same
  | ((with_reducible refine' Eq.trans (L2.upd_ne ?ka) ?kb); (case ka => walk_at "ne"); (case kb => walk_at "h"))
  | ((with_reducible refine' Z.Fr.at ?ka ?kb ?kc ?kd); (case ka => assumption); (case kb => walk_at "h"); (case kc => walk_at "nm"); (case kd => rfl))
  | ((with_reducible refine' Z.Fr.tup ?ka ?kb); (case ka => assumption); (case kb => walk_at "h")))
local macro_rules | `(tactic| walk_at "free") => `(tactic| first
  | assumption
  | exact Z.Nw.of (by assumption)
  | ((with_reducible refine' Z.Fr.free ?ka ?kb); (case ka => assumption); (case kb => walk_at "free")))
local macro_rules | `(tactic| walk_at "ms") => `(tactic| first
  | exact Or.inl List.mem_cons_self
  | exact Or.inl (List.mem_cons_of_mem _ List.mem_cons_self)
  | (left; simp; done)
  | (right; walk_at "free"))
local macro_rules | `(tactic| walk_at "sub") => `(tactic| first
  | exact Z.sub_nil
  | ((with_reducible refine' Z.sub_cons ?ka ?kb); (case ka => walk_at "ms"); (case kb => walk_at "sub")))
local macro_rules | `(tactic| walk_at "fr") => `(tactic| first
  | assumption
  | exact Z.Fr.refl _ _
  | ((with_reducible refine' Z.Fr.new ?ka ?kb); (case kb => assumption); (case ka => walk_at "fr"))
  | ((with_reducible refine' Z.Fr.upd ?ka ?kb ?kc ?kd ?ke); (case kb => walk_at "ms"); (case kc => walk_at "h"); (case kd => rfl); (case ke => rfl); (case ka => walk_at "fr"))
  | ((with_reducible refine' Z.Fr.step ?ka ?kb ?kc); (case ka => assumption); (case kb => walk_at "fr"); (case kc => walk_at "sub")))
local macro_rules | `(tactic| walk_at "dt") => `(tactic| first
  | assumption
  | (refine Z.DT.new ?_ (by assumption); walk_at "dt")
  | (refine Z.DTs.new ?_ (by assumption); walk_at "dt")
  | (refine' Z.DT.wr ?ka ?kb ?kc; (case kb => walk_at "h"); (case kc => rfl); (case ka => walk_at "dt"))
  | (refine' Z.DTs.wr ?ka ?kb ?kc; (case kb => walk_at "h"); (case kc => rfl); (case ka => walk_at "dt"))
  | (refine' Z.DT.fr ?ka ?kb; (case kb => assumption); (case ka => walk_at "dt"))
  | (refine' Z.DTs.fr ?ka ?kb; (case kb => assumption); (case ka => walk_at "dt")))
local macro_rules | `(tactic| walk_at "len") => `(tactic| first
  | exact Z.lt_ok (Nat.le_of_ble_eq_true (by with_unfolding_all rfl))
  | exact Z.le_ok (Nat.le_of_ble_eq_true (by with_unfolding_all rfl))
  | (apply Z.lt_ok; (try simp only [List.length_append, List.length_cons, List.length_nil, List.length_map, List.length_set, List.length_eraseIdx] at *); omega)
  | (apply Z.le_ok; (try simp only [List.length_append, List.length_cons, List.length_nil, List.length_map, List.length_set, List.length_eraseIdx] at *); omega))
local macro_rules | `(tactic| walk_at "r") => `(tactic| first
  | (with_reducible refine Z.rd_seq ?_)
  | (with_reducible refine Z.rd_asg ?_)
  | (with_reducible refine Z.rd_gname ?_)
  | (with_reducible refine Z.rd_ifs ?_)
  | (with_reducible refine Z.rd_next ?_)
  | (with_reducible refine Z.rd_and ?_)
  | (with_reducible refine Z.rd_or ?_)
  | (with_reducible refine Z.rd_not ?_)
  | (with_reducible refine Z.rd_test ?_)
  | (with_reducible refine Z.rd_tb ?_)
  | (with_reducible refine Z.rd_bl ?_)
  | (with_reducible refine Z.rd_op ?_)
  | (with_reducible refine Z.rd_c ?_)
  | ((with_reducible refine' Z.rd_var ?ka ?_); (case ka => with_unfolding_all rfl))
  | (with_reducible refine Z.rd_ret ?_)
  | (with_reducible refine Z.rd_retn ?_)
  | (with_reducible refine Z.rd_drop ?_)
  | (with_reducible refine Z.rd_nil ?_)
  | (with_reducible refine Z.rd_cons ?_)
  | (with_reducible refine Z.rd_cb ?_)
  | (with_reducible refine Z.rd_call ?_)
  | (with_reducible refine Z.rd_dget0 ?_)
  | ((with_reducible refine' Z.rd_dget1 ?ka ?kb ?_); (case ka => walk_at "h"); (case kb => with_unfolding_all rfl))
  | (with_reducible refine Z.rd_dput0 ?_)
  | ((with_reducible refine' Z.rd_dput1 ?ka ?kb ?_); (case ka => walk_at "h"); (case kb => walk_at "len"))
  | (with_reducible refine Z.rd_eqi ?_)
  | (with_reducible refine Z.rd_eqs ?_)
  | (with_reducible refine Z.rd_nei ?_)
  | (with_reducible refine Z.rd_nes ?_)
  | (with_reducible refine Z.rd_i0 ?_)
  | (with_reducible refine Z.rd_lst ?_)
  | (with_reducible refine Z.rd_tup ?_)
  | (with_reducible refine Z.rd_ifx ?_)
  | (with_reducible refine Z.rd_bm ?_)
  | (with_reducible refine Z.rd_bm0 ?_)
  | ((with_reducible refine' Z.rd_nil2 ?ka ?kb ?_); (case ka => walk_at "h"); (case kb => walk_at "h"))
  | ((with_reducible refine' Z.rd_nil2T ?ka ?kb ?_); (case ka => walk_at "h"); (case kb => walk_at "h"))
  | (with_reducible refine Z.rd_int1 ?_)
  | ((with_reducible refine' Z.rd_size ?ka ?_); (case ka => walk_at "len"))
  | ((with_reducible refine' Z.rd_tylist ?ka ?_); (case ka => walk_at "h"))
  | ((with_reducible refine' Z.rd_i ?ka ?_); (case ka => walk_at "num"))
  | ((with_reducible refine' Z.rd_append ?ka ?kb ?_); (case ka => walk_at "h"); (case kb => walk_at "len"))
  | (with_reducible refine Z.rd_for' ?_)
  | (with_reducible refine Z.rd_lc' ?_)
  | (with_reducible refine Z.rd_un ?_)
  | (with_reducible refine Z.rd_gm ?_)
  | (with_reducible refine Z.rd_xk ?_)
  | (with_reducible refine Z.rd_stard ?_)
  | ((with_reducible refine' Z.rd_stard1 ?ka ?_); (case ka => walk_at "h"))
  | (with_reducible refine Z.rd_star ?_)
  | ((with_reducible refine' Z.rd_star1 ?ka ?_); (case ka => walk_at "h"))
  | (with_reducible refine Z.rd_dc' ?_)
  | (with_reducible refine Z.rd_dnew ?_)
  | (with_reducible refine Z.rd_dpop ?_)
  | ((with_reducible refine' Z.rd_isd ?ka ?_); (case ka => walk_at "h"))
  | (with_reducible refine Z.rd_fldaug ?_)
  | (with_reducible refine Z.rd_ilt ?_)
  | (with_reducible refine Z.rd_mko ?_)
  | (with_reducible refine Z.rd_gk ?_)
  | (with_reducible refine Z.rd_gp ?_)
  | ((with_reducible refine' Z.rd_ins1 ?ka ?_); (case ka => walk_at "h"))
  | (with_reducible refine Z.rd_disp ?_)
  | (with_reducible refine Z.rd_pnil ?_)
  | (with_reducible refine Z.rd_pcons ?_)
  | (with_reducible refine Z.rd_m1 ?_)
  | (with_reducible refine Z.rd_isstr ?_)
  | (with_reducible refine Z.rd_sl ?_)
  | (with_reducible refine Z.rd_nopart ?_)
  | (with_reducible refine Z.rd_part ?_)
  | (with_reducible refine Z.rd_part1 ?_)
  | (with_reducible refine Z.rd_u ?_)
  | (with_reducible refine Z.rd_ilist ?_)
  | (with_reducible refine Z.rd_itup ?_)
  | (with_reducible refine Z.rd_istr ?_)
  | (with_reducible refine Z.rd_irng1 ?_)
  | (with_reducible refine Z.rd_yes ?_)
  | (with_reducible refine Z.rd_sfld0 ?_)
  | (with_reducible refine Z.rd_fld0 ?_)
  | (with_reducible refine Z.rd_din ?_)
  | (with_reducible refine Z.rd_dnotin ?_)
  | (with_reducible refine Z.rd_isn ?_)
  | (with_reducible refine Z.rd_notn ?_)
  | (with_reducible refine Z.rd_par ?_)
  | (with_reducible refine Z.rd_par1 ?_)
  | (with_reducible refine Z.rd_gnil ?_)
  | (with_reducible refine Z.rd_gcons ?_)
  | (with_reducible refine Z.rd_chain ?_)
  | (with_reducible refine Z.rd_andv ?_)
  | (with_reducible refine Z.rd_orv ?_)
  | (with_reducible refine Z.rd_notv ?_)
  | (with_reducible refine Z.rd_meth ?_)
  | (with_reducible refine Z.rd_while ?_)
  | ((with_reducible refine' Z.rd_ixl ?ka ?kb ?_); (case ka => walk_at "h"); (case kb => walk_at "ati"))
  | ((with_reducible refine' Z.rd_ixt ?ka ?kb ?_); (case ka => walk_at "h"); (case kb => walk_at "ati"))
  | ((with_reducible refine' Z.rd_len ?ka ?_); (case ka => walk_at "h"))
  | ((with_reducible refine' Z.rd_lens ?ka ?_); (case ka => walk_at "h"))
  | ((with_reducible refine' Z.rd_lent ?ka ?_); (case ka => walk_at "h"))
  | ((with_reducible refine' Z.rd_lstof ?ka ?_); (case ka => walk_at "h"))
  | ((with_reducible refine' Z.rd_tupof ?ka ?_); (case ka => walk_at "h"))
  | ((with_reducible refine' Z.rd_sfld1 ?ka ?kb ?kc ?kd ?_); (case ka => walk_at "h"); (case kb => assumption); (case kc => assumption); (case kd => (first | (with_unfolding_all decide) | exact Nat.le_of_ble_eq_true (by with_unfolding_all rfl))))
  | ((with_reducible refine' Z.rd_fld1 ?ka ?kb ?kc ?kd ?_); (case ka => walk_at "h"); (case kb => assumption); (case kc => assumption); (case kd => with_unfolding_all rfl))
  | ((with_reducible refine' Z.rd_din1 ?ka ?_); (case ka => walk_at "h"))
  | ((with_reducible refine' Z.rd_gtup ?ka ?kb ?_); (case ka => walk_at "h"); (case kb => with_unfolding_all rfl))
  | ((with_reducible refine' Z.rd_catl ?ka ?kb ?kc ?_); (case ka => walk_at "h"); (case kb => walk_at "h"); (case kc => walk_at "len"))
  | ((with_reducible refine' Z.rd_meth1 ?ka ?kb ?_); (case ka => walk_at "h"); (case kb => with_unfolding_all rfl))
  | ((with_reducible refine' Z.rd_addstr ?ka ?_); (case ka => walk_at "len")))
local macro_rules | `(tactic| walk_at "ati") => `(tactic| first
  | assumption
  | (with_unfolding_all rfl)
  | exact L2.atI_nat (by assumption)
  | exact L2.atI_nat (by with_unfolding_all rfl)
  | exact L2.atI_last _ _)
local macro_rules | `(tactic| walk_at "rr") => `(tactic| repeat (walk_at "r"))
local macro_rules | `(tactic| walk_at "num") => `(tactic| first
  | (with_unfolding_all decide)
  | (show (_ : Int) ≠ 0; omega)
  | (show (_ : Int) ≠ 0 ∧ _ < 1073741824; exact ⟨by omega, by omega⟩)
  | (show (0 : Int) ≤ _ ∧ _ ≤ (1000000 : Int) ∧ _; exact ⟨by decide, by decide, by omega⟩)
  | (show (-(2 ^ 64) < (_ : Int) ∧ _ < 2 ^ 64) ∨ _; (first | (left; exact ⟨by omega, by omega⟩) | (right; exact ⟨by omega, by omega⟩)))
  | omega)
namespace Z
open PySem PySem.Spec PyProof.Rows L2
abbrev s__law_held_step : Stmt := top 30
abbrev n__law_held_step : List Str := ["state", "box", "stead", "title", "held", "worth", "due"]
theorem sc__law_held_step : FnScope n__law_held_step ["state", "box", "stead", "title"] (defScope s__law_held_step) := ⟨rfl, rfl, rfl, by decide +kernel, rfl, by decide +kernel, by decide +kernel⟩
/-- the draws' state stands apart from the world -/
structure Ap (st gr cl0 : Addr) (g : Wg) : Prop where
  a : ∀ x ∈ [g.pl, g.hd, g.md, g.bx, g.bh, g.bm, g.bb], x ≠ st ∧ x ≠ gr ∧ x ≠ cl0
  r : ∀ R ∈ g.Rs, R.r ≠ st ∧ R.r ≠ gr ∧ R.r ≠ cl0
theorem Wd.keepD {Λ : List (Addr × Str)} {C CR st gr cl0 : Addr} {H H' : Hp} {g : Wg} (w : Wd C CR H g) (f : Fr Λ [st, gr] H H') (ap : Ap st gr cl0 g) : Wd C CR H' g := by
  have n : ∀ x ∈ [g.pl, g.hd, g.md, g.bx, g.bh, g.bm, g.bb], x ∉ [st, gr] := fun x hx => nm_cons (ap.a x hx).1 (nm_cons (ap.a x hx).2.1 nm_nil)
  exact ⟨w.P.keep f (n _ (by simp)) (n _ (by simp)) (n _ (by simp)) fun R hR => nm_cons (ap.r R hR).1 (nm_cons (ap.r R hR).2.1 nm_nil), w.B.keep f (n _ (by simp)) (n _ (by simp)) (n _ (by simp)) (n _ (by simp)), w.kk, w.tl, w.tn, w.td, w.kin, w.rin, w.nd, w.on, w.up, w.pos, w.t0, fun z v h => (w.smk z v h).fr f, fun R hR => ⟨(w.smr R hR).1, fun v hv => ((w.smr R hR).2 v hv).fr f⟩, w.xh, w.hh, w.hx, w.mb, w.mm, w.mb2⟩
/-- what is held changes in both -/
theorem Wd.upK {Λ : List (Addr × Str)} {C CR : Addr} {H H' : Hp} {g : Wg} {S : List Addr} {kl' kp' : List (L2.Key × V)} (w : Wd C CR H g) (f : Fr Λ S H H') (hP : Pl C CR H' g.pl g.dx g.hd g.md kp' g.Rs g.tn) (hB : Bx H' { g with kl := kl', kp := kp' })
    (kk : ∀ z, valV kl' (.inr z) = valV kp' (.inr z)) (kin : ∀ z ∈ keysOf kp', z ∈ g.ts) (smk : ∀ z v, valV kp' (.inr z) = some v → Sm H' v) : Wd C CR H' { g with kl := kl', kp := kp' } :=
  ⟨hP, hB, kk, w.tl, w.tn, w.td, kin, w.rin, w.nd, w.on, w.up, w.pos, w.t0, smk, fun R hR => ⟨(w.smr R hR).1, fun v hv => ((w.smr R hR).2 v hv).fr f⟩, w.xh, w.hh, w.hx, w.mb, w.mm, w.mb2⟩
theorem Bx.putL {H : Hp} {g : Wg} {kl' kp' : List (L2.Key × V)} (b : Bx H g) (xh : g.bx ≠ g.bh) (hl : kl'.length ≤ 1000) (hk : ∀ p ∈ kl', ∃ z, p.1 = .inr z) : Bx (L2.upd H g.bh (.dK kl')) { g with kl := kl', kp := kp' } := by
  have nt : ∀ {a : Addr} {xs : List V}, H a = some (.tup xs) → a ≠ g.bh := fun h => ne_of h b.bh (by intro z; cases z)
  have nl : ∀ {a : Addr} {xs : List V}, H a = some (.lst xs) → a ≠ g.bh := fun h => ne_of h b.bh (by intro z; cases z)
  exact ⟨(upd_ne xh).trans b.box, upd_same, (upd_ne (nl b.bm)).trans b.bm, (upd_ne (nl b.bb)).trans b.bb, b.ll, fun i l R e1 e2 => ⟨(upd_ne (nt (b.ls i l R e1 e2).1)).trans (b.ls i l R e1 e2).1, (upd_ne (nt (b.ls i l R e1 e2).2)).trans (b.ls i l R e1 e2).2⟩, hk, ⟨hl, b.lf.2⟩, b.bl⟩
theorem keysOf_putK {kv : List (L2.Key × V)} {z : Str} {v : V} (hk : ∀ p ∈ kv, ∃ y, p.1 = .inr y) : ∀ y ∈ keysOf (putK kv (.inr z) v), y = z ∨ y ∈ keysOf kv := fun y hy => by
  by_cases h : z ∈ keysOf kv
  · rw [keysOf_put_old h hk] at hy; exact .inr hy
  · rw [keysOf_put_new h hk] at hy
    rcases List.mem_append.mp hy with q | q
    · exact .inr q
    · exact .inl (List.mem_singleton.mp q)
theorem np_can {z : Str} (h : nmB z = true) : (PyData.tuple [.str "no place", .str z]).canLay0 = true := by
  have e : PyData.strOk "no place" = true := by decide +kernel
  simp only [PyData.canLay0, PyData.canLayAll0, nm_ok h, e]; rfl
theorem np_shaped {z : Str} (h : nmB z = true) : SeqAt.shaped (.tuple [.str "no place", .str z]) = true := by
  unfold SeqAt.shaped
  rw [np_can h]
  have : (PyData.tuple [.str "no place", .str z]).depth = 1 := by simp only [PyData.depth, PyData.depthAll]; rfl
  rw [this]
  decide
theorem valV_dropK {kv : List (L2.Key × V)} {k j : L2.Key} : valV (dropK kv k) j = if j = k then none else valV kv j := by
  induction kv with
  | nil => simp [dropK, valV]
  | cons p r ih =>
    unfold dropK at ih ⊢
    by_cases hp : p.1 = k
    · rw [List.filter_cons_of_neg (by simpa using hp), ih]
      by_cases hj : j = k
      · rw [if_pos hj, if_pos hj]
      · rw [if_neg hj, if_neg hj, valV_neg (by rw [hp]; exact fun e => hj e.symm)]
    · rw [List.filter_cons_of_pos (by simpa using hp)]
      by_cases hpj : p.1 = j
      · rw [valV_pos hpj, valV_pos hpj, if_neg (by rw [← hpj]; exact hp)]
      · rw [valV_neg hpj, valV_neg hpj, ih]
theorem keysOf_dropK {kv : List (L2.Key × V)} {z y : Str} (h : y ∈ keysOf (dropK kv (.inr z))) : y ∈ keysOf kv := by
  unfold keysOf at h ⊢
  rw [List.mem_filterMap] at h ⊢
  obtain ⟨p, hp, e⟩ := h
  exact ⟨p, (List.mem_filter.mp hp).1, e⟩
/-- where the world lies -/
def foot (g : Wg) : List Addr := g.pl :: g.hd :: g.md :: g.bx :: g.bh :: g.bm :: g.bb :: g.Rs.map Rp.r
def sp_held (Λ : List (Addr × Str)) (C CR : Addr) : Sp := fun vs H Q _ => ∃ (st gr cl0 : Addr) (n : Nat) (g : Wg) (z : Str), vs = [.ref st, .ref g.bx, .ref g.pl, .str z] ∧ Dr st gr cl0 (n + 60) H ∧ Wd C CR H g ∧ Ap st gr cl0 g ∧ z ∈ g.ts ∧ LamX.Tabs Λ H ∧ g.kl.length < 500 ∧ g.kp.length < 500 ∧
  ∀ g' H', Dr st gr cl0 n H' → Wd C CR H' g' → Ap st gr cl0 g' → g'.bx = g.bx → g'.pl = g.pl → g'.ts = g.ts → g'.Rs.length = g.Rs.length → g'.bg.length = g.bg.length → g'.kl.length ≤ g.kl.length + 1 → g'.kp.length ≤ g.kp.length + 1 → foot g' = foot g → Fr Λ [st, gr, g.hd, g.bh] H H' → Q (.bl true) H'
structure G9 (Λ : List (Addr × Str)) (P : Program) (w : World) (K : PySem.W.Frag) (mg : Str → Option Value) (base : Heap) (C CR CT CN CB : Addr) : Prop where
  law_take : GD false P w K mg base "_law_take" ["state", "size"] 2 (sp_take Λ)
  law_value : GD false P w K mg base "_law_value" ["state", "deep"] 6 (sp_value Λ 3)
  law_result : GRes K mg CT CN CB
  Places_write : GM false P w K mg base C "write" 6 (sp_write Λ C CR)
  Places_remove : GM false P w K mg base C "remove" 3 (sp_remove Λ C CR CN)
section
variable {γ : Bool} {Λ : List (Addr × Str)} {P : Program} {w : World} {K : PySem.W.Frag} {mg : Str → Option Value} {base : Heap} {C CR CT CN CB : Addr}
theorem ok_held {f c Pt : Addr} {fd : FuncData} (F : FunC K "_law_held_step" "_law_held_step" s__law_held_step f fd c) (TB : LamX.TabB base mg c Pt) (hmT : (Pt, (("_law_held_step" : Str) ++ ".<locals>." ++ "<lambda>")) ∈ Λ) (hu1 : ∀ p ∈ Λ, p.1 = Pt → p.2 = (("_law_held_step" : Str) ++ ".<locals>." ++ "<lambda>"))
    (T : T8 P K mg C CR CN CB) (G : G9 Λ P w K mg base C CR CT CN CB) : GOk γ P w K mg base 12 f fd ["state", "box", "stead", "title"] (sp_held Λ C CR) := by
  refine g_ofC F sc__law_held_step (fun vs H Q E h => ?_) (fun A outer s H vs Q E hA hr h => ?_)
  · obtain ⟨st, gr, cl0, n, g, z, rfl, _⟩ := h
    rfl
  · obtain ⟨st, gr, cl0, n, g, z, rfl, hD, hW, hAp, hz, hTab, hl1, hl2, k⟩ := h
    have hu := hu_of hr
    obtain ⟨cP, cR, n1, n2, n3, n4, n5, n6, n7⟩ := T.toTP
    refine ⟨_, (pss_cons (ps_asg (pe_tup (pa_cons (pe_dget hu (pv 1) pe_str (fun _ _ => rfl)) (pa_cons (pe_g G.law_value (by first | exact hA | exact fun z => nomatch z) (hr.mono (by first | decide | omega)) rfl passL (pa_cons (pv 0) (pa_cons pe_int pa_nil))) pa_nil))) (pg_tup rfl (pgs_cons (pg_name (i := 4) sc__law_held_step.nd rfl (.inl rfl)) (pgs_cons (pg_name (i := 5) sc__law_held_step.nd rfl (.inr rfl)) pgs_nil))))
      (pss_cons (ps_if (pt_cmpR op_gt (pe_g G.law_take (by first | exact hA | exact fun z => nomatch z) (hr.mono (by first | decide | omega)) rfl passL (pa_cons (pv 0) (pa_cons pe_int pa_nil))) pe_int (nomark _))
      (pss_cons (ps_dput hu (pv 4) (pv 3) (pv 5) rfl)
      (pss_one (ps_ret (pe_cmpR (op_eqD hr.units) (Z.pe_res (k := 6) G.law_result rfl TB rfl hmT hu1 (hr.mono (by first | decide | omega)) (LamX.lamS_by (sc := defScope s__law_held_step) (by decide +kernel)) rfl (fun _ _ _ _ _ => rfl) (fun A outer s H E f c' hrl => (pe_gm G.Places_write T.cP (by first | exact hA | exact fun z => nomatch z) (hrl.mono (by first | decide | omega)) (Z.passY (E := E) rfl rfl rfl rfl) (pv 2) (pa_cons (pv 3) (pa_cons (pv 5) pa_nil))))) (pe_tup (pa_cons pe_str (pa_cons pe_non pa_nil))) (nomark _)))))
      pss_nil)
      (pss_cons (ps_set (i := 6) sc__law_held_step.nd rfl (.inl rfl) (pe_ifExp (pt_cmp (pc_din hu (pv 3) (pv 4))) (pe_tup (pa_cons pe_str (pa_cons pe_non pa_nil))) (pe_tup (pa_cons pe_str (pa_cons (pv 3) pa_nil)))))
      (C8.pss_cut (ps_if (pt_cmp (pc_din hu (pv 3) (pv 4)))
      (pss_one (ps_expr (pe_dpop1 (pv 4) (pv 3) ⟨rfl, rfl, rfl, rfl⟩)))
      pss_nil)
      (pss_one (ps_ret (pe_cmpR (op_eqD hr.units) (Z.pe_res (k := 6) G.law_result rfl TB rfl hmT hu1 (hr.mono (by first | decide | omega)) (LamX.lamS_by (sc := defScope s__law_held_step) (by decide +kernel)) rfl (fun _ _ _ _ _ => rfl) (fun A outer s H E f c' hrl => (pe_gm G.Places_remove T.cP (by first | exact hA | exact fun z => nomatch z) (hrl.mono (by first | decide | omega)) (Z.passY (E := E) rfl rfl rfl rfl) (pv 2) (pa_cons (pv 3) pa_nil)))) (pv 6) (nomark _)))))))), ?_⟩
    have b1 := hW.B.box
    unfold bxK at b1
    walk_at "rr"
    refine ⟨st, gr, cl0, n + 24, 2, rfl, by decide, hD.less (by omega), fun v d H1 hvl hdt hD1 hF1 => ?_⟩
    walk_at "rr"
    intro p hp
    walk_at "rr"
    have hW1 := hW.keepD hF1 hAp
    have hW2 := hW1.keep0 ((Fr.refl (Λ := Λ) [] H1).new (o := .tup [.ref g.bh, v]) hp)
    refine ⟨st, gr, cl0, n + 10, 3, rfl, by decide, by decide, (hD1.new hp).less (by omega), fun r H2 r0 r1 hD2 hF2 => ?_⟩
    walk_at "rr"
    have hW3 := hW2.keepD hF2 hAp
    have hT2 := hF2.tabs (((Fr.refl (Λ := Λ) [] H1).new (o := .tup [.ref g.bh, v]) hp).tabs (hF1.tabs hTab))
    have hF02 : Fr Λ [st, gr] H H2 := by walk_at "fr"
    have hsm : Sm H2 v := ⟨d, (hdt.new hp).fr hF2, hvl⟩
    have hzn := hW.tn z hz
    have b2 := hW3.B.bh
    have hne := hW3.xh
    refine rd_ite (fun hr0 => ?_) (fun hr0 => ?_)
    · walk_at "rr"
      have hkl := length_putK g.kl (.inr z) v
      have hkp := length_putK g.kp (.inr z) v
      have hB3 := hW3.B.putL (kp' := putK g.kp (.inr z) v) hne (show (putK g.kl (.inr z) v).length ≤ 1000 by omega) (putK_keys hW3.B.lk)
      have hF3 : Fr Λ [g.bh] H2 (L2.upd H2 g.bh (.dK (putK g.kl (.inr z) v))) := (Fr.refl [g.bh] H2).upd (.inl List.mem_cons_self) b2 rfl
      have hP3 := hW3.P.keep hF3 (nm_cons (ne_of hW3.P.ins b2 (by intro z; cases z)) nm_nil) (nm_cons hW3.hh nm_nil) (nm_cons (ne_of hW3.P.made b2 (by intro z; cases z)) nm_nil) (fun R hR => nm_cons (ne_of (hW3.P.rp R hR).1 b2 (by intro z; cases z)) nm_nil)
      generalize L2.upd H2 g.bh (.dK (putK g.kl (.inr z) v)) = H3 at hB3 hF3 hP3 ⊢
      refine rd_res (hF3.tabs hT2) fun H4 hF4 Q' hQ' => ?_
      have hP4 := hP3.keep0 hF4
      have hB4 := hB3.keep0 hF4
      have i1 := hP4.ins
      walk_at "rr"
      refine ⟨g.pl, g.dx, g.hd, g.md, g.kp, g.Rs, g.tn, z, v, rfl, hzn, (hsm.fr hF3).fr hF4, hP4, by omega, fun H5 hP5 hF5 => hQ' _ _ fun H6 r hF6 hr => ?_⟩
      walk_at "rr"
      intro e he
      walk_at "rr"
      have hr1 : L2.upd H6 e (.tup [.str "gave", .non]) r = some (.tup [.str "gave", .non]) := by rw [upd_ne (ne_of_none hr he)]; exact hr
      have he1 : L2.upd H6 e (.tup [.str "gave", .non]) e = some (.tup [.str "gave", .non]) := upd_same
      have hF67 : Fr Λ [] H5 (L2.upd H6 e (.tup [.str "gave", .non])) := hF6.new he
      generalize L2.upd H6 e (.tup [.str "gave", .non]) = H7 at hr1 he1 hF67 ⊢
      refine ⟨.tuple [.str "gave", .none], .tuple [.str "gave", .none], .tup (SqT.of hr1) (.cons (.str _) (.cons .non .nil)), .tup (SqT.of he1) (.cons (.str _) (.cons .non .nil)), by decide +kernel, by decide +kernel, ?_⟩
      rw [show PyData.eqv (.tuple [.str "gave", .none]) (.tuple [.str "gave", .none]) = true by decide +kernel]
      have hb4 := hP4.held
      have hB5 := hB4.keep hF5 (nm_cons (ne_sym hW.hx) nm_nil) (nm_cons (ne_sym hW.hh) nm_nil) (nm_cons (ne_of hB4.bm hb4 (by intro z; cases z)) nm_nil) (nm_cons (ne_of hB4.bb hb4 (by intro z; cases z)) nm_nil)
      have hP7 := hP5.keep0 hF67
      have hB7 := hB5.keep0 hF67
      have hF27 : Fr Λ [g.bh, g.hd] H2 H7 := (((hF3.mono (S' := [g.bh, g.hd]) (by simp)).step (Fr.refl _ _) (fun a h => .inl h)).trans ((hF4.mono (by simp)).trans ((hF5.mono (by simp)).trans (hF67.mono (by simp)))))
      have apm : ∀ x ∈ [st, gr, cl0], x ∉ [g.bh, g.hd] := fun x hx => by
        have h1 := hAp.a g.bh (by simp)
        have h2 := hAp.a g.hd (by simp)
        rcases List.mem_cons.mp hx with rfl | hx
        · exact nm_cons (ne_sym h1.1) (nm_cons (ne_sym h2.1) nm_nil)
        rcases List.mem_cons.mp hx with rfl | hx
        · exact nm_cons (ne_sym h1.2.1) (nm_cons (ne_sym h2.2.1) nm_nil)
        · rw [List.mem_singleton.mp hx]; exact nm_cons (ne_sym h1.2.2) (nm_cons (ne_sym h2.2.2) nm_nil)
      refine k { g with kl := putK g.kl (.inr z) v, kp := putK g.kp (.inr z) v } H7 ((hD2.less (by omega)).keep hF27 (apm _ (by simp)) (apm _ (by simp)) (apm _ (by simp))) (hW3.upK hF27 hP7 hB7 (fun y => ?_) (fun y hy => ?_) (fun y u hu => ?_)) ⟨hAp.a, hAp.r⟩ rfl rfl rfl rfl rfl hkl hkp rfl ?_
      · rw [valV_put, valV_put, hW.kk y]
      · rcases keysOf_putK hW.P.keys y hy with rfl | q
        · exact hz
        · exact hW.kin y q
      · rw [valV_put] at hu
        split at hu
        · cases hu; exact hsm.fr hF27
        · exact (hW3.smk y u hu).fr hF27
      · exact (hF02.mono (S' := [st, gr, g.hd, g.bh]) (by simp)).trans (hF27.mono (by simp))
    · walk_at "rr"
      cases hv : valV g.kl (.inr z) with
      | none =>
        refine iteF ?_
        walk_at "rr"
        intro q hq
        walk_at "rr"
        have hq1 : L2.upd H2 q (.tup [.str "no place", .str z]) q = some (.tup [.str "no place", .str z]) := upd_same
        have hF3 : Fr Λ [] H2 (L2.upd H2 q (.tup [.str "no place", .str z])) := (Fr.refl [] H2).new hq
        generalize L2.upd H2 q (.tup [.str "no place", .str z]) = H3 at hq1 hF3 ⊢
        have hW4 := hW3.keep0 hF3
        have b3 := hW4.B.bh
        refine rd_cut (fun σ H' => H' = H3 ∧ σ = [some (.ref st), some (.ref g.bx), some (.ref g.pl), some (.str z), some (.ref g.bh), some v, some (.ref q)]) ?_ ?_
        · walk_at "rr"
          rw [hv]
          refine iteF ?_
          walk_at "rr"
          exact ⟨rfl, rfl⟩
        · rintro σ H' ⟨rfl, rfl⟩
          walk_at "rr"
          refine rd_res (hF3.tabs hT2) fun H4 hF4 Q' hQ' => ?_
          have hP4 := hW4.P.keep0 hF4
          have i1 := hP4.ins
          walk_at "rr"
          refine ⟨g.pl, g.dx, g.hd, g.md, g.kp, g.Rs, g.tn, z, rfl, hzn, hP4, fun u H5 hu _ _ => ?_, fun d H5 hn hF5 hd => .inl ⟨rfl, d, z, rfl, upd_same, fun H6 r hF6 hr => ?_⟩⟩
          · rw [← hW.kk z, hv] at hu
            cases hu
          have hF36 := ((hF4.trans hF5).new (o := .xd [("name", .str z)]) hd).trans hF6
          have hq6 := hF36.tup hq1
          have hF26 := hF3.trans hF36
          walk_at "rr"
          refine ⟨.tuple [.str "no place", .str z], .tuple [.str "no place", .str z], .tup (SqT.of hr) (.cons (.str _) (.cons (.str _) .nil)), .tup (SqT.of hq6) (.cons (.str _) (.cons (.str _) .nil)), np_shaped hzn, np_shaped hzn, ?_⟩
          rw [SeqAt.eqv_refl _ (np_can hzn)]
          exact k g H6 ((hD2.less (by omega)).keep hF26 nm_nil nm_nil nm_nil) (hW3.keep0 hF26) hAp rfl rfl rfl rfl rfl (by omega) (by omega) rfl ((hF02.mono (by simp)).trans (hF26.mono (by simp)))
      | some u =>
        refine iteT ?_
        walk_at "rr"
        intro q hq
        walk_at "rr"
        have hq1 : L2.upd H2 q (.tup [.str "gave", .non]) q = some (.tup [.str "gave", .non]) := upd_same
        have hF3 : Fr Λ [] H2 (L2.upd H2 q (.tup [.str "gave", .non])) := (Fr.refl [] H2).new hq
        generalize L2.upd H2 q (.tup [.str "gave", .non]) = H3 at hq1 hF3 ⊢
        have hW4 := hW3.keep0 hF3
        have b3 := hW4.B.bh
        refine rd_cut (fun σ H' => H' = L2.upd H3 g.bh (.dK (dropK g.kl (.inr z))) ∧ σ = [some (.ref st), some (.ref g.bx), some (.ref g.pl), some (.str z), some (.ref g.bh), some v, some (.ref q)]) ?_ ?_
        · walk_at "rr"
          rw [hv]
          refine iteT ?_
          walk_at "rr"
          refine ⟨g.kl, .inr z, u, b3, rfl, hv, ?_⟩
          walk_at "rr"
          exact ⟨rfl, rfl⟩
        · rintro σ H' ⟨rfl, rfl⟩
          have hlf := hW.B.lf.1
          have hkf := hW.P.few.1
          have hkl := dropK_le g.kl (.inr z)
          have hkp := dropK_le g.kp (.inr z)
          have hB3 := hW4.B.putL (kp' := dropK g.kp (.inr z)) hne (show (dropK g.kl (.inr z)).length ≤ 1000 by omega) (dropK_keys hW3.B.lk)
          have hFb : Fr Λ [g.bh] H3 (L2.upd H3 g.bh (.dK (dropK g.kl (.inr z)))) := (Fr.refl [g.bh] H3).upd (.inl List.mem_cons_self) b3 rfl
          have hP3 := hW4.P.keep hFb (nm_cons (ne_of hW4.P.ins b3 (by intro z; cases z)) nm_nil) (nm_cons hW3.hh nm_nil) (nm_cons (ne_of hW4.P.made b3 (by intro z; cases z)) nm_nil) (fun R hR => nm_cons (ne_of (hW4.P.rp R hR).1 b3 (by intro z; cases z)) nm_nil)
          have hqb := hFb.tup hq1
          have hTb := hFb.tabs (hF3.tabs hT2)
          generalize L2.upd H3 g.bh (.dK (dropK g.kl (.inr z))) = Hb at hB3 hFb hP3 hqb hTb ⊢
          walk_at "rr"
          refine rd_res hTb fun H4 hF4 Q' hQ' => ?_
          have hP4 := hP3.keep0 hF4
          have hB4 := hB3.keep0 hF4
          have i1 := hP4.ins
          walk_at "rr"
          refine ⟨g.pl, g.dx, g.hd, g.md, g.kp, g.Rs, g.tn, z, rfl, hzn, hP4, fun u' H5 _ hP5 hF5 => hQ' _ _ fun H6 r hF6 hr => ?_, fun d H5 hn _ _ => ?_⟩
          rotate_left
          · rw [← hW.kk z, hv] at hn
            cases hn
          have hb4 := hP4.held
          have hB5 := hB4.keep hF5 (nm_cons (ne_sym hW.hx) nm_nil) (nm_cons (ne_sym hW.hh) nm_nil) (nm_cons (ne_of hB4.bm hb4 (by intro z; cases z)) nm_nil) (nm_cons (ne_of hB4.bb hb4 (by intro z; cases z)) nm_nil)
          have hP6 := hP5.keep0 hF6
          have hB6 := hB5.keep0 hF6
          have hq6 := hF6.tup (hF5.tup (hF4.tup hqb))
          have hF26 : Fr Λ [g.bh, g.hd] H2 H6 := (hF3.mono (by simp)).trans ((hFb.mono (by simp)).trans ((hF4.mono (by simp)).trans ((hF5.mono (by simp)).trans (hF6.mono (by simp)))))
          walk_at "rr"
          refine ⟨.tuple [.str "gave", .none], .tuple [.str "gave", .none], .tup (SqT.of hr) (.cons (.str _) (.cons .non .nil)), .tup (SqT.of hq6) (.cons (.str _) (.cons .non .nil)), by decide +kernel, by decide +kernel, ?_⟩
          rw [show PyData.eqv (.tuple [.str "gave", .none]) (.tuple [.str "gave", .none]) = true by decide +kernel]
          have apm : ∀ x ∈ [st, gr, cl0], x ∉ [g.bh, g.hd] := fun x hx => by
            have h1 := hAp.a g.bh (by simp)
            have h2 := hAp.a g.hd (by simp)
            rcases List.mem_cons.mp hx with rfl | hx
            · exact nm_cons (ne_sym h1.1) (nm_cons (ne_sym h2.1) nm_nil)
            rcases List.mem_cons.mp hx with rfl | hx
            · exact nm_cons (ne_sym h1.2.1) (nm_cons (ne_sym h2.2.1) nm_nil)
            · rw [List.mem_singleton.mp hx]; exact nm_cons (ne_sym h1.2.2) (nm_cons (ne_sym h2.2.2) nm_nil)
          refine k { g with kl := dropK g.kl (.inr z), kp := dropK g.kp (.inr z) } H6 ((hD2.less (by omega)).keep hF26 (apm _ (by simp)) (apm _ (by simp)) (apm _ (by simp))) (hW3.upK hF26 hP6 hB6 (fun y => ?_) (fun y hy => hW.kin y (keysOf_dropK hy)) (fun y u hu => ?_)) ⟨hAp.a, hAp.r⟩ rfl rfl rfl rfl rfl (Nat.le_succ_of_le hkl) (Nat.le_succ_of_le hkp) rfl ?_
          · rw [valV_dropK, valV_dropK, hW.kk y]
          · rw [valV_dropK] at hu
            split at hu
            · cases hu
            · exact (hW3.smk y u hu).fr hF26
          · exact (hF02.mono (S' := [st, gr, g.hd, g.bh]) (by simp)).trans (hF26.mono (by simp))
end
end Z

end
section
local macro_rules | `(tactic| walk_at "ne") => `(tactic| first
  | assumption
  | (refine Z.ne_sym ?_; assumption)
  | (refine' Z.ne_new ?ka ?kb; (case ka => assumption); (case kb => walk_at "h"))
  | (refine' Z.ne_sym (Z.ne_new ?ka ?kb); (case ka => assumption); (case kb => walk_at "h"))
  | ((with_reducible refine' Z.ne_nw ?ka ?kb ?kc); (case ka => assumption); (case kb => walk_at "h"); (case kc => rfl))
  | ((with_reducible refine' Z.ne_sym (Z.ne_nw ?ka ?kb ?kc)); (case ka => assumption); (case kb => walk_at "h"); (case kc => rfl))
  | exact L2.ne_of (by assumption) (by assumption) (by intro z; cases z)
  | exact Z.ne_sym (L2.ne_of (by assumption) (by assumption) (by intro z; cases z)))
local macro_rules | `(tactic| walk_at "nm") => `(tactic| first
  | exact Z.nm_nil
  | exact Z.nm_cons (by walk_at "ne") (by walk_at "nm"))
local macro_rules | `(tactic| walk_at "h") => `(tactic| first
  | assumption
  | exact L2.upd_same
  | ((with_reducible refine' Eq.trans (L2.upd_ne ?ka) ?kb); (case ka => walk_at "ne"); (case kb => walk_at "h"))
  | ((with_reducible refine' Z.Fr.at ?ka ?kb ?kc ?kd); (case ka => assumption); (case kb => walk_at "h"); (case kc => walk_at "nm"); (case kd => rfl))
  | ((with_reducible refine' Z.Fr.tup ?ka ?kb); (case ka => assumption); (case kb => walk_at "h")))
local macro_rules | `(tactic| walk_at "free") => `(tactic| first
  | assumption
  | exact Z.Nw.of (by assumption)
  | ((with_reducible refine' Z.Fr.free ?ka ?kb); (case ka => assumption); (case kb => walk_at "free")))
local macro_rules | `(tactic| walk_at "ms") => `(tactic| first
  | exact Or.inl List.mem_cons_self
  | exact Or.inl (List.mem_cons_of_mem _ List.mem_cons_self)
  | (left; simp; done)
  | (right; walk_at "free"))
local macro_rules | `(tactic| walk_at "sub") => `(tactic| first
  | exact Z.sub_nil
  | ((with_reducible refine' Z.sub_cons ?ka ?kb); (case ka => walk_at "ms"); (case kb => walk_at "sub")))
local macro_rules | `(tactic| walk_at "fr") => `(tactic| first
  | assumption
  | exact Z.Fr.refl _ _
  | ((with_reducible refine' Z.Fr.new ?ka ?kb); (case kb => assumption); (case ka => walk_at "fr"))
  | ((with_reducible refine' Z.Fr.upd ?ka ?kb ?kc ?kd ?ke); (case kb => walk_at "ms"); (case kc => walk_at "h"); (case kd => rfl); (case ke => rfl); (case ka => walk_at "fr"))
  | ((with_reducible refine' Z.Fr.step ?ka ?kb ?kc); (case ka => assumption); (case kb => walk_at "fr"); (case kc => walk_at "sub")))
local macro_rules | `(tactic| walk_at "dt") => `(tactic| first
  | assumption
  | (refine Z.DT.new ?_ (by assumption); walk_at "dt")
  | (refine Z.DTs.new ?_ (by assumption); walk_at "dt")
  | (refine' Z.DT.wr ?ka ?kb ?kc; (case kb => walk_at "h"); (case kc => rfl); (case ka => walk_at "dt"))
  | (refine' Z.DTs.wr ?ka ?kb ?kc; (case kb => walk_at "h"); (case kc => rfl); (case ka => walk_at "dt"))
  | (refine' Z.DT.fr ?ka ?kb; (case kb => assumption); (case ka => walk_at "dt"))
  | (refine' Z.DTs.fr ?ka ?kb; (case kb => assumption); (case ka => walk_at "dt")))
local macro_rules | `(tactic| walk_at "len") => `(tactic| first
  | exact Z.lt_ok (Nat.le_of_ble_eq_true (by with_unfolding_all rfl))
  | exact Z.le_ok (Nat.le_of_ble_eq_true (by with_unfolding_all rfl))
  | (apply Z.lt_ok; (try simp only [List.length_append, List.length_cons, List.length_nil, List.length_map, List.length_set, List.length_eraseIdx] at *); omega)
  | (apply Z.le_ok; (try simp only [List.length_append, List.length_cons, List.length_nil, List.length_map, List.length_set, List.length_eraseIdx] at *); omega))
local macro_rules | `(tactic| walk_at "r") => `(tactic| first
  | (with_reducible refine Z.rd_seq ?_)
  | (with_reducible refine Z.rd_asg ?_)
  | (with_reducible refine Z.rd_gname ?_)
  | (with_reducible refine Z.rd_ifs ?_)
  | (with_reducible refine Z.rd_next ?_)
  | (with_reducible refine Z.rd_and ?_)
  | (with_reducible refine Z.rd_or ?_)
  | (with_reducible refine Z.rd_not ?_)
  | (with_reducible refine Z.rd_test ?_)
  | (with_reducible refine Z.rd_tb ?_)
  | (with_reducible refine Z.rd_bl ?_)
  | (with_reducible refine Z.rd_op ?_)
  | (with_reducible refine Z.rd_c ?_)
  | ((with_reducible refine' Z.rd_var ?ka ?_); (case ka => with_unfolding_all rfl))
  | (with_reducible refine Z.rd_ret ?_)
  | (with_reducible refine Z.rd_retn ?_)
  | (with_reducible refine Z.rd_drop ?_)
  | (with_reducible refine Z.rd_nil ?_)
  | (with_reducible refine Z.rd_cons ?_)
  | (with_reducible refine Z.rd_cb ?_)
  | (with_reducible refine Z.rd_call ?_)
  | (with_reducible refine Z.rd_dget0 ?_)
  | ((with_reducible refine' Z.rd_dget1 ?ka ?kb ?_); (case ka => walk_at "h"); (case kb => with_unfolding_all rfl))
  | (with_reducible refine Z.rd_dput0 ?_)
  | ((with_reducible refine' Z.rd_dput1 ?ka ?kb ?_); (case ka => walk_at "h"); (case kb => walk_at "len"))
  | (with_reducible refine Z.rd_eqi ?_)
  | (with_reducible refine Z.rd_eqs ?_)
  | (with_reducible refine Z.rd_nei ?_)
  | (with_reducible refine Z.rd_nes ?_)
  | (with_reducible refine Z.rd_i0 ?_)
  | (with_reducible refine Z.rd_lst ?_)
  | (with_reducible refine Z.rd_tup ?_)
  | (with_reducible refine Z.rd_ifx ?_)
  | (with_reducible refine Z.rd_bm ?_)
  | (with_reducible refine Z.rd_bm0 ?_)
  | ((with_reducible refine' Z.rd_nil2 ?ka ?kb ?_); (case ka => walk_at "h"); (case kb => walk_at "h"))
  | ((with_reducible refine' Z.rd_nil2T ?ka ?kb ?_); (case ka => walk_at "h"); (case kb => walk_at "h"))
  | (with_reducible refine Z.rd_int1 ?_)
  | ((with_reducible refine' Z.rd_size ?ka ?_); (case ka => walk_at "len"))
  | ((with_reducible refine' Z.rd_tylist ?ka ?_); (case ka => walk_at "h"))
  | ((with_reducible refine' Z.rd_i ?ka ?_); (case ka => walk_at "num"))
  | ((with_reducible refine' Z.rd_append ?ka ?kb ?_); (case ka => walk_at "h"); (case kb => walk_at "len"))
  | (with_reducible refine Z.rd_for' ?_)
  | (with_reducible refine Z.rd_lc' ?_)
  | (with_reducible refine Z.rd_un ?_)
  | (with_reducible refine Z.rd_gm ?_)
  | (with_reducible refine Z.rd_xk ?_)
  | (with_reducible refine Z.rd_stard ?_)
  | ((with_reducible refine' Z.rd_stard1 ?ka ?_); (case ka => walk_at "h"))
  | (with_reducible refine Z.rd_star ?_)
  | ((with_reducible refine' Z.rd_star1 ?ka ?_); (case ka => walk_at "h"))
  | (with_reducible refine Z.rd_dc' ?_)
  | (with_reducible refine Z.rd_dnew ?_)
  | (with_reducible refine Z.rd_dpop ?_)
  | ((with_reducible refine' Z.rd_isd ?ka ?_); (case ka => walk_at "h"))
  | (with_reducible refine Z.rd_fldaug ?_)
  | (with_reducible refine Z.rd_ilt ?_)
  | (with_reducible refine Z.rd_mko ?_)
  | (with_reducible refine Z.rd_gk ?_)
  | (with_reducible refine Z.rd_gp ?_)
  | ((with_reducible refine' Z.rd_ins1 ?ka ?_); (case ka => walk_at "h"))
  | (with_reducible refine Z.rd_disp ?_)
  | (with_reducible refine Z.rd_pnil ?_)
  | (with_reducible refine Z.rd_pcons ?_)
  | (with_reducible refine Z.rd_m1 ?_)
  | (with_reducible refine Z.rd_isstr ?_)
  | (with_reducible refine Z.rd_sl ?_)
  | (with_reducible refine Z.rd_nopart ?_)
  | (with_reducible refine Z.rd_part ?_)
  | (with_reducible refine Z.rd_part1 ?_)
  | (with_reducible refine Z.rd_u ?_)
  | (with_reducible refine Z.rd_ilist ?_)
  | (with_reducible refine Z.rd_itup ?_)
  | (with_reducible refine Z.rd_istr ?_)
  | (with_reducible refine Z.rd_irng1 ?_)
  | (with_reducible refine Z.rd_yes ?_)
  | (with_reducible refine Z.rd_sfld0 ?_)
  | (with_reducible refine Z.rd_fld0 ?_)
  | (with_reducible refine Z.rd_din ?_)
  | (with_reducible refine Z.rd_dnotin ?_)
  | (with_reducible refine Z.rd_isn ?_)
  | (with_reducible refine Z.rd_notn ?_)
  | (with_reducible refine Z.rd_par ?_)
  | (with_reducible refine Z.rd_par1 ?_)
  | (with_reducible refine Z.rd_gnil ?_)
  | (with_reducible refine Z.rd_gcons ?_)
  | (with_reducible refine Z.rd_chain ?_)
  | (with_reducible refine Z.rd_andv ?_)
  | (with_reducible refine Z.rd_orv ?_)
  | (with_reducible refine Z.rd_notv ?_)
  | (with_reducible refine Z.rd_meth ?_)
  | (with_reducible refine Z.rd_while ?_)
  | ((with_reducible refine' Z.rd_ixl ?ka ?kb ?_); (case ka => walk_at "h"); (case kb => walk_at "ati"))
  | ((with_reducible refine' Z.rd_ixt ?ka ?kb ?_); (case ka => walk_at "h"); (case kb => walk_at "ati"))
  | ((with_reducible refine' Z.rd_len ?ka ?_); (case ka => walk_at "h"))
  | ((with_reducible refine' Z.rd_lens ?ka ?_); (case ka => walk_at "h"))
  | ((with_reducible refine' Z.rd_lent ?ka ?_); (case ka => walk_at "h"))
  | ((with_reducible refine' Z.rd_lstof ?ka ?_); (case ka => walk_at "h"))
  | ((with_reducible refine' Z.rd_tupof ?ka ?_); (case ka => walk_at "h"))
  | ((with_reducible refine' Z.rd_sfld1 ?ka ?kb ?kc ?kd ?_); (case ka => walk_at "h"); (case kb => assumption); (case kc => assumption); (case kd => (first | (with_unfolding_all decide) | exact Nat.le_of_ble_eq_true (by with_unfolding_all rfl))))
  | ((with_reducible refine' Z.rd_fld1 ?ka ?kb ?kc ?kd ?_); (case ka => walk_at "h"); (case kb => assumption); (case kc => assumption); (case kd => with_unfolding_all rfl))
  | ((with_reducible refine' Z.rd_din1 ?ka ?_); (case ka => walk_at "h"))
  | ((with_reducible refine' Z.rd_gtup ?ka ?kb ?_); (case ka => walk_at "h"); (case kb => with_unfolding_all rfl))
  | ((with_reducible refine' Z.rd_catl ?ka ?kb ?kc ?_); (case ka => walk_at "h"); (case kb => walk_at "h"); (case kc => walk_at "len"))
  | ((with_reducible refine' Z.rd_meth1 ?ka ?kb ?_); (case ka => walk_at "h"); (case kb => with_unfolding_all rfl))
  | ((with_reducible refine' Z.rd_addstr ?ka ?_); (case ka => walk_at "len")))
local macro_rules | `(tactic| walk_at "ati") => `(tactic| first
  | assumption
  | (with_unfolding_all rfl)
  | exact L2.atI_nat (by assumption)
  | exact L2.atI_nat (by with_unfolding_all rfl)
  | exact L2.atI_last _ _)
local macro_rules | `(tactic| walk_at "rr") => `(tactic| repeat (walk_at "r"))
local macro_rules | `(tactic| walk_at "num") => `(tactic| first
  | (with_unfolding_all decide)
  | (show (_ : Int) ≠ 0; omega)
  | (show (_ : Int) ≠ 0 ∧ _ < 1073741824; exact ⟨by omega, by omega⟩)
  | (show (0 : Int) ≤ _ ∧ _ ≤ (1000000 : Int) ∧ _; exact ⟨by decide, by decide, by omega⟩)
  | (show (-(2 ^ 64) < (_ : Int) ∧ _ < 2 ^ 64) ∨ _; (first | (left; exact ⟨by omega, by omega⟩) | (right; exact ⟨by omega, by omega⟩)))
  | omega)
namespace Z
open PySem PySem.Spec PyProof.Rows L2
/-! ### the world behind a step with replacements -/
theorem turnI_app {Rs : List Rp} {R : Rp} {i : Nat} (h : i < Rs.length) : turnI (Rs ++ [R]) i = turnI Rs i := by
  unfold turnI
  rw [List.getElem?_append_left h]
theorem turnI_set {Rs : List Rp} {R : Rp} {i j : Nat} (h : i ≠ j) : turnI (Rs.set i R) j = turnI Rs j := by
  unfold turnI
  rw [List.getElem?_set_ne h]
theorem turnI_setSelf {Rs : List Rp} {R : Rp} {i : Nat} (h : i < Rs.length) : turnI (Rs.set i R) i = R.t.getD 0 := by
  unfold turnI
  rw [List.getElem?_set_self h]
theorem get_app {Rs : List Rp} {R R' : Rp} {i : Nat} (h : (Rs ++ [R])[i]? = some R') : (i < Rs.length ∧ Rs[i]? = some R') ∨ (i = Rs.length ∧ R' = R) := by
  by_cases hi : i < Rs.length
  · rw [List.getElem?_append_left hi] at h
    exact .inl ⟨hi, h⟩
  · right
    rw [List.getElem?_append_right (by omega)] at h
    have h2 := (List.getElem?_eq_some_iff.mp h).1
    have h3 : i - Rs.length = 0 := by simpa using h2
    rw [h3] at h
    exact ⟨by omega, (Option.some.inj h).symm⟩
section
variable {Λ : List (Addr × Str)} {C CR : Addr} {H H' : Hp} {g : Wg} {S : List Addr}
theorem Wd.addR {R : Rp} {l : Addr × Addr} (w : Wd C CR H g) (f : Fr Λ S H H') (hP : Pl C CR H' g.pl g.dx g.hd g.md g.kp (g.Rs ++ [R]) g.tn) (hB : Bx H' { g with Rs := g.Rs ++ [R], Ls := g.Ls ++ [l] }) (ht : R.t = none) (hz : R.z ∈ g.ts)
    (hx : R.xs.length ≤ 1 ∧ ∀ v ∈ R.xs, Sm H' v) : Wd C CR H' { g with Rs := g.Rs ++ [R], Ls := g.Ls ++ [l] } := by
  have hb : ∀ i ∈ g.bg, turnI (g.Rs ++ [R]) i = turnI g.Rs i := fun i hi => turnI_app (w.B.bl i hi)
  refine ⟨hP, hB, w.kk, w.tl, w.tn, w.td, w.kin, fun R' hR => ?_, w.nd, fun i R' hi => ?_, ?_, fun i hi => ?_, w.t0, fun z v h => (w.smk z v h).fr f, fun R' hR => ?_, w.xh, w.hh, w.hx, w.mb, w.mm, w.mb2⟩
  · rcases List.mem_append.mp hR with h | h
    · exact w.rin R' h
    · rw [List.mem_singleton.mp h]; exact hz
  · rcases get_app hi with ⟨h1, h2⟩ | ⟨h1, rfl⟩
    · exact w.on i R' h2
    · rw [ht]
      refine ⟨fun h => (by cases h), fun h => ?_⟩
      have := w.B.bl i h
      omega
  · exact w.up.imp_of_mem fun hi hj h => by rw [hb _ hi, hb _ hj]; exact h
  · show 0 < turnI (g.Rs ++ [R]) i ∧ _
    rw [hb i hi]; exact w.pos i hi
  · rcases List.mem_append.mp hR with h | h
    · exact ⟨(w.smr R' h).1, fun v hv => ((w.smr R' h).2 v hv).fr f⟩
    · rw [List.mem_singleton.mp h]; exact hx
theorem Wd.begun {R : Rp} {i : Nat} (w : Wd C CR H g) (f : Fr Λ S H H') (hi : g.Rs[i]? = some R) (hP : Pl C CR H' g.pl g.dx g.hd g.md g.kp (g.Rs.set i { R with t := some (g.tn + 1) }) (g.tn + 1)) (hB : Bx H' { g with Rs := g.Rs.set i { R with t := some (g.tn + 1) }, tn := g.tn + 1, bg := g.bg ++ [i] }) (hn : i ∉ g.bg) :
    Wd C CR H' { g with Rs := g.Rs.set i { R with t := some (g.tn + 1) }, tn := g.tn + 1, bg := g.bg ++ [i] } := by
  have hl := (List.getElem?_eq_some_iff.mp hi).1
  have hm := List.mem_of_getElem? hi
  have hb : ∀ j ∈ g.bg, turnI (g.Rs.set i { R with t := some (g.tn + 1) }) j = turnI g.Rs j := fun j hj => turnI_set fun e => hn (e ▸ hj)
  have hs : turnI (g.Rs.set i { R with t := some (g.tn + 1) }) i = g.tn + 1 := turnI_setSelf hl
  have t0 := w.t0
  refine ⟨hP, hB, w.kk, w.tl, w.tn, w.td, w.kin, fun R' hR => ?_, ?_, fun j R' hj => ?_, ?_, fun j hj => ?_, (by show 0 ≤ g.tn + 1; omega), fun z v h => (w.smk z v h).fr f, fun R' hR => ?_, w.xh, w.hh, w.hx, w.mb, w.mm, w.mb2⟩
  · rcases set_other hi w.P.nd hR with rfl | ⟨h1, _⟩
    · exact w.rin R hm
    · exact w.rin R' h1
  · exact List.nodup_append.mpr ⟨w.nd, by simp, fun a ha b hb e => by
      have : b = i := by simpa using hb
      exact hn (this ▸ e ▸ ha)⟩
  · by_cases e : i = j
    · subst e
      have hj2 : (g.Rs.set i { R with t := some (g.tn + 1) })[i]? = some R' := hj
      rw [List.getElem?_set_self hl] at hj2
      have : R' = { R with t := some (g.tn + 1) } := (Option.some.inj hj2).symm
      subst this
      exact ⟨fun _ => by simp, fun _ => rfl⟩
    · have hj2 : (g.Rs.set i { R with t := some (g.tn + 1) })[j]? = some R' := hj
      rw [List.getElem?_set_ne e] at hj2
      rw [w.on j R' hj2]
      have e' : ¬ j = i := fun z => e z.symm
      simp [e']
  · refine List.pairwise_append.mpr ⟨w.up.imp_of_mem fun hi hj h => by rw [hb _ hi, hb _ hj]; exact h, List.pairwise_singleton .., fun a ha b hb' => ?_⟩
    have : b = i := by simpa using hb'
    subst this
    rw [hs, hb a ha]
    have := (w.pos a ha).2
    omega
  · rcases List.mem_append.mp hj with h | h
    · have := w.pos j h
      show 0 < turnI (g.Rs.set i { R with t := some (g.tn + 1) }) j ∧ turnI (g.Rs.set i { R with t := some (g.tn + 1) }) j ≤ g.tn + 1
      rw [hb j h]
      omega
    · have : j = i := by simpa using h
      subst this
      show 0 < turnI (g.Rs.set j { R with t := some (g.tn + 1) }) j ∧ turnI (g.Rs.set j { R with t := some (g.tn + 1) }) j ≤ g.tn + 1
      rw [hs]
      omega
  · rcases set_other hi w.P.nd hR with rfl | ⟨h1, _⟩
    · exact ⟨(w.smr R hm).1, fun v hv => ((w.smr R hm).2 v hv).fr f⟩
    · exact ⟨(w.smr R' h1).1, fun v hv => ((w.smr R' h1).2 v hv).fr f⟩
theorem Wd.ended {R : Rp} {i : Nat} (w : Wd C CR H g) (f : Fr Λ S H H') (hi : g.Rs[i]? = some R) (hP : Pl C CR H' g.pl g.dx g.hd g.md g.kp (g.Rs.set i { R with t := none }) g.tn) (hB : Bx H' { g with Rs := g.Rs.set i { R with t := none }, bg := g.bg.erase i }) :
    Wd C CR H' { g with Rs := g.Rs.set i { R with t := none }, bg := g.bg.erase i } := by
  have hl := (List.getElem?_eq_some_iff.mp hi).1
  have hm := List.mem_of_getElem? hi
  have mem : ∀ j, j ∈ g.bg.erase i ↔ j ∈ g.bg ∧ j ≠ i := fun j => by rw [w.nd.mem_erase_iff]; exact And.comm
  have hb : ∀ j ∈ g.bg.erase i, turnI (g.Rs.set i { R with t := none }) j = turnI g.Rs j := fun j hj => turnI_set fun e => ((mem j).mp hj).2 e.symm
  refine ⟨hP, hB, w.kk, w.tl, w.tn, w.td, w.kin, fun R' hR => ?_, w.nd.erase i, fun j R' hj => ?_, ?_, fun j hj => ?_, w.t0, fun z v h => (w.smk z v h).fr f, fun R' hR => ?_, w.xh, w.hh, w.hx, w.mb, w.mm, w.mb2⟩
  · rcases set_other hi w.P.nd hR with rfl | ⟨h1, _⟩
    · exact w.rin R hm
    · exact w.rin R' h1
  · show R'.t.isSome = true ↔ j ∈ g.bg.erase i
    rw [mem]
    by_cases e : i = j
    · subst e
      have hj2 : (g.Rs.set i { R with t := none })[i]? = some R' := hj
      rw [List.getElem?_set_self hl] at hj2
      have : R' = { R with t := none } := (Option.some.inj hj2).symm
      subst this
      exact ⟨fun h => (by cases h), fun h => absurd rfl h.2⟩
    · have hj2 : (g.Rs.set i { R with t := none })[j]? = some R' := hj
      rw [List.getElem?_set_ne e] at hj2
      rw [w.on j R' hj2]
      exact ⟨fun h => ⟨h, fun z => e z.symm⟩, fun h => h.1⟩
  · exact (w.up.sublist List.erase_sublist).imp_of_mem fun hi hj h => by rw [hb _ hi, hb _ hj]; exact h
  · show 0 < turnI (g.Rs.set i { R with t := none }) j ∧ turnI (g.Rs.set i { R with t := none }) j ≤ g.tn
    rw [hb j hj]
    exact w.pos j ((mem j).mp hj).1
  · rcases set_other hi w.P.nd hR with rfl | ⟨h1, _⟩
    · exact ⟨(w.smr R hm).1, fun v hv => ((w.smr R hm).2 v hv).fr f⟩
    · exact ⟨(w.smr R' h1).1, fun v hv => ((w.smr R' h1).2 v hv).fr f⟩
/-- one more line in the law's list of what was made -/
theorem Bx.addL {R : Rp} {l : Addr × Addr} (b : Bx H g) (h1 : H l.1 = some (.tup [.str R.z, .ref l.2, .ref R.r])) (h2 : H l.2 = some (.tup R.xs)) (mb : g.bm ≠ g.bb) : Bx (L2.upd H g.bm (.lst ((g.Ls.map fun l => V.ref l.1) ++ [.ref l.1]))) { g with Rs := g.Rs ++ [R], Ls := g.Ls ++ [l] } := by
  have nt : ∀ {a : Addr} {xs : List V}, H a = some (.tup xs) → a ≠ g.bm := fun h => ne_of h b.bm (by intro z; cases z)
  have nd : ∀ {a : Addr} {xs : List (L2.Key × V)}, H a = some (.dK xs) → a ≠ g.bm := fun h => ne_of h b.bm (by intro z; cases z)
  refine ⟨(upd_ne (nd b.box)).trans b.box, (upd_ne (nd b.bh)).trans b.bh, ?_, (upd_ne (ne_sym mb)).trans b.bb, ?_, fun i m R' e1 e2 => ?_, b.lk, b.lf, fun i hi => ?_⟩
  · rw [upd_same, List.map_append]; rfl
  · show (g.Ls ++ [l]).length = (g.Rs ++ [R]).length
    rw [List.length_append, List.length_append, b.ll]; rfl
  · have key : H m.1 = some (.tup [.str R'.z, .ref m.2, .ref R'.r]) ∧ H m.2 = some (.tup R'.xs) := by
      have e1 : (g.Ls ++ [l])[i]? = some m := e1
      have e2 : (g.Rs ++ [R])[i]? = some R' := e2
      rcases get_app e2 with ⟨i1, i2⟩ | ⟨rfl, rfl⟩
      · rw [List.getElem?_append_left (by rw [b.ll]; exact i1)] at e1
        exact b.ls i m R' e1 i2
      · rw [← b.ll, List.getElem?_append_right (Nat.le_refl _)] at e1
        simp at e1
        subst e1
        exact ⟨h1, h2⟩
    exact ⟨(upd_ne (nt key.1)).trans key.1, (upd_ne (nt key.2)).trans key.2⟩
  · show i < (g.Rs ++ [R]).length
    have := b.bl i hi
    rw [List.length_append]
    omega
/-- the list of what began changes -/
theorem Bx.putB {bg' : List Nat} {Rs' : List Rp} {tn' : Int} (b : Bx H g) (mb : g.bm ≠ g.bb) (hl : bg'.length ≤ 1000) (hi : ∀ i ∈ bg', i < Rs'.length) (hR : Rs'.length = g.Rs.length) (hs : ∀ (i : Nat) (R' : Rp), Rs'[i]? = some R' → ∃ R : Rp, g.Rs[i]? = some R ∧ R'.z = R.z ∧ R'.r = R.r ∧ R'.xs = R.xs) :
    Bx (L2.upd H g.bb (.lst (bg'.map fun (i : Nat) => V.int (i : Int)))) { g with bg := bg', Rs := Rs', tn := tn' } := by
  have nt : ∀ {a : Addr} {xs : List V}, H a = some (.tup xs) → a ≠ g.bb := fun h => ne_of h b.bb (by intro z; cases z)
  have nd : ∀ {a : Addr} {xs : List (L2.Key × V)}, H a = some (.dK xs) → a ≠ g.bb := fun h => ne_of h b.bb (by intro z; cases z)
  refine ⟨(upd_ne (nd b.box)).trans b.box, (upd_ne (nd b.bh)).trans b.bh, (upd_ne mb).trans b.bm, upd_same, b.ll.trans hR.symm, fun i m R' e1 e2 => ?_, b.lk, ⟨b.lf.1, hl⟩, hi⟩
  obtain ⟨R, h1, h2, h3, h4⟩ := hs i R' e2
  obtain ⟨k1, k2⟩ := b.ls i m R e1 h1
  show L2.upd H g.bb _ m.1 = some (.tup [.str R'.z, .ref m.2, .ref R'.r]) ∧ L2.upd H g.bb _ m.2 = some (.tup R'.xs)
  rw [h2, h3, h4]
  exact ⟨(upd_ne (nt k1)).trans k1, (upd_ne (nt k2)).trans k2⟩
theorem set_like {Rs : List Rp} {i : Nat} {R : Rp} {t : Option Int} (hi : Rs[i]? = some R) : ∀ (j : Nat) (R' : Rp), (Rs.set i { R with t := t })[j]? = some R' → ∃ R0 : Rp, Rs[j]? = some R0 ∧ R'.z = R0.z ∧ R'.r = R0.r ∧ R'.xs = R0.xs := fun j R' h => by
  by_cases e : i = j
  · subst e
    rw [List.getElem?_set_self (List.getElem?_eq_some_iff.mp hi).1] at h
    have : R' = { R with t := t } := (Option.some.inj h).symm
    subst this
    exact ⟨R, hi, rfl, rfl, rfl⟩
  · rw [List.getElem?_set_ne e] at h
    exact ⟨R', h, rfl, rfl, rfl⟩
/-- other replacements in the same order, told alike: the box stands -/
theorem Bx.likeR {Rs' : List Rp} {tn' : Int} (b : Bx H g) (hR : Rs'.length = g.Rs.length) (hs : ∀ (i : Nat) (R' : Rp), Rs'[i]? = some R' → ∃ R : Rp, g.Rs[i]? = some R ∧ R'.z = R.z ∧ R'.r = R.r ∧ R'.xs = R.xs) : Bx H { g with Rs := Rs', tn := tn' } :=
  ⟨b.box, b.bh, b.bm, b.bb, b.ll.trans hR.symm, fun i m R' e1 e2 => by
    obtain ⟨R, h1, h2, h3, h4⟩ := hs i R' e2
    obtain ⟨k1, k2⟩ := b.ls i m R e1 h1
    rw [h2, h3, h4]
    exact ⟨k1, k2⟩, b.lk, b.lf, fun i hi => (by show i < Rs'.length; rw [hR]; exact b.bl i hi)⟩
end
end Z
namespace Z
open PySem PySem.Spec PyProof.Rows L2
theorem foot_r {g : Wg} {R : Rp} (h : R ∈ g.Rs) : R.r ∈ foot g := by
  unfold foot
  simp only [List.mem_cons]
  exact .inr (.inr (.inr (.inr (.inr (.inr (.inr (List.mem_map_of_mem h)))))))
theorem erase_at {i : Nat} : ∀ {l : List Nat}, i ∈ l → ∃ j, l[j]? = some i ∧ (∀ m, m < j → l[m]? ≠ some i) ∧ l.erase i = l.eraseIdx j
  | [], h => nomatch h
  | a :: l, h => by
    by_cases e : a = i
    · subst e
      exact ⟨0, rfl, fun m hm => absurd hm (by omega), by simp⟩
    · have h2 : i ∈ l := (List.mem_cons.mp h).resolve_left fun z => e z.symm
      obtain ⟨j, h1, h3, h4⟩ := erase_at h2
      refine ⟨j + 1, by simpa using h1, fun m hm => ?_, ?_⟩
      · cases m with
        | zero => simpa using e
        | succ m => simpa using h3 m (by omega)
      · rw [List.erase_cons_tail (by simpa using e), h4]; rfl
theorem erase_mapI' : ∀ (l : List Nat) (j : Nat), (l.map fun (i : Nat) => (i : Int)).eraseIdx j = (l.eraseIdx j).map fun (i : Nat) => (i : Int)
  | [], j => by simp
  | a :: r, 0 => by simp
  | a :: r, j + 1 => by
    have ih := erase_mapI' r j
    simp [ih]
theorem rd_remN {H : Hp} {Q : VK} {a : Addr} {bg : List Nat} {i : Nat} (e : H a = some (.lst (bg.map fun (i : Nat) => V.int (i : Int)))) (hi : i ∈ bg) (h : Q .non (L2.upd H a (.lst ((bg.erase i).map fun (i : Nat) => V.int (i : Int))))) : rRemI (.ref a) [.int (i : Int)] H Q := by
  obtain ⟨j, h1, h2, h3⟩ := erase_at hi
  refine ⟨a, bg.map fun (i : Nat) => (i : Int), (i : Int), j, rfl, rfl, by rw [e, List.map_map]; rfl, by simp [h1], fun m hm q => ?_, ?_⟩
  · rw [List.getElem?_map] at q
    cases hb : bg[m]? with
    | none => rw [hb] at q; cases q
    | some x =>
      rw [hb] at q
      have q2 : ((x : Nat) : Int) = (i : Int) := by simpa using q
      have : x = i := by omega
      exact h2 m hm (by rw [hb, this])
  · rw [h3] at h
    have : ((bg.map fun (i : Nat) => (i : Int)).eraseIdx j).map V.int = (bg.eraseIdx j).map fun (i : Nat) => V.int (i : Int) := by
      rw [erase_mapI', List.map_map]; rfl
    rw [this]; exact h
/-- the draws' state beside a frame -/
theorem Ap.dr {st gr cl0 : Addr} {g : Wg} (ap : Ap st gr cl0 g) {S : List Addr} (h : ∀ a ∈ S, a ∈ foot g) : st ∉ S ∧ gr ∉ S ∧ cl0 ∉ S := by
  have key : ∀ a ∈ foot g, a ≠ st ∧ a ≠ gr ∧ a ≠ cl0 := fun a ha => by
    unfold foot at ha
    simp only [List.mem_cons] at ha
    rcases ha with rfl | rfl | rfl | rfl | rfl | rfl | rfl | ha
    · exact ap.a _ (by simp)
    · exact ap.a _ (by simp)
    · exact ap.a _ (by simp)
    · exact ap.a _ (by simp)
    · exact ap.a _ (by simp)
    · exact ap.a _ (by simp)
    · exact ap.a _ (by simp)
    · obtain ⟨R, hR, rfl⟩ := List.mem_map.mp ha
      exact ap.r R hR
  exact ⟨fun hs => (key _ (h _ hs)).1 rfl, fun hs => (key _ (h _ hs)).2.1 rfl, fun hs => (key _ (h _ hs)).2.2 rfl⟩
theorem ms_all {S : List Addr} {st gr : Addr} {g : Wg} (h : ∀ a ∈ S, a ∈ foot g) : ∀ a ∈ S, a ∈ st :: gr :: foot g := fun a ha => List.mem_cons_of_mem _ (List.mem_cons_of_mem _ (h a ha))
theorem stgr {st gr : Addr} {l : List Addr} : ∀ a ∈ [st, gr], a ∈ st :: gr :: l := fun a ha => by
  rcases List.mem_cons.mp ha with rfl | ha
  · exact List.mem_cons_self
  · rw [List.mem_singleton.mp ha]; exact List.mem_cons_of_mem _ List.mem_cons_self
theorem Ap.setR {st gr cl0 : Addr} {g : Wg} (ap : Ap st gr cl0 g) {i : Nat} {R : Rp} {t : Option Int} {bg : List Nat} {tn : Int} (hi : g.Rs[i]? = some R) (nd : (g.Rs.map Rp.r).Nodup) : Ap st gr cl0 { g with Rs := g.Rs.set i { R with t := t }, bg := bg, tn := tn } :=
  ⟨ap.a, fun R' hR => by
    rcases set_other hi nd hR with rfl | ⟨h1, _⟩
    · exact ap.r R (List.mem_of_getElem? hi)
    · exact ap.r R' h1⟩
theorem foot_setR {g : Wg} {i : Nat} {R : Rp} {t : Option Int} {bg : List Nat} {tn : Int} (hi : g.Rs[i]? = some R) : foot { g with Rs := g.Rs.set i { R with t := t }, bg := bg, tn := tn } = foot g := by
  unfold foot
  show _ :: _ :: _ :: _ :: _ :: _ :: _ :: (g.Rs.set i { R with t := t }).map Rp.r = _
  rw [map_set_r (R' := { R with t := t }) hi rfl]
end Z

end
section
local macro_rules | `(tactic| walk_at "ne") => `(tactic| first
  | assumption
  | (refine Z.ne_sym ?_; assumption)
  | (refine' Z.ne_new ?ka ?kb; (case ka => assumption); (case kb => walk_at "h"))
  | (refine' Z.ne_sym (Z.ne_new ?ka ?kb); (case ka => assumption); (case kb => walk_at "h"))
  | ((with_reducible refine' Z.ne_nw ?ka ?kb ?kc); (case ka => assumption); (case kb => walk_at "h"); (case kc => rfl))
  | ((with_reducible refine' Z.ne_sym (Z.ne_nw ?ka ?kb ?kc)); (case ka => assumption); (case kb => walk_at "h"); (case kc => rfl))
  | exact L2.ne_of (by assumption) (by assumption) (by intro z; cases z)
  | exact Z.ne_sym (L2.ne_of (by assumption) (by assumption) (by intro z; cases z)))
local macro_rules | `(tactic| walk_at "nm") => `(tactic| first
  | exact Z.nm_nil
  | exact Z.nm_cons (by walk_at "ne") (by walk_at "nm"))
local macro_rules | `(tactic| walk_at "h") => `(tactic| first
  | assumption
  | exact L2.upd_same
  | ((with_reducible refine' Eq.trans (L2.upd_ne ?ka) ?kb); (case ka => walk_at "ne"); (case kb => walk_at "h"))
  | ((with_reducible refine' Z.Fr.at ?ka ?kb ?kc ?kd); (case ka => assumption); (case kb => walk_at "h"); (case kc => walk_at "nm"); (case kd => rfl))
  | ((with_reducible refine' Z.Fr.tup ?ka ?kb); (case ka => assumption); (case kb => walk_at "h")))
local macro_rules | `(tactic| walk_at "free") => `(tactic| first
  | assumption
  | exact Z.Nw.of (by assumption)
  | ((with_reducible refine' Z.Fr.free ?ka ?kb); (case ka => assumption); (case kb => walk_at "free")))
local macro_rules | `(tactic| walk_at "ms") => `(tactic| first
  | exact Or.inl List.mem_cons_self
  | exact Or.inl (List.mem_cons_of_mem _ List.mem_cons_self)
  | (left; simp; done)
  | (right; walk_at "free"))
local macro_rules | `(tactic| walk_at "sub") => `(tactic| first
  | exact Z.sub_nil
  | ((with_reducible refine' Z.sub_cons ?ka ?kb); (case ka => walk_at "ms"); (case kb => walk_at "sub")))
local macro_rules | `(tactic| walk_at "fr") => `(tactic| first
  | assumption
  | exact Z.Fr.refl _ _
  | ((with_reducible refine' Z.Fr.new ?ka ?kb); (case kb => assumption); (case ka => walk_at "fr"))
  | ((with_reducible refine' Z.Fr.upd ?ka ?kb ?kc ?kd ?ke); (case kb => walk_at "ms"); (case kc => walk_at "h"); (case kd => rfl); (case ke => rfl); (case ka => walk_at "fr"))
  | ((with_reducible refine' Z.Fr.step ?ka ?kb ?kc); (case ka => assumption); (case kb => walk_at "fr"); (case kc => walk_at "sub")))
local macro_rules | `(tactic| walk_at "dt") => `(tactic| first
  | assumption
  | (refine Z.DT.new ?_ (by assumption); walk_at "dt")
  | (refine Z.DTs.new ?_ (by assumption); walk_at "dt")
  | (refine' Z.DT.wr ?ka ?kb ?kc; (case kb => walk_at "h"); (case kc => rfl); (case ka => walk_at "dt"))
  | (refine' Z.DTs.wr ?ka ?kb ?kc; (case kb => walk_at "h"); (case kc => rfl); (case ka => walk_at "dt"))
  | (refine' Z.DT.fr ?ka ?kb; (case kb => assumption); (case ka => walk_at "dt"))
  | (refine' Z.DTs.fr ?ka ?kb; (case kb => assumption); (case ka => walk_at "dt")))
local macro_rules | `(tactic| walk_at "len") => `(tactic| first
  | exact Z.lt_ok (Nat.le_of_ble_eq_true (by with_unfolding_all rfl))
  | exact Z.le_ok (Nat.le_of_ble_eq_true (by with_unfolding_all rfl))
  | (apply Z.lt_ok; (try simp only [List.length_append, List.length_cons, List.length_nil, List.length_map, List.length_set, List.length_eraseIdx] at *); omega)
  | (apply Z.le_ok; (try simp only [List.length_append, List.length_cons, List.length_nil, List.length_map, List.length_set, List.length_eraseIdx] at *); omega))
local macro_rules | `(tactic| walk_at "r") => `(tactic| first
  | (with_reducible refine Z.rd_seq ?_)
  | (with_reducible refine Z.rd_asg ?_)
  | (with_reducible refine Z.rd_gname ?_)
  | (with_reducible refine Z.rd_ifs ?_)
  | (with_reducible refine Z.rd_next ?_)
  | (with_reducible refine Z.rd_and ?_)
  | (with_reducible refine Z.rd_or ?_)
  | (with_reducible refine Z.rd_not ?_)
  | (with_reducible refine Z.rd_test ?_)
  | (with_reducible refine Z.rd_tb ?_)
  | (with_reducible refine Z.rd_bl ?_)
  | (with_reducible refine Z.rd_op ?_)
  | (with_reducible refine Z.rd_c ?_)
  | ((with_reducible refine' Z.rd_var ?ka ?_); (case ka => with_unfolding_all rfl))
  | (with_reducible refine Z.rd_ret ?_)
  | (with_reducible refine Z.rd_retn ?_)
  | (with_reducible refine Z.rd_drop ?_)
  | (with_reducible refine Z.rd_nil ?_)
  | (with_reducible refine Z.rd_cons ?_)
  | (with_reducible refine Z.rd_cb ?_)
  | (with_reducible refine Z.rd_call ?_)
  | (with_reducible refine Z.rd_dget0 ?_)
  | ((with_reducible refine' Z.rd_dget1 ?ka ?kb ?_); (case ka => walk_at "h"); (case kb => with_unfolding_all rfl))
  | (with_reducible refine Z.rd_dput0 ?_)
  | ((with_reducible refine' Z.rd_dput1 ?ka ?kb ?_); (case ka => walk_at "h"); (case kb => walk_at "len"))
  | (with_reducible refine Z.rd_eqi ?_)
  | (with_reducible refine Z.rd_eqs ?_)
  | (with_reducible refine Z.rd_nei ?_)
  | (with_reducible refine Z.rd_nes ?_)
  | (with_reducible refine Z.rd_i0 ?_)
  | (with_reducible refine Z.rd_lst ?_)
  | (with_reducible refine Z.rd_tup ?_)
  | (with_reducible refine Z.rd_ifx ?_)
  | (with_reducible refine Z.rd_bm ?_)
  | (with_reducible refine Z.rd_bm0 ?_)
  | ((with_reducible refine' Z.rd_nil2 ?ka ?kb ?_); (case ka => walk_at "h"); (case kb => walk_at "h"))
  | ((with_reducible refine' Z.rd_nil2T ?ka ?kb ?_); (case ka => walk_at "h"); (case kb => walk_at "h"))
  | (with_reducible refine Z.rd_int1 ?_)
  | ((with_reducible refine' Z.rd_size ?ka ?_); (case ka => walk_at "len"))
  | ((with_reducible refine' Z.rd_tylist ?ka ?_); (case ka => walk_at "h"))
  | ((with_reducible refine' Z.rd_i ?ka ?_); (case ka => walk_at "num"))
  | ((with_reducible refine' Z.rd_append ?ka ?kb ?_); (case ka => walk_at "h"); (case kb => walk_at "len"))
  | (with_reducible refine Z.rd_for' ?_)
  | (with_reducible refine Z.rd_lc' ?_)
  | (with_reducible refine Z.rd_un ?_)
  | (with_reducible refine Z.rd_gm ?_)
  | (with_reducible refine Z.rd_xk ?_)
  | (with_reducible refine Z.rd_stard ?_)
  | ((with_reducible refine' Z.rd_stard1 ?ka ?_); (case ka => walk_at "h"))
  | (with_reducible refine Z.rd_star ?_)
  | ((with_reducible refine' Z.rd_star1 ?ka ?_); (case ka => walk_at "h"))
  | (with_reducible refine Z.rd_dc' ?_)
  | (with_reducible refine Z.rd_dnew ?_)
  | (with_reducible refine Z.rd_dpop ?_)
  | ((with_reducible refine' Z.rd_isd ?ka ?_); (case ka => walk_at "h"))
  | (with_reducible refine Z.rd_fldaug ?_)
  | (with_reducible refine Z.rd_ilt ?_)
  | (with_reducible refine Z.rd_mko ?_)
  | (with_reducible refine Z.rd_gk ?_)
  | (with_reducible refine Z.rd_gp ?_)
  | ((with_reducible refine' Z.rd_ins1 ?ka ?_); (case ka => walk_at "h"))
  | (with_reducible refine Z.rd_disp ?_)
  | (with_reducible refine Z.rd_pnil ?_)
  | (with_reducible refine Z.rd_pcons ?_)
  | (with_reducible refine Z.rd_m1 ?_)
  | (with_reducible refine Z.rd_isstr ?_)
  | (with_reducible refine Z.rd_sl ?_)
  | (with_reducible refine Z.rd_nopart ?_)
  | (with_reducible refine Z.rd_part ?_)
  | (with_reducible refine Z.rd_part1 ?_)
  | (with_reducible refine Z.rd_u ?_)
  | (with_reducible refine Z.rd_ilist ?_)
  | (with_reducible refine Z.rd_itup ?_)
  | (with_reducible refine Z.rd_istr ?_)
  | (with_reducible refine Z.rd_irng1 ?_)
  | (with_reducible refine Z.rd_yes ?_)
  | (with_reducible refine Z.rd_sfld0 ?_)
  | (with_reducible refine Z.rd_fld0 ?_)
  | (with_reducible refine Z.rd_din ?_)
  | (with_reducible refine Z.rd_dnotin ?_)
  | (with_reducible refine Z.rd_isn ?_)
  | (with_reducible refine Z.rd_notn ?_)
  | (with_reducible refine Z.rd_par ?_)
  | (with_reducible refine Z.rd_par1 ?_)
  | (with_reducible refine Z.rd_gnil ?_)
  | (with_reducible refine Z.rd_gcons ?_)
  | (with_reducible refine Z.rd_chain ?_)
  | (with_reducible refine Z.rd_andv ?_)
  | (with_reducible refine Z.rd_orv ?_)
  | (with_reducible refine Z.rd_notv ?_)
  | (with_reducible refine Z.rd_meth ?_)
  | (with_reducible refine Z.rd_while ?_)
  | ((with_reducible refine' Z.rd_ixl ?ka ?kb ?_); (case ka => walk_at "h"); (case kb => walk_at "ati"))
  | ((with_reducible refine' Z.rd_ixt ?ka ?kb ?_); (case ka => walk_at "h"); (case kb => walk_at "ati"))
  | ((with_reducible refine' Z.rd_len ?ka ?_); (case ka => walk_at "h"))
  | ((with_reducible refine' Z.rd_lens ?ka ?_); (case ka => walk_at "h"))
  | ((with_reducible refine' Z.rd_lent ?ka ?_); (case ka => walk_at "h"))
  | ((with_reducible refine' Z.rd_lstof ?ka ?_); (case ka => walk_at "h"))
  | ((with_reducible refine' Z.rd_tupof ?ka ?_); (case ka => walk_at "h"))
  | ((with_reducible refine' Z.rd_sfld1 ?ka ?kb ?kc ?kd ?_); (case ka => walk_at "h"); (case kb => assumption); (case kc => assumption); (case kd => (first | (with_unfolding_all decide) | exact Nat.le_of_ble_eq_true (by with_unfolding_all rfl))))
  | ((with_reducible refine' Z.rd_fld1 ?ka ?kb ?kc ?kd ?_); (case ka => walk_at "h"); (case kb => assumption); (case kc => assumption); (case kd => with_unfolding_all rfl))
  | ((with_reducible refine' Z.rd_din1 ?ka ?_); (case ka => walk_at "h"))
  | ((with_reducible refine' Z.rd_gtup ?ka ?kb ?_); (case ka => walk_at "h"); (case kb => with_unfolding_all rfl))
  | ((with_reducible refine' Z.rd_catl ?ka ?kb ?kc ?_); (case ka => walk_at "h"); (case kb => walk_at "h"); (case kc => walk_at "len"))
  | ((with_reducible refine' Z.rd_meth1 ?ka ?kb ?_); (case ka => walk_at "h"); (case kb => with_unfolding_all rfl))
  | ((with_reducible refine' Z.rd_addstr ?ka ?_); (case ka => walk_at "len")))
local macro_rules | `(tactic| walk_at "ati") => `(tactic| first
  | assumption
  | (with_unfolding_all rfl)
  | exact L2.atI_nat (by assumption)
  | exact L2.atI_nat (by with_unfolding_all rfl)
  | exact L2.atI_last _ _)
local macro_rules | `(tactic| walk_at "rr") => `(tactic| repeat (walk_at "r"))
local macro_rules | `(tactic| walk_at "num") => `(tactic| first
  | (with_unfolding_all decide)
  | (show (_ : Int) ≠ 0; omega)
  | (show (_ : Int) ≠ 0 ∧ _ < 1073741824; exact ⟨by omega, by omega⟩)
  | (show (0 : Int) ≤ _ ∧ _ ≤ (1000000 : Int) ∧ _; exact ⟨by decide, by decide, by omega⟩)
  | (show (-(2 ^ 64) < (_ : Int) ∧ _ < 2 ^ 64) ∨ _; (first | (left; exact ⟨by omega, by omega⟩) | (right; exact ⟨by omega, by omega⟩)))
  | omega)
namespace Z
open PySem PySem.Spec PyProof.Rows L2
abbrev s__law_force_step : Stmt := top 31
abbrev n__law_force_step : List Str := ["state", "box", "stead", "title", "made", "begun", "worth", "some", "spot", "mine", "is_in", "due"]
theorem sc__law_force_step : FnScope n__law_force_step ["state", "box", "stead", "title"] (defScope s__law_force_step) := ⟨rfl, rfl, rfl, by decide +kernel, rfl, by decide +kernel, by decide +kernel⟩
def sp_force (Λ : List (Addr × Str)) (C CR : Addr) : Sp := fun vs H Q _ => ∃ (st gr cl0 : Addr) (n : Nat) (g : Wg) (z : Str), vs = [.ref st, .ref g.bx, .ref g.pl, .str z] ∧ Dr st gr cl0 (n + 60) H ∧ Wd C CR H g ∧ Ap st gr cl0 g ∧ z ∈ g.ts ∧ LamX.Tabs Λ H ∧ g.Rs.length < 500 ∧ g.bg.length < 500 ∧
  ∀ g' H', Dr st gr cl0 n H' → Wd C CR H' g' → Ap st gr cl0 g' → g'.bx = g.bx → g'.pl = g.pl → g'.ts = g.ts → g'.Rs.length ≤ g.Rs.length + 1 → g'.bg.length ≤ g.bg.length + 1 → g'.kl = g.kl → g'.kp = g.kp → (∀ a ∈ foot g', a ∈ foot g ∨ Nw H a) → Fr Λ (st :: gr :: foot g) H H' → Q (.bl true) H'
structure G10 (Λ : List (Addr × Str)) (P : Program) (w : World) (K : PySem.W.Frag) (mg : Str → Option Value) (base : Heap) (C CR CT CN CB : Addr) : Prop where
  law_take : GD false P w K mg base "_law_take" ["state", "size"] 2 (sp_take Λ)
  law_value : GD false P w K mg base "_law_value" ["state", "deep"] 6 (sp_value Λ 3)
  law_result : GRes K mg CT CN CB
  Places_replaced : GM false P w K mg base C "replaced" 6 (fun vs H Q E => ∃ ws rest, vs = ws ++ rest ∧ ws.length = ["self", "name"].length ∧ rest.length ≤ 1000 ∧ ∀ p, H p = none → sp_replaced Λ C CR (ws ++ [V.ref p]) (L2.upd H p (.tup rest)) Q E)
  Replacement_begin : GM false P w K mg base CR "begin" 3 (sp_begin Λ C CR CB)
  Replacement_end : GM false P w K mg base CR "end" 3 (sp_end Λ C CR CB)
  Replacement_in_force : GP false P w K mg base CR "in_force" 1 (sp_in_force C CR)
section
variable {γ : Bool} {Λ : List (Addr × Str)} {P : Program} {w : World} {K : PySem.W.Frag} {mg : Str → Option Value} {base : Heap} {C CR CT CN CB : Addr}
theorem ok_force {f c Pt : Addr} {fd : FuncData} (F : FunC K "_law_force_step" "_law_force_step" s__law_force_step f fd c) (TB : LamX.TabB base mg c Pt) (hmT : (Pt, (("_law_force_step" : Str) ++ ".<locals>." ++ "<lambda>")) ∈ Λ) (hu1 : ∀ p ∈ Λ, p.1 = Pt → p.2 = (("_law_force_step" : Str) ++ ".<locals>." ++ "<lambda>"))
    (T : T8 P K mg C CR CN CB) (G : G10 Λ P w K mg base C CR CT CN CB) : GOk γ P w K mg base 12 f fd ["state", "box", "stead", "title"] (sp_force Λ C CR) := by
  refine g_ofC F sc__law_force_step (fun vs H Q E h => ?_) (fun A outer s H vs Q E hA hr h => ?_)
  · obtain ⟨st, gr, cl0, n, g, z, rfl, _⟩ := h
    rfl
  · obtain ⟨st, gr, cl0, n, g, z, rfl, hD, hW, hAp, hz, hTab, hl1, hl2, k⟩ := h
    have hu := hu_of hr
    obtain ⟨cP, cR, n1, n2, n3, n4, n5, n6, n7⟩ := T.toTP
    refine ⟨_, (pss_cons (ps_par rfl sc__law_force_step.nd (i := 4) (j := 5) rfl rfl (by decide) rfl rfl (pa_cons (pe_dget hu (pv 1) pe_str (fun _ _ => rfl)) (pa_cons (pe_dget hu (pv 1) pe_str (fun _ _ => rfl)) pa_nil)) (by rfl))
      (pss_cons (ps_if (PW.pt (pw_or (pt_cmpR (op_eqNil hr.units0) (pv 4) (pe_lst pa_nil) (nomark _)) (pw_or1 (pt_cmpR op_eq (pe_g G.law_take (by first | exact hA | exact fun z => nomatch z) (hr.mono (by first | decide | omega)) rfl passL (pa_cons (pv 0) (pa_cons pe_int pa_nil))) pe_int (nomark _)))))
      (pss_cons (ps_set (i := 6) sc__law_force_step.nd rfl (.inl rfl) (pe_g G.law_value (by first | exact hA | exact fun z => nomatch z) (hr.mono (by first | decide | omega)) rfl passL (pa_cons (pv 0) (pa_cons pe_int pa_nil))))
      (pss_cons (ps_set (i := 7) sc__law_force_step.nd rfl (.inl rfl) (pe_ifExp (pt_cmpR op_eq (pe_g G.law_take (by first | exact hA | exact fun z => nomatch z) (hr.mono (by first | decide | omega)) rfl passL (pa_cons (pv 0) (pa_cons pe_int pa_nil))) pe_int (nomark _)) (pe_tup pa_nil) (pe_tup (pa_cons (pv 6) pa_nil))))
      (pss_cons (ps_expr (pe_bm PySem.F.plainAttrs_list PySem.F.slot_list_append PySem.F.type_list_append mt_append (pv 4) (pa_cons (pe_tup (pa_cons (pv 3) (pa_cons (pv 7) (pa_cons (pe_ifExp (pt_cmpR (op_neNilT hr.units0) (pv 7) (pe_tup pa_nil) (nomark _)) (pe_gm G.Places_replaced T.cP (by first | exact hA | exact fun z => nomatch z) (hr.mono (by first | decide | omega)) passL (pv 2) (pa_cons (pv 3) (pa_cons (pv 6) pa_nil))) (pe_gm G.Places_replaced T.cP (by first | exact hA | exact fun z => nomatch z) (hr.mono (by first | decide | omega)) passL (pv 2) (pa_cons (pv 3) pa_nil))) pa_nil)))) pa_nil)))
      (pss_one (ps_ret (pe_cmpR op_isBl (pe_gp G.Replacement_in_force T.cR (by first | exact hA | exact fun z => nomatch z) (hr.mono (by first | decide | omega)) (pe_ix ix_tup (pe_ix ix_list (pv 4) (pe_un un_neg pe_int) (fun _ _ => rfl)) pe_int (fun _ _ => rfl)) rfl) pe_bl (nomark _)))))))
      pss_nil)
      (pss_cons (ps_set (i := 8) sc__law_force_step.nd rfl (.inl rfl) (pe_g G.law_take (by first | exact hA | exact fun z => nomatch z) (hr.mono (by first | decide | omega)) rfl passL (pa_cons (pv 0) (pa_cons (pe_callB call_len_seq (by rfl) T.b_len (by decide +kernel) (pa_cons (pv 4) pa_nil)) pa_nil))))
      (pss_cons (ps_asg (pe_tup (pa_cons (pe_ix ix_tup (pe_ix ix_list (pv 4) (pv 8) (fun _ _ => rfl)) pe_int (fun _ _ => rfl)) (pa_cons (pe_cmpR op_in_seq (pv 8) (pv 5) rfl) pa_nil))) (pg_tup rfl (pgs_cons (pg_name (i := 9) sc__law_force_step.nd rfl (.inr rfl)) (pgs_cons (pg_name (i := 10) sc__law_force_step.nd rfl (.inl rfl)) pgs_nil))))
      (pss_cons (ps_if (pt_cmpR op_eq (pe_g G.law_take (by first | exact hA | exact fun z => nomatch z) (hr.mono (by first | decide | omega)) rfl passL (pa_cons (pv 0) (pa_cons pe_int pa_nil))) pe_int (nomark _))
      (pss_cons (ps_set (i := 11) sc__law_force_step.nd rfl (.inl rfl) (pe_ifExp (pt_val (pv 10)) (pe_tup (pa_cons pe_str (pa_cons pe_non pa_nil))) (pe_tup (pa_cons pe_str (pa_cons pe_non pa_nil)))))
      (C8.pss_cut (ps_if (pt_not (pt_val (pv 10)))
      (pss_one (ps_expr (pe_bm PySem.F.plainAttrs_list PySem.F.slot_list_append PySem.F.type_list_append mt_append (pv 5) (pa_cons (pv 8) pa_nil))))
      pss_nil)
      (pss_one (ps_ret (pe_cmpR (op_eqD hr.units) (Z.pe_res (k := 6) G.law_result rfl TB rfl hmT hu1 (hr.mono (by first | decide | omega)) (LamX.lamS_by (sc := defScope s__law_force_step) (by decide +kernel)) rfl (fun _ _ _ _ _ => rfl) (fun A outer s H E f c' hrl => (pe_gm0 G.Replacement_begin T.cR (by first | exact hA | exact fun z => nomatch z) (hrl.mono (by first | decide | omega)) (Z.passY (E := E) rfl rfl rfl rfl) (pv 9)))) (pv 11) (nomark _))))))
      pss_nil)
      (C8.pss_cut (ps_if (pt_val (pv 10))
      (pss_one (ps_expr (pe_bm PySem.F.plainAttrs_list PySem.F.slot_list_remove PySem.F.type_list_remove mt_remove (pv 5) (pa_cons (pv 8) pa_nil))))
      pss_nil)
      (pss_one (ps_ret (pe_cmpR (op_eqD hr.units) (Z.pe_res (k := 6) G.law_result rfl TB rfl hmT hu1 (hr.mono (by first | decide | omega)) (LamX.lamS_by (sc := defScope s__law_force_step) (by decide +kernel)) rfl (fun _ _ _ _ _ => rfl) (fun A outer s H E f c' hrl => (pe_gm0 G.Replacement_end T.cR (by first | exact hA | exact fun z => nomatch z) (hrl.mono (by first | decide | omega)) (Z.passY (E := E) rfl rfl rfl rfl) (pv 9)))) (pe_ifExp (pt_val (pv 10)) (pe_tup (pa_cons pe_str (pa_cons pe_non pa_nil))) (pe_tup (pa_cons pe_str (pa_cons pe_non pa_nil)))) (nomark _)))))))))), ?_⟩
    have b1 := hW.B.box
    unfold bxK at b1
    have b3 := hW.B.bm
    have b4 := hW.B.bb
    have hzn := hW.tn z hz
    have hll := hW.B.ll
    walk_at "rr"
    intro e0 he0
    walk_at "rr"
    have hD0 := hD.new (o := .lst []) he0
    have hF0 : Fr Λ [] H (L2.upd H e0 (.lst [])) := (Fr.refl [] H).new he0
    have hml : (g.Ls.map fun l => V.ref l.1).isEmpty = decide (g.Rs = []) := by
      cases hR : g.Rs with
      | nil => rw [hR] at hll; rw [List.length_eq_zero_iff.mp hll]; rfl
      | cons a b => rw [hR] at hll; cases hL : g.Ls with
        | nil => rw [hL] at hll; cases hll
        | cons c d => rfl
    rw [hml]
    refine rd_ite (fun hnil => ?ga) (fun hnil => ?gb)
    case' ga =>
      refine iteT ?_
      generalize L2.upd H e0 (.lst []) = H1 at hD0 hF0 ⊢
      have hD1 : Dr st gr cl0 (n + 50) H1 := hD0.less (by omega)
      have hF1 : Fr Λ [st, gr] H H1 := hF0.mono (by simp)
    case' gb =>
      walk_at "rr"
      refine ⟨st, gr, cl0, n + 50, 3, rfl, by decide, by decide, hD0.less (by omega), fun r H1 r0 r1 hD1 hF1 => ?_⟩
      have hF1 : Fr Λ [st, gr] H H1 := (hF0.mono (by simp)).trans hF1
      walk_at "rr"
      refine rd_ite (fun hr0 => ?_) (fun hr0 => ?_)
      rotate_left
      · have hW1 := hW.keepD hF1 hAp
        have b1 := hW1.B.box
        unfold bxK at b1
        have b3 := hW1.B.bm
        have b4 := hW1.B.bb
        have hlen : 0 < g.Rs.length := List.length_pos_iff.mpr hnil
        have hlen2 := hW.P.few.2
        walk_at "rr"
        refine ⟨st, gr, cl0, n + 49, _, rfl, by rw [List.length_map]; omega, by rw [List.length_map]; omega, hD1, fun q H2 q0 q1 hD2 hF2 => ?_⟩
        rw [List.length_map, hll] at q1
        obtain ⟨i, rfl⟩ : ∃ i : Nat, q = (i : Int) := ⟨q.toNat, by omega⟩
        have hi : i < g.Rs.length := by omega
        have hF02 : Fr Λ [st, gr] H H2 := hF1.trans hF2
        have hW2 := hW.keepD hF02 hAp
        obtain ⟨R, hR⟩ : ∃ R, g.Rs[i]? = some R := ⟨_, List.getElem?_eq_getElem hi⟩
        obtain ⟨l, hl⟩ : ∃ l, g.Ls[i]? = some l := ⟨_, List.getElem?_eq_getElem (by rw [hll]; exact hi)⟩
        have hm := List.mem_of_getElem? hR
        obtain ⟨t1, t2⟩ := hW2.B.ls i l R hl hR
        have c3 := hW2.B.bm
        have c4 := hW2.B.bb
        have hat : atI (g.Ls.map fun l => V.ref l.1) (i : Int) = some (V.ref l.1) := atI_nat (by simp [hl])
        walk_at "rr"
        refine rd_in c4 rfl (flat_ints _) ?_
        rw [if_neg Bool.false_ne_true, inV_int]
        generalize hbb : decide (i ∈ g.bg) = bb
        walk_at "rr"
        intro e1 he1
        have hD3 := hD2.new (o := .tup [.ref R.r, .bl bb]) he1
        have hF3 : Fr Λ [] H2 (L2.upd H2 e1 (.tup [.ref R.r, .bl bb])) := (Fr.refl [] H2).new he1
        have he1' : L2.upd H2 e1 (.tup [.ref R.r, .bl bb]) e1 = some (.tup [.ref R.r, .bl bb]) := upd_same
        generalize L2.upd H2 e1 (.tup [.ref R.r, .bl bb]) = H3 at hD3 hF3 he1' ⊢
        walk_at "rr"
        refine ⟨st, gr, cl0, n, 2, rfl, by decide, by decide, hD3.less (by omega), fun r2 H4 _ _ hD4 hF4 => ?_⟩
        have hF04 : Fr Λ [st, gr] H H4 := hF02.trans ((hF3.mono (by simp)).trans hF4)
        have hW4 := hW.keepD hF04 hAp
        have hTab4 := hF04.tabs hTab
        have d4 := hW4.B.bb
        have hon := hW.on i R hR
        have hbl : g.bg.length ≤ 1000 := hW.B.lf.2
        have sB : ∀ a ∈ [g.bb], a ∈ foot g := fun a ha => by rw [List.mem_singleton.mp ha]; unfold foot; simp
        have sR : ∀ a ∈ [g.pl, R.r], a ∈ foot g := fun a ha => by
          rcases List.mem_cons.mp ha with rfl | ha
          · unfold foot; simp
          · rw [List.mem_singleton.mp ha]; exact foot_r hm
        have sR1 : ∀ a ∈ [R.r], a ∈ foot g := fun a ha => sR a (List.mem_cons_of_mem _ ha)
        walk_at "rr"
        refine rd_ite (fun hr2 => ?_) (fun hr2 => ?_)
        · walk_at "rr"
          cases bb with
          | true =>
            have hin : i ∈ g.bg := of_decide_eq_true hbb
            refine iteT ?_
            walk_at "rr"
            intro q hq
            walk_at "rr"
            have hq1 : L2.upd H4 q (.tup [.str "order", .non]) q = some (.tup [.str "order", .non]) := upd_same
            have hF5 : Fr Λ [] H4 (L2.upd H4 q (.tup [.str "order", .non])) := (Fr.refl [] H4).new hq
            generalize L2.upd H4 q (.tup [.str "order", .non]) = H5 at hq1 hF5 ⊢
            refine rd_cut (fun σ H' => H' = H5 ∧ σ[9]? = some (some (.ref R.r)) ∧ σ[11]? = some (some (.ref q))) ?_ ?_
            · walk_at "rr"
              refine iteF ?_
              walk_at "rr"
              exact ⟨rfl, rfl, rfl⟩
            · rintro σ H' ⟨rfl, s9, s11⟩
              walk_at "rr"
              refine rd_res (hF5.tabs hTab4) fun H6 hF6 Q' hQ' => ?_
              have hW6 := hW4.keep0 (hF5.trans hF6)
              have hR6 := (hW6.P.rp R hm).1
              refine rd_gm ?_
              refine rd_var s9 ?_
              refine ⟨R.r, _, _, rfl, hR6, rfl, ?_⟩
              walk_at "rr"
              refine ⟨g.pl, g.dx, g.hd, g.md, g.kp, g.Rs, g.tn, i, R, rfl, hR, hW6.P, fun H7 hn _ _ => ?_, fun t ht => .inr ⟨rfl, rfl, fun H7 r7 hF7 hr7 => ?_⟩⟩
              · rw [hn] at hon
                exact absurd (hon.mpr hin) (by simp)
              have hF57 := hF6.trans hF7
              have hq7 := hF57.tup hq1
              have hF47 := hF5.trans hF57
              refine rd_var s11 ?_
              refine ⟨.tuple [.str "order", .none], .tuple [.str "order", .none], .tup (SqT.of hr7) (.cons (.str _) (.cons .non .nil)), .tup (SqT.of hq7) (.cons (.str _) (.cons .non .nil)), by decide +kernel, by decide +kernel, ?_⟩
              rw [show PyData.eqv (.tuple [.str "order", .none]) (.tuple [.str "order", .none]) = true by decide +kernel]
              exact k g H7 (hD4.keep hF47 nm_nil nm_nil nm_nil) (hW4.keep0 hF47) hAp rfl rfl rfl (by omega) (by omega) rfl rfl (fun a ha => .inl ha) ((hF04.mono stgr).trans (hF47.mono (by simp)))
          | false =>
            have hin : i ∉ g.bg := of_decide_eq_false hbb
            have hRt : R.t = none := by
              cases ht : R.t with
              | none => rfl
              | some t => rw [ht] at hon; exact absurd (hon.mp rfl) hin
            refine iteF ?_
            walk_at "rr"
            intro q hq
            walk_at "rr"
            have hq1 : L2.upd H4 q (.tup [.str "gave", .non]) q = some (.tup [.str "gave", .non]) := upd_same
            have hF5 : Fr Λ [] H4 (L2.upd H4 q (.tup [.str "gave", .non])) := (Fr.refl [] H4).new hq
            generalize L2.upd H4 q (.tup [.str "gave", .non]) = H5 at hq1 hF5 ⊢
            have hW5 := hW4.keep0 hF5
            have d5 := hW5.B.bb
            refine rd_cut (fun σ H' => H' = L2.upd H5 g.bb (.lst ((g.bg ++ [i]).map fun (i : Nat) => V.int (i : Int))) ∧ σ[9]? = some (some (.ref R.r)) ∧ σ[11]? = some (some (.ref q))) ?_ ?_
            · walk_at "rr"
              refine iteT ?_
              walk_at "rr"
              exact ⟨by rw [List.map_append]; rfl, rfl, rfl⟩
            · rintro σ H' ⟨rfl, s9, s11⟩
              have hB6 := hW5.B.putB (bg' := g.bg ++ [i]) (Rs' := g.Rs.set i { R with t := some (g.tn + 1) }) (tn' := g.tn + 1) hW.mb (by rw [List.length_append, List.length_singleton]; omega) (fun j hj => by
                rw [List.length_set]
                rcases List.mem_append.mp hj with h | h
                · exact hW.B.bl j h
                · rw [List.mem_singleton.mp h]; exact hi) (by rw [List.length_set]) (set_like hR)
              have hF6 : Fr Λ [g.bb] H5 (L2.upd H5 g.bb (.lst ((g.bg ++ [i]).map fun (i : Nat) => V.int (i : Int)))) := (Fr.refl [g.bb] H5).upd (.inl List.mem_cons_self) d5 rfl
              have hP6 := hW5.P.keep hF6 (nm_cons (ne_of hW5.P.ins d5 (by intro z; cases z)) nm_nil) (nm_cons (ne_of hW5.P.held d5 (by intro z; cases z)) nm_nil) (nm_cons hW.mb2 nm_nil) (fun S hS => nm_cons (ne_of (hW5.P.rp S hS).1 d5 (by intro z; cases z)) nm_nil)
              have hq6 := hF6.tup hq1
              have hT6 := hF6.tabs (hF5.tabs hTab4)
              generalize L2.upd H5 g.bb (.lst ((g.bg ++ [i]).map fun (i : Nat) => V.int (i : Int))) = H6 at hB6 hF6 hP6 hq6 hT6 ⊢
              walk_at "rr"
              refine rd_res hT6 fun H7 hF7 Q' hQ' => ?_
              have hP7 := hP6.keep0 hF7
              have hR7 := (hP7.rp R hm).1
              refine rd_gm ?_
              refine rd_var s9 ?_
              refine ⟨R.r, _, _, rfl, hR7, rfl, ?_⟩
              walk_at "rr"
              refine ⟨g.pl, g.dx, g.hd, g.md, g.kp, g.Rs, g.tn, i, R, rfl, hR, hP7, fun H8 _ hP8 hF8 => hQ' _ _ fun H9 r9 hF9 hr9 => ?_, fun t ht => ?_⟩
              rotate_left
              · rw [hRt] at ht; cases ht
              have hq9 := hF9.tup (hF8.tup (hF7.tup hq6))
              have hF59 : Fr Λ ([g.bb] ++ [g.pl, R.r]) H5 H9 := (hF6.mono (by simp)).trans ((hF7.mono (by simp)).trans ((hF8.mono (by simp)).trans (hF9.mono (by simp))))
              have hF49 : Fr Λ ([g.bb] ++ [g.pl, R.r]) H4 H9 := (hF5.mono (by simp)).trans hF59
              have sA : ∀ a ∈ [g.bb] ++ [g.pl, R.r], a ∈ foot g := fun a ha => (List.mem_append.mp ha).elim (sB a) (sR a)
              have hB8 := (hB6.keep0 hF7).keep hF8 (nm_cons (ne_of (hB6.keep0 hF7).box hP7.ins (by intro z; cases z)) (nm_cons (ne_of (hB6.keep0 hF7).box hR7 (by intro z; cases z)) nm_nil)) (nm_cons (ne_of (hB6.keep0 hF7).bh hP7.ins (by intro z; cases z)) (nm_cons (ne_of (hB6.keep0 hF7).bh hR7 (by intro z; cases z)) nm_nil)) (nm_cons (ne_of (hB6.keep0 hF7).bm hP7.ins (by intro z; cases z)) (nm_cons (ne_of (hB6.keep0 hF7).bm hR7 (by intro z; cases z)) nm_nil)) (nm_cons (ne_of (hB6.keep0 hF7).bb hP7.ins (by intro z; cases z)) (nm_cons (ne_of (hB6.keep0 hF7).bb hR7 (by intro z; cases z)) nm_nil))
              have ad := hAp.dr sA
              refine rd_var s11 ?_
              refine ⟨.tuple [.str "gave", .none], .tuple [.str "gave", .none], .tup (SqT.of hr9) (.cons (.str _) (.cons .non .nil)), .tup (SqT.of hq9) (.cons (.str _) (.cons .non .nil)), by decide +kernel, by decide +kernel, ?_⟩
              rw [show PyData.eqv (.tuple [.str "gave", .none]) (.tuple [.str "gave", .none]) = true by decide +kernel]
              exact k { g with Rs := g.Rs.set i { R with t := some (g.tn + 1) }, tn := g.tn + 1, bg := g.bg ++ [i] } H9 (hD4.keep hF49 ad.1 ad.2.1 ad.2.2) (hW4.begun hF49 hR (hP8.keep0 hF9) (hB8.keep0 hF9) hin) (hAp.setR hR hW.P.nd) rfl rfl rfl (by show (g.Rs.set i _).length ≤ _; rw [List.length_set]; omega) (by show (g.bg ++ [i]).length ≤ _; rw [List.length_append, List.length_singleton]; omega) rfl rfl (fun a ha => .inl (by rw [foot_setR hR] at ha; exact ha)) ((hF04.mono stgr).trans (hF49.mono (ms_all sA)))
        · walk_at "rr"
          cases bb with
          | true =>
            have hin : i ∈ g.bg := of_decide_eq_true hbb
            refine rd_cut (fun σ H' => H' = L2.upd H4 g.bb (.lst ((g.bg.erase i).map fun (i : Nat) => V.int (i : Int))) ∧ σ[9]? = some (some (.ref R.r)) ∧ σ[10]? = some (some (.bl true))) ?_ ?_
            · walk_at "rr"
              refine iteT ?_
              walk_at "rr"
              refine rd_remN d4 hin ?_
              walk_at "rr"
              exact ⟨rfl, rfl, rfl⟩
            · rintro σ H' ⟨rfl, s9, s10⟩
              have hel : (g.bg.erase i).length ≤ g.bg.length := List.length_erase_le
              have hB6 := hW4.B.putB (bg' := g.bg.erase i) (Rs' := g.Rs.set i { R with t := none }) (tn' := g.tn) hW.mb (by omega) (fun j hj => by
                rw [List.length_set]
                exact hW.B.bl j (List.mem_of_mem_erase hj)) (by rw [List.length_set]) (set_like hR)
              have hF6 : Fr Λ [g.bb] H4 (L2.upd H4 g.bb (.lst ((g.bg.erase i).map fun (i : Nat) => V.int (i : Int)))) := (Fr.refl [g.bb] H4).upd (.inl List.mem_cons_self) d4 rfl
              have hP6 := hW4.P.keep hF6 (nm_cons (ne_of hW4.P.ins d4 (by intro z; cases z)) nm_nil) (nm_cons (ne_of hW4.P.held d4 (by intro z; cases z)) nm_nil) (nm_cons hW.mb2 nm_nil) (fun S hS => nm_cons (ne_of (hW4.P.rp S hS).1 d4 (by intro z; cases z)) nm_nil)
              have hT6 := hF6.tabs hTab4
              generalize L2.upd H4 g.bb (.lst ((g.bg.erase i).map fun (i : Nat) => V.int (i : Int))) = H6 at hB6 hF6 hP6 hT6 ⊢
              walk_at "rr"
              refine rd_res hT6 fun H7 hF7 Q' hQ' => ?_
              have hP7 := hP6.keep0 hF7
              have hR7 := (hP7.rp R hm).1
              refine rd_gm ?_
              refine rd_var s9 ?_
              refine ⟨R.r, _, _, rfl, hR7, rfl, ?_⟩
              walk_at "rr"
              refine ⟨g.pl, g.dx, g.hd, g.md, g.kp, g.Rs, g.tn, i, R, rfl, hR, hP7, fun t H8 _ hP8 hF8 => hQ' _ _ fun H9 r9 hF9 hr9 => ?_, fun hn => ?_⟩
              rotate_left
              · rw [hn] at hon
                exact absurd (hon.mpr hin) (by simp)
              have hB8 := (hB6.keep0 hF7).keep hF8 (nm_cons (ne_of (hB6.keep0 hF7).box hR7 (by intro z; cases z)) nm_nil) (nm_cons (ne_of (hB6.keep0 hF7).bh hR7 (by intro z; cases z)) nm_nil) (nm_cons (ne_of (hB6.keep0 hF7).bm hR7 (by intro z; cases z)) nm_nil) (nm_cons (ne_of (hB6.keep0 hF7).bb hR7 (by intro z; cases z)) nm_nil)
              have sA : ∀ a ∈ [g.bb] ++ [R.r], a ∈ foot g := fun a ha => (List.mem_append.mp ha).elim (sB a) (sR1 a)
              have ad := hAp.dr sA
              refine rd_ifx ?_
              refine rd_tb ?_
              refine rd_var s10 ?_
              refine ⟨true, rfl, iteT ?_⟩
              walk_at "rr"
              intro q hq
              have hq1 : L2.upd H9 q (.tup [.str "gave", .non]) q = some (.tup [.str "gave", .non]) := upd_same
              have hr1 : L2.upd H9 q (.tup [.str "gave", .non]) r9 = some (.tup [.str "gave", .non]) := (upd_ne (ne_of_none hr9 hq)).trans hr9
              have hF10 : Fr Λ [] H9 (L2.upd H9 q (.tup [.str "gave", .non])) := (Fr.refl [] H9).new hq
              generalize L2.upd H9 q (.tup [.str "gave", .non]) = H10 at hq1 hr1 hF10 ⊢
              have hF49 : Fr Λ ([g.bb] ++ [R.r]) H4 H10 := (hF6.mono (by simp)).trans ((hF7.mono (by simp)).trans ((hF8.mono (by simp)).trans ((hF9.trans hF10).mono (by simp))))
              refine ⟨.tuple [.str "gave", .none], .tuple [.str "gave", .none], .tup (SqT.of hr1) (.cons (.str _) (.cons .non .nil)), .tup (SqT.of hq1) (.cons (.str _) (.cons .non .nil)), by decide +kernel, by decide +kernel, ?_⟩
              rw [show PyData.eqv (.tuple [.str "gave", .none]) (.tuple [.str "gave", .none]) = true by decide +kernel]
              exact k { g with Rs := g.Rs.set i { R with t := none }, bg := g.bg.erase i } H10 (hD4.keep hF49 ad.1 ad.2.1 ad.2.2) (hW4.ended hF49 hR ((hP8.keep0 hF9).keep0 hF10) ((hB8.keep0 hF9).keep0 hF10)) (hAp.setR hR hW.P.nd) rfl rfl rfl (by show (g.Rs.set i _).length ≤ _; rw [List.length_set]; omega) (by show (g.bg.erase i).length ≤ _; omega) rfl rfl (fun a ha => .inl (by rw [foot_setR hR] at ha; exact ha)) ((hF04.mono stgr).trans (hF49.mono (ms_all sA)))
          | false =>
            have hin : i ∉ g.bg := of_decide_eq_false hbb
            refine rd_cut (fun σ H' => H' = H4 ∧ σ[9]? = some (some (.ref R.r)) ∧ σ[10]? = some (some (.bl false))) ?_ ?_
            · walk_at "rr"
              refine iteF ?_
              walk_at "rr"
              exact ⟨rfl, rfl, rfl⟩
            · rintro σ H' ⟨rfl, s9, s10⟩
              walk_at "rr"
              refine rd_res hTab4 fun H7 hF7 Q' hQ' => ?_
              have hP7 := hW4.P.keep0 hF7
              have hR7 := (hP7.rp R hm).1
              refine rd_gm ?_
              refine rd_var s9 ?_
              refine ⟨R.r, _, _, rfl, hR7, rfl, ?_⟩
              walk_at "rr"
              refine ⟨g.pl, g.dx, g.hd, g.md, g.kp, g.Rs, g.tn, i, R, rfl, hR, hP7, fun t H8 ht _ _ => ?_, fun hn => .inr ⟨rfl, rfl, fun H9 r9 hF9 hr9 => ?_⟩⟩
              · rw [ht] at hon
                exact absurd (hon.mp rfl) hin
              refine rd_ifx ?_
              refine rd_tb ?_
              refine rd_var s10 ?_
              refine ⟨false, rfl, iteF ?_⟩
              walk_at "rr"
              intro q hq
              have hq1 : L2.upd H9 q (.tup [.str "order", .non]) q = some (.tup [.str "order", .non]) := upd_same
              have hr1 : L2.upd H9 q (.tup [.str "order", .non]) r9 = some (.tup [.str "order", .non]) := (upd_ne (ne_of_none hr9 hq)).trans hr9
              have hF10 : Fr Λ [] H9 (L2.upd H9 q (.tup [.str "order", .non])) := (Fr.refl [] H9).new hq
              generalize L2.upd H9 q (.tup [.str "order", .non]) = H10 at hq1 hr1 hF10 ⊢
              have hF410 := hF7.trans (hF9.trans hF10)
              refine ⟨.tuple [.str "order", .none], .tuple [.str "order", .none], .tup (SqT.of hr1) (.cons (.str _) (.cons .non .nil)), .tup (SqT.of hq1) (.cons (.str _) (.cons .non .nil)), by decide +kernel, by decide +kernel, ?_⟩
              rw [show PyData.eqv (.tuple [.str "order", .none]) (.tuple [.str "order", .none]) = true by decide +kernel]
              exact k g H10 (hD4.keep hF410 nm_nil nm_nil nm_nil) (hW4.keep0 hF410) hAp rfl rfl rfl (by omega) (by omega) rfl rfl (fun a ha => .inl ha) ((hF04.mono stgr).trans (hF410.mono (by simp)))
    all_goals
      have hW1 := hW.keepD hF1 hAp
      have b1 := hW1.B.box
      unfold bxK at b1
      have b3 := hW1.B.bm
      have b4 := hW1.B.bb
      walk_at "rr"
      refine ⟨st, gr, cl0, n + 10, 2, rfl, by decide, hD1.less (by omega), fun v d H2 hvl hdt hD2 hF2 => ?_⟩
      walk_at "rr"
      refine ⟨st, gr, cl0, n + 9, 4, rfl, by decide, by decide, hD2.less (by omega), fun r4 H3 _ _ hD3 hF3 => ?_⟩
      have hF03 : Fr Λ [st, gr] H H3 := hF1.trans (hF2.trans hF3)
      have hW3 := hW.keepD hF03 hAp
      have hsm : Sm H3 v := ⟨d, hdt.fr hF3, hvl⟩
      have i1 := hW3.P.ins
      have c3 := hW3.B.bm
      walk_at "rr"
      refine rd_ite (fun hq0 => ?_) (fun hq0 => ?_)
      walk_at "rr"
      intro tp htp
      walk_at "rr"
      intro e1 he1
      walk_at "rr"
      have hF4 : Fr Λ [] H3 (L2.upd (L2.upd H3 tp (.tup [])) e1 (.tup [])) := ((Fr.refl [] H3).new htp).new he1
      have ht4 : (L2.upd (L2.upd H3 tp (.tup [])) e1 (.tup [])) tp = some (.tup []) := (upd_ne (ne_of_none upd_same he1)).trans upd_same
      have hx4 : ([] : List V).length ≤ 1 ∧ ∀ u ∈ ([] : List V), Sm H3 u := ⟨by decide, fun u hu => nomatch hu⟩
      generalize L2.upd (L2.upd H3 tp (.tup [])) e1 (.tup []) = H4 at hF4 ht4 ⊢
      refine iteF ?_
      rotate_left
      walk_at "rr"
      intro tp htp
      walk_at "rr"
      intro e1 he1
      walk_at "rr"
      have hF4 : Fr Λ [] H3 (L2.upd (L2.upd H3 tp (.tup [v])) e1 (.tup [])) := ((Fr.refl [] H3).new htp).new he1
      have ht4 : (L2.upd (L2.upd H3 tp (.tup [v])) e1 (.tup [])) tp = some (.tup [v]) := (upd_ne (ne_of_none upd_same he1)).trans upd_same
      have hx4 : ([v] : List V).length ≤ 1 ∧ ∀ u ∈ ([v] : List V), Sm H3 u := ⟨by simp, fun u hu => (by rw [List.mem_singleton.mp hu]; exact hsm)⟩
      generalize L2.upd (L2.upd H3 tp (.tup [v])) e1 (.tup []) = H4 at hF4 ht4 ⊢
      refine iteT ?_
      all_goals
        have hW4 := hW3.keep0 hF4
        have i4 := hW4.P.ins
        walk_at "rr"
        refine ⟨[.ref g.pl, .str z], _, rfl, rfl, by simp, fun p hp => ?_⟩
        have hF45 : ∀ o, Fr Λ [] H4 (L2.upd H4 p o) := fun o => (Fr.refl [] H4).new hp
        refine ⟨g.pl, g.dx, g.hd, g.md, g.kp, g.Rs, g.tn, z, p, _, rfl, hzn, upd_same, hx4.1, fun u hu => (((hx4.2 u hu).fr hF4).fr (hF45 _)), hW4.P.keep0 (hF45 _), by omega, fun rr dxr H5 hrr hP5 hF5 => ?_⟩
        have ht5 := hF5.tup ((hF45 _).tup ht4)
        have hF35 : Fr Λ [g.md] H3 H5 := hF5.step ((hF4.trans (hF45 _)).mono (by simp)) (fun a h => .inl h)
        have hB5 := hW3.B.keep hF35 (nm_cons (ne_of hW3.B.box hW3.P.made (by intro z; cases z)) nm_nil) (nm_cons (ne_of hW3.B.bh hW3.P.made (by intro z; cases z)) nm_nil) (nm_cons (ne_sym hW.mm) nm_nil) (nm_cons (ne_sym hW.mb2) nm_nil)
        have c5 := hB5.bm
        have hlf := hW.P.few.2
        walk_at "rr"
        intro lp hlp
        walk_at "rr"
        have hR5 := hP5.rp ⟨rr, dxr, z, p, _, none⟩ (List.mem_append_right _ List.mem_cons_self)
        have hFl : Fr Λ [] H5 (L2.upd H5 lp (.tup [.str z, .ref tp, .ref rr])) := (Fr.refl [] H5).new hlp
        have hB6 := (hB5.keep0 hFl).addL (R := ⟨rr, dxr, z, p, _, none⟩) (l := (lp, tp)) upd_same (hFl.tup ht5) hW.mb
        have hFb : Fr Λ [g.bm] H5 (L2.upd (L2.upd H5 lp (.tup [.str z, .ref tp, .ref rr])) g.bm (.lst ((g.Ls.map fun l => V.ref l.1) ++ [.ref lp]))) := (hFl.mono (by simp)).upd (.inl List.mem_cons_self) ((upd_ne (ne_of_none c5 hlp)).trans c5) rfl
        have hP6 := hP5.keep hFb (nm_cons (ne_of hP5.ins c5 (by intro z; cases z)) nm_nil) (nm_cons (ne_of hP5.held c5 (by intro z; cases z)) nm_nil) (nm_cons hW.mm nm_nil) (fun S hS => nm_cons (ne_of (hP5.rp S hS).1 c5 (by intro z; cases z)) nm_nil)
        generalize L2.upd (L2.upd H5 lp (.tup [.str z, .ref tp, .ref rr])) g.bm (.lst ((g.Ls.map fun l => V.ref l.1) ++ [.ref lp])) = H6 at hB6 hFb hP6 ⊢
        have hR6 := hP6.rp ⟨rr, dxr, z, p, _, none⟩ (List.mem_append_right _ List.mem_cons_self)
        refine ⟨rr, _, _, rfl, hR6.1, ?_⟩
        refine ⟨g.pl, ⟨rr, dxr, z, p, _, none⟩, rfl, hR6.1, ?_⟩
        walk_at "rr"
        refine ⟨_, _, rfl, rfl, ?_⟩
        have hF36 : Fr Λ [g.md, g.bm] H3 H6 := (hF35.mono (by simp)).trans (hFb.mono (by simp))
        have sA : ∀ a ∈ [g.md, g.bm], a ∈ foot g := fun a ha => by
          unfold foot
          rcases List.mem_cons.mp ha with rfl | ha
          · simp
          · rw [List.mem_singleton.mp ha]; simp
        have ad := hAp.dr sA
        have hnw : ∀ {a : Addr} {o : HO}, H3 a = some o → isTbl o = false → rr ≠ a := fun h t => ne_sym (hrr.ne ((hF4.trans (hF45 _)).at h nm_nil t) t)
        obtain ⟨xd, hst⟩ := hD3.stdict
        obtain ⟨xg, hgr⟩ := hD3.grlist
        obtain ⟨xc, hcl⟩ := hD3.cllist
        exact k { g with Rs := g.Rs ++ [⟨rr, dxr, z, p, _, none⟩], Ls := g.Ls ++ [(lp, tp)] } H6 ((hD3.less (by omega)).keep hF36 ad.1 ad.2.1 ad.2.2) (hW3.addR hF36 hP6 hB6 rfl hz ⟨hx4.1, fun u hu => (hx4.2 u hu).fr hF36⟩)
          ⟨hAp.a, fun R hR => by
            rcases List.mem_append.mp hR with h | h
            · exact hAp.r R h
            · rw [List.mem_singleton.mp h]; exact ⟨hnw hst rfl, hnw hgr rfl, hnw hcl rfl⟩⟩ rfl rfl rfl (by simp) (by simp) rfl rfl
          (fun a ha => by
            unfold foot at ha ⊢
            simp only [List.map_append, List.mem_append, List.mem_cons, List.map_cons, List.map_nil, List.not_mem_nil, or_false] at ha ⊢
            rcases ha with h | h | h | h | h | h | h | h | h
            · exact .inl (.inl h)
            · exact .inl (.inr (.inl h))
            · exact .inl (.inr (.inr (.inl h)))
            · exact .inl (.inr (.inr (.inr (.inl h))))
            · exact .inl (.inr (.inr (.inr (.inr (.inl h)))))
            · exact .inl (.inr (.inr (.inr (.inr (.inr (.inl h))))))
            · exact .inl (.inr (.inr (.inr (.inr (.inr (.inr (.inl h)))))))
            · exact .inl (.inr (.inr (.inr (.inr (.inr (.inr (.inr h)))))))
            · right
              rw [h]
              exact hF03.free (hF4.free ((hF45 _).free hrr))) ((hF03.mono stgr).trans (hF36.mono (ms_all sA)))
end
end Z

end
section
local macro_rules | `(tactic| walk_at "ne") => `(tactic| first
  | assumption
  | (refine Z.ne_sym ?_; assumption)
  | (refine' Z.ne_new ?ka ?kb; (case ka => assumption); (case kb => walk_at "h"))
  | (refine' Z.ne_sym (Z.ne_new ?ka ?kb); (case ka => assumption); (case kb => walk_at "h"))
  | ((with_reducible refine' Z.ne_nw ?ka ?kb ?kc); (case ka => assumption); (case kb => walk_at "h"); (case kc => rfl))
  | ((with_reducible refine' Z.ne_sym (Z.ne_nw ?ka ?kb ?kc)); (case ka => assumption); (case kb => walk_at "h"); (case kc => rfl))
  | exact L2.ne_of (by assumption) (by assumption) (by intro z; cases z)
  | exact Z.ne_sym (L2.ne_of (by assumption) (by assumption) (by intro z; cases z)))
local macro_rules | `(tactic| walk_at "nm") => `(tactic| first
  | exact Z.nm_nil
  | exact Z.nm_cons (by walk_at "ne") (by walk_at "nm"))
local macro_rules | `(tactic| walk_at "h") => `(tactic| first
  | assumption
  | exact L2.upd_same
  | ((with_reducible refine' Eq.trans (L2.upd_ne ?ka) ?kb); (case ka => walk_at "ne"); (case kb => walk_at "h"))
  | ((with_reducible refine' Z.Fr.at ?ka ?kb ?kc ?kd); (case ka => assumption); (case kb => walk_at "h"); (case kc => walk_at "nm"); (case kd => rfl))
  | ((with_reducible refine' Z.Fr.tup ?ka ?kb); (case ka => assumption); (case kb => walk_at "h")))
local macro_rules | `(tactic| walk_at "free") => `(tactic| first
  | assumption
  | exact Z.Nw.of (by assumption)
  | ((with_reducible refine' Z.Fr.free ?ka ?kb); (case ka => assumption); (case kb => walk_at "free")))
local macro_rules | `(tactic| walk_at "ms") => `(tactic| first
  | exact Or.inl List.mem_cons_self
  | exact Or.inl (List.mem_cons_of_mem _ List.mem_cons_self)
  | (left; simp; done)
  | (right; walk_at "free"))
local macro_rules | `(tactic| walk_at "sub") => `(tactic| first
  | exact Z.sub_nil
  | ((with_reducible refine' Z.sub_cons ?ka ?kb); (case ka => walk_at "ms"); (case kb => walk_at "sub")))
local macro_rules | `(tactic| walk_at "fr") => `(tactic| first
  | assumption
  | exact Z.Fr.refl _ _
  | ((with_reducible refine' Z.Fr.new ?ka ?kb); (case kb => assumption); (case ka => walk_at "fr"))
  | ((with_reducible refine' Z.Fr.upd ?ka ?kb ?kc ?kd ?ke); (case kb => walk_at "ms"); (case kc => walk_at "h"); (case kd => rfl); (case ke => rfl); (case ka => walk_at "fr"))
  | ((with_reducible refine' Z.Fr.step ?ka ?kb ?kc); (case ka => assumption); (case kb => walk_at "fr"); (case kc => walk_at "sub")))
local macro_rules | `(tactic| walk_at "dt") => `(tactic| first
  | assumption
  | (refine Z.DT.new ?_ (by assumption); walk_at "dt")
  | (refine Z.DTs.new ?_ (by assumption); walk_at "dt")
  | (refine' Z.DT.wr ?ka ?kb ?kc; (case kb => walk_at "h"); (case kc => rfl); (case ka => walk_at "dt"))
  | (refine' Z.DTs.wr ?ka ?kb ?kc; (case kb => walk_at "h"); (case kc => rfl); (case ka => walk_at "dt"))
  | (refine' Z.DT.fr ?ka ?kb; (case kb => assumption); (case ka => walk_at "dt"))
  | (refine' Z.DTs.fr ?ka ?kb; (case kb => assumption); (case ka => walk_at "dt")))
local macro_rules | `(tactic| walk_at "len") => `(tactic| first
  | exact Z.lt_ok (Nat.le_of_ble_eq_true (by with_unfolding_all rfl))
  | exact Z.le_ok (Nat.le_of_ble_eq_true (by with_unfolding_all rfl))
  | (apply Z.lt_ok; (try simp only [List.length_append, List.length_cons, List.length_nil, List.length_map, List.length_set, List.length_eraseIdx] at *); omega)
  | (apply Z.le_ok; (try simp only [List.length_append, List.length_cons, List.length_nil, List.length_map, List.length_set, List.length_eraseIdx] at *); omega))
local macro_rules | `(tactic| walk_at "r") => `(tactic| first
  | (with_reducible refine Z.rd_seq ?_)
  | (with_reducible refine Z.rd_asg ?_)
  | (with_reducible refine Z.rd_gname ?_)
  | (with_reducible refine Z.rd_ifs ?_)
  | (with_reducible refine Z.rd_next ?_)
  | (with_reducible refine Z.rd_and ?_)
  | (with_reducible refine Z.rd_or ?_)
  | (with_reducible refine Z.rd_not ?_)
  | (with_reducible refine Z.rd_test ?_)
  | (with_reducible refine Z.rd_tb ?_)
  | (with_reducible refine Z.rd_bl ?_)
  | (with_reducible refine Z.rd_op ?_)
  | (with_reducible refine Z.rd_c ?_)
  | ((with_reducible refine' Z.rd_var ?ka ?_); (case ka => with_unfolding_all rfl))
  | (with_reducible refine Z.rd_ret ?_)
  | (with_reducible refine Z.rd_retn ?_)
  | (with_reducible refine Z.rd_drop ?_)
  | (with_reducible refine Z.rd_nil ?_)
  | (with_reducible refine Z.rd_cons ?_)
  | (with_reducible refine Z.rd_cb ?_)
  | (with_reducible refine Z.rd_call ?_)
  | (with_reducible refine Z.rd_dget0 ?_)
  | ((with_reducible refine' Z.rd_dget1 ?ka ?kb ?_); (case ka => walk_at "h"); (case kb => with_unfolding_all rfl))
  | (with_reducible refine Z.rd_dput0 ?_)
  | ((with_reducible refine' Z.rd_dput1 ?ka ?kb ?_); (case ka => walk_at "h"); (case kb => walk_at "len"))
  | (with_reducible refine Z.rd_eqi ?_)
  | (with_reducible refine Z.rd_eqs ?_)
  | (with_reducible refine Z.rd_nei ?_)
  | (with_reducible refine Z.rd_nes ?_)
  | (with_reducible refine Z.rd_i0 ?_)
  | (with_reducible refine Z.rd_lst ?_)
  | (with_reducible refine Z.rd_tup ?_)
  | (with_reducible refine Z.rd_ifx ?_)
  | (with_reducible refine Z.rd_bm ?_)
  | (with_reducible refine Z.rd_bm0 ?_)
  | ((with_reducible refine' Z.rd_nil2 ?ka ?kb ?_); (case ka => walk_at "h"); (case kb => walk_at "h"))
  | ((with_reducible refine' Z.rd_nil2T ?ka ?kb ?_); (case ka => walk_at "h"); (case kb => walk_at "h"))
  | (with_reducible refine Z.rd_int1 ?_)
  | ((with_reducible refine' Z.rd_size ?ka ?_); (case ka => walk_at "len"))
  | ((with_reducible refine' Z.rd_tylist ?ka ?_); (case ka => walk_at "h"))
  | ((with_reducible refine' Z.rd_i ?ka ?_); (case ka => walk_at "num"))
  | ((with_reducible refine' Z.rd_append ?ka ?kb ?_); (case ka => walk_at "h"); (case kb => walk_at "len"))
  | (with_reducible refine Z.rd_for' ?_)
  | (with_reducible refine Z.rd_lc' ?_)
  | (with_reducible refine Z.rd_un ?_)
  | (with_reducible refine Z.rd_gm ?_)
  | (with_reducible refine Z.rd_xk ?_)
  | (with_reducible refine Z.rd_stard ?_)
  | ((with_reducible refine' Z.rd_stard1 ?ka ?_); (case ka => walk_at "h"))
  | (with_reducible refine Z.rd_star ?_)
  | ((with_reducible refine' Z.rd_star1 ?ka ?_); (case ka => walk_at "h"))
  | (with_reducible refine Z.rd_dc' ?_)
  | (with_reducible refine Z.rd_dnew ?_)
  | (with_reducible refine Z.rd_dpop ?_)
  | ((with_reducible refine' Z.rd_isd ?ka ?_); (case ka => walk_at "h"))
  | (with_reducible refine Z.rd_fldaug ?_)
  | (with_reducible refine Z.rd_ilt ?_)
  | (with_reducible refine Z.rd_mko ?_)
  | (with_reducible refine Z.rd_gk ?_)
  | (with_reducible refine Z.rd_gp ?_)
  | ((with_reducible refine' Z.rd_ins1 ?ka ?_); (case ka => walk_at "h"))
  | (with_reducible refine Z.rd_disp ?_)
  | (with_reducible refine Z.rd_pnil ?_)
  | (with_reducible refine Z.rd_pcons ?_)
  | (with_reducible refine Z.rd_m1 ?_)
  | (with_reducible refine Z.rd_isstr ?_)
  | (with_reducible refine Z.rd_sl ?_)
  | (with_reducible refine Z.rd_nopart ?_)
  | (with_reducible refine Z.rd_part ?_)
  | (with_reducible refine Z.rd_part1 ?_)
  | (with_reducible refine Z.rd_u ?_)
  | (with_reducible refine Z.rd_ilist ?_)
  | (with_reducible refine Z.rd_itup ?_)
  | (with_reducible refine Z.rd_istr ?_)
  | (with_reducible refine Z.rd_irng1 ?_)
  | (with_reducible refine Z.rd_yes ?_)
  | (with_reducible refine Z.rd_sfld0 ?_)
  | (with_reducible refine Z.rd_fld0 ?_)
  | (with_reducible refine Z.rd_din ?_)
  | (with_reducible refine Z.rd_dnotin ?_)
  | (with_reducible refine Z.rd_isn ?_)
  | (with_reducible refine Z.rd_notn ?_)
  | (with_reducible refine Z.rd_par ?_)
  | (with_reducible refine Z.rd_par1 ?_)
  | (with_reducible refine Z.rd_gnil ?_)
  | (with_reducible refine Z.rd_gcons ?_)
  | (with_reducible refine Z.rd_chain ?_)
  | (with_reducible refine Z.rd_andv ?_)
  | (with_reducible refine Z.rd_orv ?_)
  | (with_reducible refine Z.rd_notv ?_)
  | (with_reducible refine Z.rd_meth ?_)
  | (with_reducible refine Z.rd_while ?_)
  | ((with_reducible refine' Z.rd_ixl ?ka ?kb ?_); (case ka => walk_at "h"); (case kb => walk_at "ati"))
  | ((with_reducible refine' Z.rd_ixt ?ka ?kb ?_); (case ka => walk_at "h"); (case kb => walk_at "ati"))
  | ((with_reducible refine' Z.rd_len ?ka ?_); (case ka => walk_at "h"))
  | ((with_reducible refine' Z.rd_lens ?ka ?_); (case ka => walk_at "h"))
  | ((with_reducible refine' Z.rd_lent ?ka ?_); (case ka => walk_at "h"))
  | ((with_reducible refine' Z.rd_lstof ?ka ?_); (case ka => walk_at "h"))
  | ((with_reducible refine' Z.rd_tupof ?ka ?_); (case ka => walk_at "h"))
  | ((with_reducible refine' Z.rd_sfld1 ?ka ?kb ?kc ?kd ?_); (case ka => walk_at "h"); (case kb => assumption); (case kc => assumption); (case kd => (first | (with_unfolding_all decide) | exact Nat.le_of_ble_eq_true (by with_unfolding_all rfl))))
  | ((with_reducible refine' Z.rd_fld1 ?ka ?kb ?kc ?kd ?_); (case ka => walk_at "h"); (case kb => assumption); (case kc => assumption); (case kd => with_unfolding_all rfl))
  | ((with_reducible refine' Z.rd_din1 ?ka ?_); (case ka => walk_at "h"))
  | ((with_reducible refine' Z.rd_gtup ?ka ?kb ?_); (case ka => walk_at "h"); (case kb => with_unfolding_all rfl))
  | ((with_reducible refine' Z.rd_catl ?ka ?kb ?kc ?_); (case ka => walk_at "h"); (case kb => walk_at "h"); (case kc => walk_at "len"))
  | ((with_reducible refine' Z.rd_meth1 ?ka ?kb ?_); (case ka => walk_at "h"); (case kb => with_unfolding_all rfl))
  | ((with_reducible refine' Z.rd_addstr ?ka ?_); (case ka => walk_at "len")))
local macro_rules | `(tactic| walk_at "ati") => `(tactic| first
  | assumption
  | (with_unfolding_all rfl)
  | exact L2.atI_nat (by assumption)
  | exact L2.atI_nat (by with_unfolding_all rfl)
  | exact L2.atI_last _ _)
local macro_rules | `(tactic| walk_at "rr") => `(tactic| repeat (walk_at "r"))
local macro_rules | `(tactic| walk_at "num") => `(tactic| first
  | (with_unfolding_all decide)
  | (show (_ : Int) ≠ 0; omega)
  | (show (_ : Int) ≠ 0 ∧ _ < 1073741824; exact ⟨by omega, by omega⟩)
  | (show (0 : Int) ≤ _ ∧ _ ≤ (1000000 : Int) ∧ _; exact ⟨by decide, by decide, by omega⟩)
  | (show (-(2 ^ 64) < (_ : Int) ∧ _ < 2 ^ 64) ∨ _; (first | (left; exact ⟨by omega, by omega⟩) | (right; exact ⟨by omega, by omega⟩)))
  | omega)
namespace Z
open PySem PySem.Spec PyProof.Rows L2
/-! ### rows of names and values -/
def RowF (H : Hp) (v : V) (p : Str × V) : Prop := ∃ a : Addr, v = .ref a ∧ H a = some (.tup [.str p.1, p.2])
theorem paired_perm {α β : Type} {F : α → β → Prop} {xs ys : List α} (h : ys.Perm xs) : ∀ {ps : List β}, Paired F xs ps → ∃ qs, qs.Perm ps ∧ Paired F ys qs := by
  induction h with
  | nil => intro ps h; cases h; exact ⟨[], .refl _, .nil⟩
  | cons x _ ih =>
    intro ps h
    cases h with
    | cons r t =>
      obtain ⟨qs, h1, h2⟩ := ih t
      exact ⟨_, h1.cons _, .cons r h2⟩
  | swap x y l =>
    intro ps h
    cases h with
    | cons r t => cases t with
      | cons r2 t2 => exact ⟨_, List.Perm.swap _ _ _, .cons r2 (.cons r t2)⟩
  | trans _ _ ih1 ih2 =>
    intro ps h
    obtain ⟨qs, h1, h2⟩ := ih2 h
    obtain ⟨rs, h3, h4⟩ := ih1 h2
    exact ⟨rs, h3.trans h1, h4⟩
theorem RowF.rows {H : Hp} : ∀ {xs : List V} {ps : List (Str × V)}, Paired (RowF H) xs ps → Rows H xs ps
  | _, _, .nil => ⟨rfl, fun i p h => by simp at h⟩
  | _, _, .cons (a := x) r t => by
    obtain ⟨h1, h2⟩ := RowF.rows t
    refine ⟨by simp [h1], fun i p h => ?_⟩
    cases i with
    | zero =>
      simp at h
      subst h
      obtain ⟨a, e1, e2⟩ := r
      exact ⟨a, by simp [e1], e2⟩
    | succ i =>
      obtain ⟨a, e1, e2⟩ := h2 i p (by simpa using h)
      exact ⟨a, by simpa using e1, e2⟩
theorem RowF.fr {Λ : List (Addr × Str)} {S : List Addr} {H H' : Hp} (f : Fr Λ S H H') {xs : List V} {ps : List (Str × V)} (h : Paired (RowF H) xs ps) : Paired (RowF H') xs ps := Paired.mapP h fun v p ⟨a, e1, e2⟩ => ⟨a, e1, f.tup e2⟩
theorem RowF.snoc {H : Hp} {v : V} {p : Str × V} (r : RowF H v p) : ∀ {xs : List V} {ps : List (Str × V)}, Paired (RowF H) xs ps → Paired (RowF H) (xs ++ [v]) (ps ++ [p])
  | _, _, .nil => .cons r .nil
  | _, _, .cons a b => .cons a (RowF.snoc r b)
theorem RowF.dict {K : PySem.W.Frag} {H : Hp} : ∀ {xs : List V} {ps : List (Str × V)}, Paired (RowF H) xs ps → ∃ as : List Addr, xs = as.map V.ref ∧ Paired (fun a (kv : L2.Key × V) => SqT K H a [kV kv.1, kv.2]) as (ps.map fun p => ((.inr p.1, p.2) : L2.Key × V))
  | _, _, .nil => ⟨[], rfl, .nil⟩
  | _, _, .cons r t => by
    obtain ⟨as, e, h⟩ := RowF.dict (K := K) t
    obtain ⟨a, e1, e2⟩ := r
    exact ⟨a :: as, by rw [e1, e]; rfl, .cons (SqT.of e2) h⟩
theorem merge_new : ∀ (ps qs : List (Str × V)), ((qs ++ ps).map (·.1)).Nodup → mergeK (qs.map fun p => ((.inr p.1, p.2) : L2.Key × V)) (ps.map fun p => ((.inr p.1, p.2) : L2.Key × V)) = (qs ++ ps).map fun p => ((.inr p.1, p.2) : L2.Key × V)
  | [], qs, _ => by rw [List.append_nil]; rfl
  | p :: ps, qs, h => by
    have hp : p.1 ∉ qs.map (·.1) := fun hm => by
      rw [List.map_append, List.nodup_append] at h
      exact h.2.2 _ hm _ (by simp) rfl
    have ih := merge_new ps (qs ++ [p]) (by rw [List.append_assoc]; exact h)
    rw [List.append_assoc] at ih
    show mergeK (putK (qs.map fun p => ((.inr p.1, p.2) : L2.Key × V)) (.inr p.1) p.2) _ = _
    rw [put_new hp]
    exact ih
theorem val_mem : ∀ {ps : List (Str × V)}, (ps.map (·.1)).Nodup → ∀ (z : Str) (v : V), valV (ps.map fun p => ((.inr p.1, p.2) : L2.Key × V)) (.inr z) = some v ↔ (z, v) ∈ ps
  | [], _, z, v => by simp [valV]
  | p :: ps, h, z, v => by
    have h2 := List.nodup_cons.mp (show (p.1 :: ps.map (·.1)).Nodup from h)
    have ih := val_mem h2.2 z v
    by_cases e : p.1 = z
    · subst e
      rw [List.map_cons, valV_pos rfl]
      refine ⟨fun q => ?_, fun q => ?_⟩
      · have : p.2 = v := Option.some.inj q
        rw [← this]; exact List.mem_cons_self
      · rcases List.mem_cons.mp q with q | q
        · rw [← q]
        · exact absurd (List.mem_map.mpr ⟨_, q, rfl⟩) h2.1
    · rw [List.map_cons, valV_neg (by intro q; injection q with q; exact e q), ih]
      refine ⟨fun q => List.mem_cons_of_mem _ q, fun q => ?_⟩
      rcases List.mem_cons.mp q with q | q
      · rw [← q] at e; exact absurd rfl e
      · exact q
theorem val_perm {ps qs : List (Str × V)} (h : qs.Perm ps) (nd : (ps.map (·.1)).Nodup) (z : Str) : valV (ps.map fun p => ((.inr p.1, p.2) : L2.Key × V)) (.inr z) = valV (qs.map fun p => ((.inr p.1, p.2) : L2.Key × V)) (.inr z) := by
  have nq : (qs.map (·.1)).Nodup := (h.map _).nodup_iff.mpr nd
  apply Option.ext
  intro v
  rw [val_mem nd, val_mem nq, h.mem_iff]
theorem keysOf_rows (ps : List (Str × V)) : keysOf (ps.map fun p => ((.inr p.1, p.2) : L2.Key × V)) = ps.map (·.1) := by
  induction ps with
  | nil => rfl
  | cons p ps ih => show p.1 :: keysOf _ = _; rw [ih]; rfl
end Z

end
section
local macro_rules | `(tactic| walk_at "ne") => `(tactic| first
  | assumption
  | (refine Z.ne_sym ?_; assumption)
  | (refine' Z.ne_new ?ka ?kb; (case ka => assumption); (case kb => walk_at "h"))
  | (refine' Z.ne_sym (Z.ne_new ?ka ?kb); (case ka => assumption); (case kb => walk_at "h"))
  | ((with_reducible refine' Z.ne_nw ?ka ?kb ?kc); (case ka => assumption); (case kb => walk_at "h"); (case kc => rfl))
  | ((with_reducible refine' Z.ne_sym (Z.ne_nw ?ka ?kb ?kc)); (case ka => assumption); (case kb => walk_at "h"); (case kc => rfl))
  | exact L2.ne_of (by assumption) (by assumption) (by intro z; cases z)
  | exact Z.ne_sym (L2.ne_of (by assumption) (by assumption) (by intro z; cases z)))
local macro_rules | `(tactic| walk_at "nm") => `(tactic| first
  | exact Z.nm_nil
  | exact Z.nm_cons (by walk_at "ne") (by walk_at "nm"))
local macro_rules | `(tactic| walk_at "h") => `(tactic| first
  | assumption
  | exact L2.upd_same
  | ((with_reducible refine' Eq.trans (L2.upd_ne ?ka) ?kb); (case ka => walk_at "ne"); (case kb => walk_at "h"))
  | ((with_reducible refine' Z.Fr.at ?ka ?kb ?kc ?kd); (case ka => assumption); (case kb => walk_at "h"); (case kc => walk_at "nm"); (case kd => rfl))
  | ((with_reducible refine' Z.Fr.tup ?ka ?kb); (case ka => assumption); (case kb => walk_at "h")))
local macro_rules | `(tactic| walk_at "free") => `(tactic| first
  | assumption
  | exact Z.Nw.of (by assumption)
  | ((with_reducible refine' Z.Fr.free ?ka ?kb); (case ka => assumption); (case kb => walk_at "free")))
local macro_rules | `(tactic| walk_at "ms") => `(tactic| first
  | exact Or.inl List.mem_cons_self
  | exact Or.inl (List.mem_cons_of_mem _ List.mem_cons_self)
  | (left; simp; done)
  | (right; walk_at "free"))
local macro_rules | `(tactic| walk_at "sub") => `(tactic| first
  | exact Z.sub_nil
  | ((with_reducible refine' Z.sub_cons ?ka ?kb); (case ka => walk_at "ms"); (case kb => walk_at "sub")))
local macro_rules | `(tactic| walk_at "fr") => `(tactic| first
  | assumption
  | exact Z.Fr.refl _ _
  | ((with_reducible refine' Z.Fr.new ?ka ?kb); (case kb => assumption); (case ka => walk_at "fr"))
  | ((with_reducible refine' Z.Fr.upd ?ka ?kb ?kc ?kd ?ke); (case kb => walk_at "ms"); (case kc => walk_at "h"); (case kd => rfl); (case ke => rfl); (case ka => walk_at "fr"))
  | ((with_reducible refine' Z.Fr.step ?ka ?kb ?kc); (case ka => assumption); (case kb => walk_at "fr"); (case kc => walk_at "sub")))
local macro_rules | `(tactic| walk_at "dt") => `(tactic| first
  | assumption
  | (refine Z.DT.new ?_ (by assumption); walk_at "dt")
  | (refine Z.DTs.new ?_ (by assumption); walk_at "dt")
  | (refine' Z.DT.wr ?ka ?kb ?kc; (case kb => walk_at "h"); (case kc => rfl); (case ka => walk_at "dt"))
  | (refine' Z.DTs.wr ?ka ?kb ?kc; (case kb => walk_at "h"); (case kc => rfl); (case ka => walk_at "dt"))
  | (refine' Z.DT.fr ?ka ?kb; (case kb => assumption); (case ka => walk_at "dt"))
  | (refine' Z.DTs.fr ?ka ?kb; (case kb => assumption); (case ka => walk_at "dt")))
local macro_rules | `(tactic| walk_at "len") => `(tactic| first
  | exact Z.lt_ok (Nat.le_of_ble_eq_true (by with_unfolding_all rfl))
  | exact Z.le_ok (Nat.le_of_ble_eq_true (by with_unfolding_all rfl))
  | (apply Z.lt_ok; (try simp only [List.length_append, List.length_cons, List.length_nil, List.length_map, List.length_set, List.length_eraseIdx] at *); omega)
  | (apply Z.le_ok; (try simp only [List.length_append, List.length_cons, List.length_nil, List.length_map, List.length_set, List.length_eraseIdx] at *); omega))
local macro_rules | `(tactic| walk_at "r") => `(tactic| first
  | (with_reducible refine Z.rd_seq ?_)
  | (with_reducible refine Z.rd_asg ?_)
  | (with_reducible refine Z.rd_gname ?_)
  | (with_reducible refine Z.rd_ifs ?_)
  | (with_reducible refine Z.rd_next ?_)
  | (with_reducible refine Z.rd_and ?_)
  | (with_reducible refine Z.rd_or ?_)
  | (with_reducible refine Z.rd_not ?_)
  | (with_reducible refine Z.rd_test ?_)
  | (with_reducible refine Z.rd_tb ?_)
  | (with_reducible refine Z.rd_bl ?_)
  | (with_reducible refine Z.rd_op ?_)
  | (with_reducible refine Z.rd_c ?_)
  | ((with_reducible refine' Z.rd_var ?ka ?_); (case ka => with_unfolding_all rfl))
  | (with_reducible refine Z.rd_ret ?_)
  | (with_reducible refine Z.rd_retn ?_)
  | (with_reducible refine Z.rd_drop ?_)
  | (with_reducible refine Z.rd_nil ?_)
  | (with_reducible refine Z.rd_cons ?_)
  | (with_reducible refine Z.rd_cb ?_)
  | (with_reducible refine Z.rd_call ?_)
  | (with_reducible refine Z.rd_dget0 ?_)
  | ((with_reducible refine' Z.rd_dget1 ?ka ?kb ?_); (case ka => walk_at "h"); (case kb => with_unfolding_all rfl))
  | (with_reducible refine Z.rd_dput0 ?_)
  | ((with_reducible refine' Z.rd_dput1 ?ka ?kb ?_); (case ka => walk_at "h"); (case kb => walk_at "len"))
  | (with_reducible refine Z.rd_eqi ?_)
  | (with_reducible refine Z.rd_eqs ?_)
  | (with_reducible refine Z.rd_nei ?_)
  | (with_reducible refine Z.rd_nes ?_)
  | (with_reducible refine Z.rd_i0 ?_)
  | (with_reducible refine Z.rd_lst ?_)
  | (with_reducible refine Z.rd_tup ?_)
  | (with_reducible refine Z.rd_ifx ?_)
  | (with_reducible refine Z.rd_bm ?_)
  | (with_reducible refine Z.rd_bm0 ?_)
  | ((with_reducible refine' Z.rd_nil2 ?ka ?kb ?_); (case ka => walk_at "h"); (case kb => walk_at "h"))
  | ((with_reducible refine' Z.rd_nil2T ?ka ?kb ?_); (case ka => walk_at "h"); (case kb => walk_at "h"))
  | (with_reducible refine Z.rd_int1 ?_)
  | ((with_reducible refine' Z.rd_size ?ka ?_); (case ka => walk_at "len"))
  | ((with_reducible refine' Z.rd_tylist ?ka ?_); (case ka => walk_at "h"))
  | ((with_reducible refine' Z.rd_i ?ka ?_); (case ka => walk_at "num"))
  | ((with_reducible refine' Z.rd_append ?ka ?kb ?_); (case ka => walk_at "h"); (case kb => walk_at "len"))
  | (with_reducible refine Z.rd_for' ?_)
  | (with_reducible refine Z.rd_lc' ?_)
  | (with_reducible refine Z.rd_un ?_)
  | (with_reducible refine Z.rd_gm ?_)
  | (with_reducible refine Z.rd_xk ?_)
  | (with_reducible refine Z.rd_stard ?_)
  | ((with_reducible refine' Z.rd_stard1 ?ka ?_); (case ka => walk_at "h"))
  | (with_reducible refine Z.rd_star ?_)
  | ((with_reducible refine' Z.rd_star1 ?ka ?_); (case ka => walk_at "h"))
  | (with_reducible refine Z.rd_dc' ?_)
  | (with_reducible refine Z.rd_dnew ?_)
  | (with_reducible refine Z.rd_dpop ?_)
  | ((with_reducible refine' Z.rd_isd ?ka ?_); (case ka => walk_at "h"))
  | (with_reducible refine Z.rd_fldaug ?_)
  | (with_reducible refine Z.rd_ilt ?_)
  | (with_reducible refine Z.rd_mko ?_)
  | (with_reducible refine Z.rd_gk ?_)
  | (with_reducible refine Z.rd_gp ?_)
  | ((with_reducible refine' Z.rd_ins1 ?ka ?_); (case ka => walk_at "h"))
  | (with_reducible refine Z.rd_disp ?_)
  | (with_reducible refine Z.rd_pnil ?_)
  | (with_reducible refine Z.rd_pcons ?_)
  | (with_reducible refine Z.rd_m1 ?_)
  | (with_reducible refine Z.rd_isstr ?_)
  | (with_reducible refine Z.rd_sl ?_)
  | (with_reducible refine Z.rd_nopart ?_)
  | (with_reducible refine Z.rd_part ?_)
  | (with_reducible refine Z.rd_part1 ?_)
  | (with_reducible refine Z.rd_u ?_)
  | (with_reducible refine Z.rd_ilist ?_)
  | (with_reducible refine Z.rd_itup ?_)
  | (with_reducible refine Z.rd_istr ?_)
  | (with_reducible refine Z.rd_irng1 ?_)
  | (with_reducible refine Z.rd_yes ?_)
  | (with_reducible refine Z.rd_sfld0 ?_)
  | (with_reducible refine Z.rd_fld0 ?_)
  | (with_reducible refine Z.rd_din ?_)
  | (with_reducible refine Z.rd_dnotin ?_)
  | (with_reducible refine Z.rd_isn ?_)
  | (with_reducible refine Z.rd_notn ?_)
  | (with_reducible refine Z.rd_par ?_)
  | (with_reducible refine Z.rd_par1 ?_)
  | (with_reducible refine Z.rd_gnil ?_)
  | (with_reducible refine Z.rd_gcons ?_)
  | (with_reducible refine Z.rd_chain ?_)
  | (with_reducible refine Z.rd_andv ?_)
  | (with_reducible refine Z.rd_orv ?_)
  | (with_reducible refine Z.rd_notv ?_)
  | (with_reducible refine Z.rd_meth ?_)
  | (with_reducible refine Z.rd_while ?_)
  | ((with_reducible refine' Z.rd_ixl ?ka ?kb ?_); (case ka => walk_at "h"); (case kb => walk_at "ati"))
  | ((with_reducible refine' Z.rd_ixt ?ka ?kb ?_); (case ka => walk_at "h"); (case kb => walk_at "ati"))
  | ((with_reducible refine' Z.rd_len ?ka ?_); (case ka => walk_at "h"))
  | ((with_reducible refine' Z.rd_lens ?ka ?_); (case ka => walk_at "h"))
  | ((with_reducible refine' Z.rd_lent ?ka ?_); (case ka => walk_at "h"))
  | ((with_reducible refine' Z.rd_lstof ?ka ?_); (case ka => walk_at "h"))
  | ((with_reducible refine' Z.rd_tupof ?ka ?_); (case ka => walk_at "h"))
  | ((with_reducible refine' Z.rd_sfld1 ?ka ?kb ?kc ?kd ?_); (case ka => walk_at "h"); (case kb => assumption); (case kc => assumption); (case kd => (first | (with_unfolding_all decide) | exact Nat.le_of_ble_eq_true (by with_unfolding_all rfl))))
  | ((with_reducible refine' Z.rd_fld1 ?ka ?kb ?kc ?kd ?_); (case ka => walk_at "h"); (case kb => assumption); (case kc => assumption); (case kd => with_unfolding_all rfl))
  | ((with_reducible refine' Z.rd_din1 ?ka ?_); (case ka => walk_at "h"))
  | ((with_reducible refine' Z.rd_gtup ?ka ?kb ?_); (case ka => walk_at "h"); (case kb => with_unfolding_all rfl))
  | ((with_reducible refine' Z.rd_catl ?ka ?kb ?kc ?_); (case ka => walk_at "h"); (case kb => walk_at "h"); (case kc => walk_at "len"))
  | ((with_reducible refine' Z.rd_meth1 ?ka ?kb ?_); (case ka => walk_at "h"); (case kb => with_unfolding_all rfl))
  | ((with_reducible refine' Z.rd_addstr ?ka ?_); (case ka => walk_at "len")))
local macro_rules | `(tactic| walk_at "ati") => `(tactic| first
  | assumption
  | (with_unfolding_all rfl)
  | exact L2.atI_nat (by assumption)
  | exact L2.atI_nat (by with_unfolding_all rfl)
  | exact L2.atI_last _ _)
local macro_rules | `(tactic| walk_at "rr") => `(tactic| repeat (walk_at "r"))
local macro_rules | `(tactic| walk_at "num") => `(tactic| first
  | (with_unfolding_all decide)
  | (show (_ : Int) ≠ 0; omega)
  | (show (_ : Int) ≠ 0 ∧ _ < 1073741824; exact ⟨by omega, by omega⟩)
  | (show (0 : Int) ≤ _ ∧ _ ≤ (1000000 : Int) ∧ _; exact ⟨by decide, by decide, by omega⟩)
  | (show (-(2 ^ 64) < (_ : Int) ∧ _ < 2 ^ 64) ∨ _; (first | (left; exact ⟨by omega, by omega⟩) | (right; exact ⟨by omega, by omega⟩)))
  | omega)
namespace Z
open PySem PySem.Spec PyProof.Rows L2
abbrev s_law : Stmt := top 32
abbrev n_law : List Str := ["script", "state", "turn", "titles", "title", "rows", "stead", "box", "lap", "way"]
theorem sc_law : FnScope n_law ["script"] (defScope s_law) := ⟨rfl, rfl, rfl, by decide +kernel, rfl, by decide +kernel, by decide +kernel⟩
def sp_law (Λ : List (Addr × Str)) (K : PySem.W.Frag) : Sp := fun vs H Q _ => ∃ (a : Addr) (is : List Int), vs = [.ref a] ∧ SqL K H a (is.map V.int) ∧ is.length ≤ 1000 ∧ LamX.Tabs Λ H ∧ ∀ H', Q (.bl true) H'
structure G11 (Λ : List (Addr × Str)) (P : Program) (w : World) (K : PySem.W.Frag) (mg : Str → Option Value) (base : Heap) (C CR : Addr) (et : Addr) : Prop where
  law_begun : GD true P w K mg base "_law_begun" ["script"] 1 (sp_begun Λ K)
  law_names : GD true P w K mg base "_law_names" ["state", "many"] 4 (sp_names Λ)
  law_take : GD true P w K mg base "_law_take" ["state", "size"] 2 (sp_take Λ)
  law_pick : GD true P w K mg base "_law_pick" ["state", "some"] 3 (sp_pick Λ)
  law_value : GD true P w K mg base "_law_value" ["state", "deep"] 6 (sp_value Λ 3)
  law_shuffled : GD true P w K mg base "_law_shuffled" ["state", "some"] 3 (sp_shuffled Λ)
  Places : GK true P w K mg base "Places" C 6 (sp_pinit Λ K C CR)
  Places0 : GK true P w K mg base "Places" C 6 (fun vs H Q E => sp_pinit Λ K C CR (vs ++ [.ref et]) H Q E)
  law_held_step : GD true P w K mg base "_law_held_step" ["state", "box", "stead", "title"] 12 (sp_held Λ C CR)
  law_force_step : GD true P w K mg base "_law_force_step" ["state", "box", "stead", "title"] 12 (sp_force Λ C CR)
  law_all_right : GD true P w K mg base "_law_all_right" ["box", "stead", "titles"] 11 (sp_right Λ C CR)
structure T11 (K : PySem.W.Frag) (mg : Str → Option Value) (et : Addr) : Prop where
  b_range : mg "range" = none
  b_max : mg "max" = none
  b_min : mg "min" = none
  b_len : mg "len" = none
  b_dict : mg "dict" = none
  etup : ∀ H, SqT K H et []
  eti : (K.lookup et).isSome = true
/-- C(): the new instance is none of the module's own objects -/
def tGKn (K : PySem.W.Frag) (C : Addr) (sp : Sp) (E : XK) : TE := fun _ H Q => ∀ x dx, K.lookup x = none → H x = none → H dx = none → dx ≠ x → sp [.ref x] (L2.upd (L2.upd H dx (.own x)) x (.ins C dx [])) (fun v H2 => v = .non ∧ Q (.ref x) H2) E
theorem run_gkn {γ : Bool} {X : Cx} {k : Nat} {C : Addr} {sp : Sp} {E : XK} {f : Addr} {pins : List (Addr × Obj)} {σ : L2.St} {H : Hp} {s : Shared} {Q : VK} {us : List Value} {vs : List V} (M : Mk X.K C f) (F : GR γ X.prog X.w X.K X.mg X.base k f sp) (hgd : γ = true → X.A.guards = some []) (hr : Room (k + 1) X.A)
    (hx : Passes (L2.CX X.prog X.w) X E) (I : Inv X pins σ H s) (r : Vals vs us)
    (h : ∀ x dx, X.K.lookup x = none → H x = none → H dx = none → dx ≠ x → sp (.ref x :: vs) (L2.upd (L2.upd H dx (.own x)) x (.ins C dx [])) (fun v H2 => v = .non ∧ Q (.ref x) H2) E) :
    wpAny (model X.prog X.w) X.A (call (.ref C) us) (EP X pins σ Q) X.xe s := by
  have hq := h (s.heap.objs.size + 1) s.heap.objs.size (by
    cases q : X.K.lookup (s.heap.objs.size + 1) with
    | none => rfl
    | some o => exact absurd (Heap.lt_size (I.kIn _ _ q)) (Nat.not_lt.mpr (Nat.le_succ _))) (I.hok.fresh (Nat.le_succ _)) (I.hok.fresh (Nat.le_refl _)) (Nat.ne_of_lt (Nat.lt_succ_self _))
  have I2 := Inv.made (C := C) I
  have r2 : Vals (V.ref (s.heap.objs.size + 1) :: vs) (Value.ref (s.heap.objs.size + 1) :: us) := .cons rfl r
  refine wpAny_call (make_map (f := f) I.kIn M.makes M.init (beq_iff_eq.mp M.fn) (codeAny_mono (F _ X.stack _ _ (Value.ref (s.heap.objs.size + 1) :: us) _ _ E hgd (hr.make C us []) (I2.env0.make C us []) r2 hq) fun r s' hq' => ?_))
  cases r with
  | error e => exact hx pins σ _ _ e s' I2 hq'
  | ok fl =>
    cases fl with
    | ret u =>
      obtain ⟨v, H', I3, rv, ev, q3⟩ := I2.after hq'
      subst ev
      exact ⟨rv, ⟨V.ref (s.heap.objs.size + 1), H', I3, rfl, q3⟩⟩
    | next => exact False.elim hq'
    | brk => exact False.elim hq'
    | cont => exact False.elim hq'
theorem pe_gk0n {γ : Bool} {X : Cx} {k : Nat} {C : Addr} {sp : Sp} {E : XK} {x : Str} {p pos : Pos} (F : GK γ X.prog X.w X.K X.mg X.base x C k sp) (hgd : γ = true → X.A.guards = some []) (hr : Room (k + 1) X.A) (hg : Gl X x) (hx : Passes (L2.CX X.prog X.w) X E)
    (hdb : (x == ("__debug__" : Str)) = false := by decide) : PE X (.Call (.Name x p) [] [] pos) (tGKn X.K C sp E) := by
  obtain ⟨f, M, hm, G⟩ := F.ex
  refine ⟨fun pins s σ H Q I h => ?_⟩
  refine wpAny_Call_Name_kw (ld_glob I hg hm ?_ hdb)
  refine PySem.W.callWith_K0 I.kIn M.kp (run_gkn (us := []) M G hgd hr hx I .nil h)
/-- the places and the box as they begin -/
theorem Wd.start {C CR pl dx hd md bx bh bm bb : Addr} {H : Hp} {ps qs : List (Str × V)} {ns : List Str} (hP : Pl C CR H pl dx hd md (qs.map fun p => ((.inr p.1, p.2) : L2.Key × V)) [] 0)
    (hb : H bx = some (.dK [(.inr "held", .ref bh), (.inr "made", .ref bm), (.inr "begun", .ref bb)])) (h1 : H bh = some (.dK (ps.map fun p => ((.inr p.1, p.2) : L2.Key × V)))) (h2 : H bm = some (.lst [])) (h3 : H bb = some (.lst [])) (hl : ps.length ≤ 10)
    (pq : qs.Perm ps) (nd : (ps.map (·.1)).Nodup) (hin : ∀ p ∈ ps, p.1 ∈ ns) (hs : ∀ p ∈ ps, Sm H p.2) (nl : ns.length ≤ 10) (nm : ∀ z ∈ ns, nmB z = true) (nn : ns.Nodup) (x1 : bx ≠ bh) (x2 : hd ≠ bh) (x3 : hd ≠ bx) (x4 : bm ≠ bb) (x5 : md ≠ bm) (x6 : md ≠ bb) :
    Wd C CR H ⟨pl, dx, hd, md, bx, bh, bm, bb, qs.map fun p => ((.inr p.1, p.2) : L2.Key × V), ps.map fun p => ((.inr p.1, p.2) : L2.Key × V), [], [], [], 0, ns⟩ := by
  have hnq : (qs.map (·.1)).Nodup := (pq.map _).nodup_iff.mpr nd
  refine ⟨hP, ⟨hb, h1, h2, h3, rfl, fun i l R e => by simp at e, fun p hp => ?_, ⟨by show (ps.map _).length ≤ _; rw [List.length_map]; omega, by show 0 ≤ 1000; decide⟩, (fun i hi => nomatch hi)⟩, fun z => val_perm pq nd z, nl, nm, nn, fun z hz => ?_, (fun R hR => nomatch hR), List.nodup_nil, fun i R e => by simp at e, List.Pairwise.nil, (fun i hi => nomatch hi), Int.le_refl 0, fun z v hv => ?_, fun R hR => (nomatch hR), x1, x2, x3, x4, x5, x6⟩
  · obtain ⟨q, _, rfl⟩ := List.mem_map.mp hp
    exact ⟨_, rfl⟩
  · rw [keysOf_rows] at hz
    obtain ⟨q, hq, rfl⟩ := List.mem_map.mp hz
    exact hin q (pq.mem_iff.mp hq)
  · have := (val_mem hnq z v).mp hv
    exact hs _ (pq.mem_iff.mp this)
/-- the rows as they grow -/
def RowsP (Λ : List (Addr × Str)) (st gr cl0 D : Addr) (n : Nat) (ns : List Str) (H1 : Hp) (i : Nat) (H : Hp) : Prop := ∃ (xs : List V) (ps : List (Str × V)), H D = some (.lst xs) ∧ Paired (RowF H) xs ps ∧ (ps.map (·.1)).Sublist (ns.take i) ∧ (∀ p ∈ ps, Sm H p.2) ∧ Dr st gr cl0 (n + 40 * (3 - i)) H ∧ Fr Λ [st, gr] H1 H
/-- a lap -/
def LapP (Λ : List (Addr × Str)) (C CR st gr cl0 a tl D : Addr) (n : Nat) (ns : List Str) (H1 : Hp) (i : Nat) (σ : L2.St) (H : Hp) : Prop := ∃ (g : Wg) (v2 v4 v8 v9 : Option V), σ = [some (.ref a), some (.ref st), v2, some (.ref tl), v4, some (.ref D), some (.ref g.pl), some (.ref g.bx), v8, v9] ∧ Wd C CR H g ∧ Ap st gr cl0 g ∧ Dr st gr cl0 (n + 70 * (31 - i)) H ∧ g.ts = ns ∧
  g.kl.length ≤ 10 + i ∧ g.kp.length ≤ 10 + i ∧ g.Rs.length ≤ i ∧ g.bg.length ≤ i ∧ (∀ x ∈ foot g, Nw H1 x) ∧ Fr Λ [st, gr] H1 H
section
variable {Λ : List (Addr × Str)} {P : Program} {w : World} {K : PySem.W.Frag} {mg : Str → Option Value} {base : Heap} {C CR et : Addr}
theorem ok_law {f : Addr} {fd : FuncData} (F : Fun K "law" "law" s_law f fd) (T : T11 K mg et) (G : G11 Λ P w K mg base C CR et) : GOk true P w K mg base 13 f fd ["script"] (sp_law Λ K) := by
  refine g_of F sc_law (fun vs H Q E h => ?_) (fun cdv A outer s H vs Q E hA hr h => ?_)
  · obtain ⟨a, is, rfl, _⟩ := h
    rfl
  · obtain ⟨a, is, rfl, ha, hlen, hTab, k⟩ := h
    have hu := hu_of hr
    refine ⟨_, (pss_cons (ps_set (i := 1) sc_law.nd rfl (.inr rfl) (pe_g G.law_begun (by first | exact hA | exact fun z => nomatch z) (hr.mono (by first | decide | omega)) rfl passL (pa_cons (pv 0) pa_nil)))
      (pss_cons (ps_for (passes_of rfl) rfl (pi_range1 rfl T.b_range (pa_cons (pe_callB (call_max2 rfl) (by rfl) T.b_max (by decide +kernel) (pa_cons pe_int (pa_cons (pe_callB (call_min2 rfl) (by rfl) T.b_min (by decide +kernel) (pa_cons pe_int (pa_cons (pe_callB call_len (by rfl) T.b_len (by decide +kernel) (pa_cons (pv 0) pa_nil)) pa_nil))) pa_nil))) pa_nil)) (pg_name (i := 2) sc_law.nd rfl (.inl rfl))
      (pss_cons (ps_set (i := 3) sc_law.nd rfl (.inl rfl) (pe_g G.law_names (by first | exact hA | exact fun z => nomatch z) (hr.mono (by first | decide | omega)) rfl passL (pa_cons (pv 1) (pa_cons pe_int pa_nil))))
      (pss_cons (ps_setLc (i := 5) (own := [("title", 4)]) (g := gName 4) (tt := _) rfl sc_law.nd rfl rfl (sw_true rfl rfl rfl (by decide +kernel)) (pi_list (pv 3)) (blkOk_by (own := [("title", 4)]) (N := n_law) (sc := defScope s_law) (by decide +kernel)) (fun _ _ _ _ _ => (pg_name (i := 4) sc_law.nd rfl (.inl rfl))) (fun _ _ _ _ _ => (pts_one (pt_cmpR op_eq (pe_g G.law_take (by first | exact hA | exact fun z => nomatch z) (hr.mono (by first | decide | omega)) rfl passL (pa_cons (pv 1) (pa_cons pe_int pa_nil))) pe_int (nomark _)))) (fun _ _ _ _ _ => (pe_tup (pa_cons (pv 4) (pa_cons (pe_g G.law_value (by first | exact hA | exact fun z => nomatch z) (hr.mono (by first | decide | omega)) rfl passL (pa_cons (pv 1) (pa_cons pe_int pa_nil))) pa_nil)))))
      (C8.pss_cut (ps_set (i := 6) sc_law.nd rfl (.inl rfl) (pe_ifExp (pt_cmpR (op_neNil hr.units0) (pv 5) (pe_lst pa_nil) (nomark _)) (pe_gk G.Places (by first | exact hA | exact fun z => nomatch z) (hr.mono (by first | decide | omega)) rfl passL (pa_cons (pe_g G.law_shuffled (by first | exact hA | exact fun z => nomatch z) (hr.mono (by first | decide | omega)) rfl passL (pa_cons (pv 1) (pa_cons (pv 5) pa_nil))) pa_nil)) (Z.pe_gk0n G.Places0 (by first | exact hA | exact fun z => nomatch z) (hr.mono (by first | decide | omega)) rfl passL)))
      (pss_cons (ps_set (i := 7) sc_law.nd rfl (.inl rfl) (pe_disp (pps_cons pe_str (pe_callTy (call_dictP rfl) (by rfl) T.b_dict (by decide +kernel) (pa_cons (pv 5) pa_nil)) (pps_cons pe_str (pe_lst pa_nil) (pps_cons pe_str (pe_lst pa_nil) pps_nil))) (by rfl) (by rfl) (fun z => by cases z) (by decide)))
      (pss_cons (ps_expr (pe_bm0 PySem.F.plainAttrs_list PySem.F.slot_list_clear PySem.F.type_list_clear mt_clear (pv 5)))
      (pss_one (ps_for (passes_of rfl) rfl (pi_range1 rfl T.b_range (pa_cons (pe_g G.law_take (by first | exact hA | exact fun z => nomatch z) (hr.mono (by first | decide | omega)) rfl passL (pa_cons (pv 1) (pa_cons pe_int pa_nil))) pa_nil)) (pg_name (i := 8) sc_law.nd rfl (.inl rfl))
      (pss_cons (ps_set (i := 4) sc_law.nd rfl (.inl rfl) (pe_g G.law_pick (by first | exact hA | exact fun z => nomatch z) (hr.mono (by first | decide | omega)) rfl passL (pa_cons (pv 1) (pa_cons (pv 3) pa_nil))))
      (pss_cons (ps_set (i := 9) sc_law.nd rfl (.inl rfl) (pe_g G.law_take (by first | exact hA | exact fun z => nomatch z) (hr.mono (by first | decide | omega)) rfl passL (pa_cons (pv 1) (pa_cons pe_int pa_nil))))
      (pss_cons (ps_if (PW.pt (pw_and (pt_cmpR op_eq (pv 9) pe_int (nomark _)) (pw_and1 (pt_not (pt_val (pe_g G.law_held_step (by first | exact hA | exact fun z => nomatch z) (hr.mono (by first | decide | omega)) rfl passL (pa_cons (pv 1) (pa_cons (pv 7) (pa_cons (pv 6) (pa_cons (pv 4) pa_nil))))))))))
      (pss_one (ps_ret pe_bl))
      pss_nil)
      (pss_cons (ps_if (PW.pt (pw_and (pt_cmpR op_gt (pv 9) pe_int (nomark _)) (pw_and1 (pt_not (pt_val (pe_g G.law_force_step (by first | exact hA | exact fun z => nomatch z) (hr.mono (by first | decide | omega)) rfl passL (pa_cons (pv 1) (pa_cons (pv 7) (pa_cons (pv 6) (pa_cons (pv 4) pa_nil))))))))))
      (pss_one (ps_ret pe_bl))
      pss_nil)
      (pss_one (ps_if (pt_not (pt_val (pe_g G.law_all_right (by first | exact hA | exact fun z => nomatch z) (hr.mono (by first | decide | omega)) rfl passL (pa_cons (pv 7) (pa_cons (pv 6) (pa_cons (pv 3) pa_nil))))))
      (pss_one (ps_ret pe_bl))
      pss_nil))))))))))))))
      (pss_one (ps_ret pe_bl)))), ?_⟩
    walk_at "rr"
    refine ⟨a, is, rfl, ha, hlen, fun st gr cl0 H0 n1 n2 n3 h1 h2 hD0 hF0 => ?_⟩
    walk_at "rr"
    refine ⟨_, _, rfl, .inl ⟨_, SqL_fr ha hF0 nm_nil, rfl⟩, ?_⟩
    walk_at "rr"
    refine ⟨_, _, rfl, ?_⟩
    walk_at "rr"
    refine ⟨_, _, rfl, ?_⟩
    walk_at "rr"
    refine rd_forr (n := max 1 (min 4 is.length)) (by rw [List.length_map]; omega) (by omega) (fun i σ H' => ∃ v2 v3 v4 v5 v6 v7 v8 v9 : Option V, σ = [some (.ref a), some (.ref st), v2, v3, v4, v5, v6, v7, v8, v9] ∧ Dr st gr cl0 (10000 * (4 - i)) H' ∧ LamX.Tabs Λ H')
      ⟨_, _, _, _, _, _, _, _, rfl, hD0.less (by decide), hF0.tabs hTab⟩ ?_ (fun σ H' _ => ?_)
    · rintro i σ H' hi ⟨v2, v3, v4, v5, v6, v7, v8, v9, rfl, hDi, hTi⟩
      have hi4 : 4 - i = (4 - (i + 1)) + 1 := by omega
      rw [hi4] at hDi
      generalize hn : 10000 * (4 - (i + 1)) = n
      have hDi : Dr st gr cl0 (n + 10000) H' := hDi.less (by omega)
      walk_at "rr"
      refine ⟨st, gr, cl0, n + 5000, 3, rfl, by decide, hDi.less (by omega), fun tl ns H1 hnl hnn hnm htl0 htl hD1 hF1 => ?_⟩
      have hT1 := hF1.tabs hTi
      obtain ⟨xd, hst⟩ := hDi.stdict
      obtain ⟨xg, hgr⟩ := hDi.grlist
      have hts : tl ≠ st := ne_sym (ne_of_none hst htl0)
      have htg : tl ≠ gr := ne_sym (ne_of_none hgr htl0)
      obtain ⟨yg, hgr1⟩ := hD1.grlist
      obtain ⟨yc, hcl1⟩ := hD1.cllist
      walk_at "rr"
      refine rd_lcl htl fun D hD => ?_
      have hDg : D ≠ gr := ne_sym (ne_of_none hgr1 hD)
      have hDc : cl0 ≠ D := ne_of_none hcl1 hD
      have hDst : ∀ H' {xs : List V} {m : Nat}, H' D = some (.lst xs) → Dr st gr cl0 m H' → D ≠ st := fun H' xs m h hd => (by
        obtain ⟨yd, h2⟩ := hd.stdict
        exact ne_of h h2 (by intro z; cases z))
      refine ⟨RowsP Λ st gr cl0 D (n + 4000) ns H1, ⟨[], [], upd_same, .nil, List.nil_sublist _, (fun p hp => nomatch hp), (hD1.new hD).less (by omega), (Fr.refl _ _).new hD⟩, fun j H2 h => ?_, ?_, ?_⟩
      · obtain ⟨xs, ps, _, _, _, _, _, hF⟩ := h
        exact hF.at htl (nm_cons hts (nm_cons htg nm_nil)) rfl
      · rintro j x H2 hj hx ⟨xs, ps, f1, f2, f3, f4, hD2, hF2⟩
        rw [List.length_map] at hj
        have hx2 : (ns.map V.str)[j]? = some (V.str ns[j]) := by simp [hj]
        rw [hx2] at hx
        obtain rfl : V.str ns[j] = x := Option.some.inj hx
        have hj3 : 3 - j = (3 - (j + 1)) + 1 := by omega
        rw [hj3] at hD2
        have hD2 : Dr st gr cl0 (n + 4000 + 40 * (3 - (j + 1)) + 40) H2 := hD2.less (by omega)
        generalize hm : n + 4000 + 40 * (3 - (j + 1)) = m at hD2
        have htk : ns.take (j + 1) = ns.take j ++ [ns[j]] := by rw [List.take_add_one, List.getElem?_eq_getElem hj]; rfl
        have hxl : xs.length ≤ 10 := by
          have e1 := Paired.length f2
          have e2 := f3.length_le
          rw [List.length_map, List.length_take] at e2
          omega
        walk_at "rr"
        refine ⟨rfl, ?_⟩
        walk_at "rr"
        refine ⟨st, gr, cl0, m + 36, 2, rfl, by decide, by decide, hD2.less (by omega), fun r H3 _ _ hD3 hF3 => ?_⟩
        walk_at "rr"
        have f13 := hF3.at f1 (nm_cons (hDst H2 f1 hD2) (nm_cons hDg nm_nil)) rfl
        refine rd_ite (fun hr0 => ?_) (fun hr0 => ?_)
        · walk_at "rr"
          refine ⟨st, gr, cl0, m, 2, rfl, by decide, hD3.less (by omega), fun v d H4 hvl hdt hD4 hF4 => ?_⟩
          have f14 := hF4.at f13 (nm_cons (hDst H2 f1 hD2) (nm_cons hDg nm_nil)) rfl
          walk_at "rr"
          intro e he
          have hF24 := hF3.trans hF4
          have hFe : Fr Λ [] H4 (L2.upd H4 e (.tup [.str ns[j], v])) := (Fr.refl [] H4).new he
          have he1 : L2.upd H4 e (.tup [.str ns[j], v]) e = some (.tup [.str ns[j], v]) := upd_same
          have f15 := hFe.at f14 nm_nil rfl
          have hD5 := hD4.new (o := .tup [.str ns[j], v]) he
          generalize L2.upd H4 e (.tup [.str ns[j], v]) = H5 at hFe he1 f15 hD5 ⊢
          have hF5D : Fr Λ [D] H5 (L2.upd H5 D (.lst (xs ++ [.ref e]))) := (Fr.refl [D] H5).upd (.inl List.mem_cons_self) f15 rfl
          have hF25 : Fr Λ [st, gr] H2 H5 := hF24.trans (hFe.mono (by simp))
          refine ⟨xs, f15, lt_ok (by omega), xs ++ [.ref e], ps ++ [(ns[j], v)], upd_same, ?_, ?_, fun p hp => ?_, (hD5.keep hF5D (nm_cons (ne_sym (hDst H2 f1 hD2)) nm_nil) (nm_cons (ne_sym hDg) nm_nil) (nm_cons hDc nm_nil)).less (by omega), ?_⟩
          · exact RowF.fr hF5D (RowF.snoc ⟨e, rfl, he1⟩ (RowF.fr hF25 f2))
          · rw [htk, List.map_append]
            exact f3.append (List.Sublist.refl _)
          · rcases List.mem_append.mp hp with h | h
            · exact ((f4 p h).fr hF25).fr hF5D
            · rw [List.mem_singleton.mp h]
              exact Sm.fr (Sm.fr ⟨d, hdt, hvl⟩ hFe) hF5D
          · exact hF5D.step (hF2.trans hF25) (sub_cons (.inr (.of hD)) sub_nil)
        · refine ⟨xs, ps, f13, RowF.fr hF3 f2, ?_, fun p hp => (f4 p hp).fr hF3, hD3.less (by omega), hF2.trans hF3⟩
          rw [htk]
          exact f3.trans (List.sublist_append_left _ _)
      · rintro H2 ⟨xs, ps, f1, f2, f3, f4, hD2, hF2⟩
        rw [List.length_map, List.take_length] at f3
        have hpl : ps.length ≤ 3 := by
          have := f3.length_le
          rw [List.length_map] at this
          omega
        have hxl : xs.length = ps.length := Paired.length f2
        have hpn : (ps.map (·.1)).Nodup := f3.nodup hnn
        have hpi : ∀ p ∈ ps, p.1 ∈ ns := fun p hp => f3.subset (List.mem_map.mpr ⟨p, hp, rfl⟩)
        have hD2 : Dr st gr cl0 (n + 4000) H2 := hD2.less (by omega)
        have hT2 := hF2.tabs hT1
        refine rd_cut (fun σ H6 => ∃ (pl dx hd md : Addr) (qs : List (Str × V)), σ = [some (.ref a), some (.ref st), some (.int (i : Int)), some (.ref tl), v4, some (.ref D), some (.ref pl), v7, v8, v9] ∧ qs.Perm ps ∧ Pl C CR H6 pl dx hd md (qs.map fun p => ((.inr p.1, p.2) : L2.Key × V)) [] 0 ∧ Nw H1 pl ∧ Nw H1 hd ∧ Nw H1 md ∧ Dr st gr cl0 (n + 3900) H6 ∧ Fr Λ [st, gr] H2 H6 ∧ pl ≠ D ∧ hd ≠ D ∧ md ≠ D) ?_ ?_
        · walk_at "rr"
          intro e0 he0
          walk_at "rr"
          have hF3 : Fr Λ [] H2 (L2.upd H2 e0 (.lst [])) := (Fr.refl [] H2).new he0
          have hD3 := hD2.new (o := .lst []) he0
          have f13 := hF3.at f1 nm_nil rfl
          have f23 := RowF.fr hF3 f2
          generalize L2.upd H2 e0 (.lst []) = H3 at hF3 hD3 f13 f23 ⊢
          have good : ∀ {H' : Hp} {S : List Addr}, Fr Λ S H2 H' → ∀ qs : List (Str × V), qs.Perm ps → ∀ p ∈ qs, nmB p.1 = true ∧ Sm H' p.2 := fun f qs hq p hp => ⟨hnm _ (hpi p (hq.mem_iff.mp hp)), (f4 p (hq.mem_iff.mp hp)).fr f⟩
          refine rd_emptyt (fun hne => ?_) (fun hnil => ?_)
          · walk_at "rr"
            refine ⟨st, gr, cl0, D, xs, n + 3950, rfl, f13, hDg, by omega, hD3.less (by omega), fun q ys H4 hperm _ hq hD4 hF4 => ?_⟩
            obtain ⟨qs, hqs, hR⟩ := paired_perm hperm (RowF.fr hF4 f23)
            walk_at "rr"
            intro x dx hx hdx hdn
            have hxd : L2.upd H4 dx (.own x) x = none := by rw [upd_ne (ne_sym hdn)]; exact hx
            have hF5 : Fr Λ [] H4 (L2.upd (L2.upd H4 dx (.own x)) x (.ins C dx [])) := ((Fr.refl [] H4).new hdx).new hxd
            have hF24 : Fr Λ [st, gr] H2 (L2.upd (L2.upd H4 dx (.own x)) x (.ins C dx [])) := (hF3.mono (by simp)).trans (hF4.trans (hF5.mono (by simp)))
            refine ⟨x, dx, q, ys, qs, rfl, upd_same, .inl (SqL.of (hF5.at hq nm_nil rfl)), ne_of_none hq hx, RowF.rows (RowF.fr hF5 hR), (hqs.map _).nodup_iff.mpr hpn, good hF24 qs hqs, by rw [hqs.length_eq]; omega, fun hd md H6 a1 a2 a3 a4 hP6 hF6 => ⟨rfl, ?_⟩⟩
            have hF16 : Fr Λ [st, gr] H1 H4 := hF2.trans ((hF3.mono (by simp)).trans hF4)
            have f15 := hF5.at (hF4.at f13 (nm_cons (hDst _ f13 hD3) (nm_cons hDg nm_nil)) rfl) nm_nil rfl
            have hF46 : Fr Λ [] H4 H6 := hF6.step hF5 (sub_cons (.inr (.of hx)) sub_nil)
            refine ⟨x, dx, hd, md, qs, rfl, hqs, hP6, hF16.free (.of hx), hF16.free (hF5.free a3), hF16.free (hF5.free a4), (hD4.keep hF46 nm_nil nm_nil nm_nil).less (by omega), (hF3.mono (by simp)).trans (hF4.trans (hF46.mono (by simp))), ?_, ?_, ?_⟩
            · exact ne_sym (ne_of_none (hF4.at f13 (nm_cons (hDst _ f13 hD3) (nm_cons hDg nm_nil)) rfl) hx)
            · exact ne_sym (a3.ne f15 rfl)
            · exact ne_sym (a4.ne f15 rfl)
          · obtain rfl := hnil
            obtain rfl : ps = [] := List.length_eq_zero_iff.mp hxl.symm
            intro x dx hxK hx hdx hdn
            have hxd : L2.upd H3 dx (.own x) x = none := by rw [upd_ne (ne_sym hdn)]; exact hx
            have hF5 : Fr Λ [] H3 (L2.upd (L2.upd H3 dx (.own x)) x (.ins C dx [])) := ((Fr.refl [] H3).new hdx).new hxd
            refine ⟨x, dx, et, [], [], rfl, upd_same, .inr (T.etup _), fun e => ?_, RowF.rows .nil, List.nodup_nil, (fun p hp => nomatch hp), by simp, fun hd md H6 a1 a2 a3 a4 hP6 hF6 => ⟨rfl, ?_⟩⟩
            · have := T.eti
              have hxK2 : K.lookup x = none := hxK
              rw [e, hxK2] at this
              cases this
            have hF36 : Fr Λ [] H3 H6 := hF6.step hF5 (sub_cons (.inr (.of hx)) sub_nil)
            have hF13 : Fr Λ [st, gr] H1 H3 := hF2.trans (hF3.mono (by simp))
            have f15 := hF5.at f13 nm_nil rfl
            refine ⟨x, dx, hd, md, [], rfl, .refl _, hP6, hF13.free (.of hx), hF13.free (hF5.free a3), hF13.free (hF5.free a4), (hD3.keep hF36 nm_nil nm_nil nm_nil).less (by omega), (hF3.trans hF36).mono (by simp), ?_, ?_, ?_⟩
            · exact ne_sym (ne_of_none f13 hx)
            · exact ne_sym (a3.ne f15 rfl)
            · exact ne_sym (a4.ne f15 rfl)
        · rintro σ H6 ⟨pl, dx, hd, md, qs, rfl, hqs, hP6, w1, w2, w3, hD6, hF6, d1, d2, d3⟩
          have f16 := hF6.at f1 (nm_cons (hDst _ f1 hD2) (nm_cons hDg nm_nil)) rfl
          have f26 := RowF.fr hF6 f2
          obtain ⟨as, rfl, hAs⟩ := RowF.dict (K := K) f26
          walk_at "rr"
          intro bx hbx
          walk_at "rr"
          have hbxD : D ≠ bx := ne_of_none f16 hbx
          have g1 : Fr Λ [] H6 (L2.upd H6 bx (.dK [])) := (Fr.refl [] H6).new hbx
          refine ⟨D, as, _, rfl, SqL.of (g1.at f16 nm_nil rfl), Paired.mapP hAs fun a kv h => SqT_fr h g1 nm_nil, fun bh hbh => ?_⟩
          have hmg : mergeK [] (ps.map fun p => ((.inr p.1, p.2) : L2.Key × V)) = ps.map fun p => ((.inr p.1, p.2) : L2.Key × V) := merge_new ps [] hpn
          rw [hmg]
          walk_at "rr"
          intro bm hbm
          walk_at "rr"
          intro bb hbb
          walk_at "rr"
          have b0 : L2.upd H6 bx (.dK []) bx = some (.dK []) := upd_same
          have b1 : L2.upd (L2.upd H6 bx (.dK [])) bh (.dK (ps.map fun p => ((.inr p.1, p.2) : L2.Key × V))) bh = some (.dK (ps.map fun p => ((.inr p.1, p.2) : L2.Key × V))) := upd_same
          have g2 : Fr Λ [] (L2.upd H6 bx (.dK [])) (L2.upd (L2.upd H6 bx (.dK [])) bh (.dK (ps.map fun p => ((.inr p.1, p.2) : L2.Key × V)))) := (Fr.refl [] _).new hbh
          generalize L2.upd (L2.upd H6 bx (.dK [])) bh (.dK (ps.map fun p => ((.inr p.1, p.2) : L2.Key × V))) = H7 at b1 g2 hbm hbb ⊢
          have g3 : Fr Λ [] H7 (L2.upd H7 bm (.lst [])) := (Fr.refl [] _).new hbm
          have b2 : L2.upd H7 bm (.lst []) bm = some (.lst []) := upd_same
          generalize L2.upd H7 bm (.lst []) = H8 at b2 g3 hbb ⊢
          have g4 : Fr Λ [] H8 (L2.upd H8 bb (.lst [])) := (Fr.refl [] _).new hbb
          have b3 : L2.upd H8 bb (.lst []) bb = some (.lst []) := upd_same
          generalize L2.upd H8 bb (.lst []) = H9 at b3 g4 ⊢
          have hh6 := hP6.held
          have hm6 := hP6.made
          have k1 : H7 bx = some (.dK []) := g2.at b0 nm_nil rfl
          have k3 : H8 bh = _ := g3.at b1 nm_nil rfl
          have k4 : H9 bh = _ := g4.at k3 nm_nil rfl
          have k5 : H9 bm = _ := g4.at b2 nm_nil rfl
          have k6 : H9 bx = some (.dK []) := g4.at (g3.at k1 nm_nil rfl) nm_nil rfl
          have g6 : Fr Λ [] H6 H9 := ((g1.trans g2).trans g3).trans g4
          have xh : bx ≠ bh := ne_of_none b0 hbh
          have hh1 : hd ≠ bx := ne_of_none hh6 hbx
          have hh2 : hd ≠ bh := ne_of_none (g1.at hh6 nm_nil rfl) hbh
          have mb : bm ≠ bb := ne_of_none b2 hbb
          have mm : md ≠ bm := ne_of_none ((g1.trans g2).at hm6 nm_nil rfl) hbm
          have mb2 : md ≠ bb := ne_of_none (((g1.trans g2).trans g3).at hm6 nm_nil rfl) hbb
          have Dm : D ≠ bm := ne_of_none ((g1.trans g2).at f16 nm_nil rfl) hbm
          have Db : D ≠ bb := ne_of_none (((g1.trans g2).trans g3).at f16 nm_nil rfl) hbb
          refine ⟨k6, [(.inr "held", .ref bh), (.inr "made", .ref bm), (.inr "begun", .ref bb)], rfl, by simp, ?_⟩
          rw [show mergeK [] [((.inr "held" : L2.Key), V.ref bh), (.inr "made", .ref bm), (.inr "begun", .ref bb)] = [(.inr "held", .ref bh), (.inr "made", .ref bm), (.inr "begun", .ref bb)] from rfl]
          have b9 : L2.upd H9 bx (.dK [(.inr "held", .ref bh), (.inr "made", .ref bm), (.inr "begun", .ref bb)]) bx = some (.dK [(.inr "held", .ref bh), (.inr "made", .ref bm), (.inr "begun", .ref bb)]) := upd_same
          have g9 : Fr Λ [bx] H9 (L2.upd H9 bx (.dK [(.inr "held", .ref bh), (.inr "made", .ref bm), (.inr "begun", .ref bb)])) := (Fr.refl [bx] H9).upd (.inl List.mem_cons_self) k6 rfl
          have g69 : Fr Λ [] H6 (L2.upd H9 bx (.dK [(.inr "held", .ref bh), (.inr "made", .ref bm), (.inr "begun", .ref bb)])) := g9.step g6 (sub_cons (.inr (.of hbx)) sub_nil)
          generalize L2.upd H9 bx (.dK [(.inr "held", .ref bh), (.inr "made", .ref bm), (.inr "begun", .ref bb)]) = H10 at b9 g9 g69 ⊢
          have D10 := g69.at f16 nm_nil rfl
          walk_at "rr"
          refine ⟨D, _, rfl, rfl, D10, ?_⟩
          have gD : Fr Λ [D] H10 (L2.upd H10 D (.lst [])) := (Fr.refl [D] H10).upd (.inl List.mem_cons_self) D10 rfl
          generalize L2.upd H10 D (.lst []) = H11 at gD ⊢
          have g611 : Fr Λ [D] H6 H11 := (g69.mono (by simp)).trans gD
          have hD11 : Dr st gr cl0 (n + 3900) H11 := hD6.keep g611 (nm_cons (ne_sym (hDst _ f16 hD6)) nm_nil) (nm_cons (ne_sym hDg) nm_nil) (nm_cons hDc nm_nil)
          have hP11 := hP6.keep g611 (nm_cons d1 nm_nil) (nm_cons d2 nm_nil) (nm_cons d3 nm_nil) fun R hR => nomatch hR
          have hW11 : Wd C CR H11 ⟨pl, dx, hd, md, bx, bh, bm, bb, qs.map fun p => ((.inr p.1, p.2) : L2.Key × V), ps.map fun p => ((.inr p.1, p.2) : L2.Key × V), [], [], [], 0, ns⟩ :=
            Wd.start hP11 (gD.at b9 (nm_cons (ne_sym hbxD) nm_nil) rfl) (gD.at (g9.at k4 (nm_cons (ne_sym xh) nm_nil) rfl) (nm_cons (ne_sym (ne_of_none (g1.at f16 nm_nil rfl) hbh)) nm_nil) rfl) (gD.at (g9.at k5 (nm_cons (ne_of k5 k6 (by intro z; cases z)) nm_nil) rfl) (nm_cons (ne_sym Dm) nm_nil) rfl) (gD.at (g9.at b3 (nm_cons (ne_of b3 k6 (by intro z; cases z)) nm_nil) rfl) (nm_cons (ne_sym Db) nm_nil) rfl) (by omega) hqs hpn hpi
              (fun p hp => ((f4 p hp).fr hF6).fr g611) (by omega) hnm hnn xh hh2 hh1 mb mm mb2
          have hF1b : Fr Λ [st, gr] H1 H6 := hF2.trans hF6
          have hF111 : Fr Λ [st, gr] H1 H11 := g611.step hF1b (sub_cons (.inr (.of hD)) sub_nil)
          have hft : ∀ x ∈ foot ⟨pl, dx, hd, md, bx, bh, bm, bb, qs.map fun p => ((.inr p.1, p.2) : L2.Key × V), ps.map fun p => ((.inr p.1, p.2) : L2.Key × V), [], [], [], 0, ns⟩, Nw H1 x := fun x hx => by
            simp only [foot, List.map_nil, List.mem_cons, List.not_mem_nil, or_false] at hx
            rcases hx with rfl | rfl | rfl | rfl | rfl | rfl | rfl
            · exact w1
            · exact w2
            · exact w3
            · exact hF1b.free (.of hbx)
            · exact hF1b.free (g1.free (.of hbh))
            · exact hF1b.free (g1.free (g2.free (.of hbm)))
            · exact hF1b.free (g1.free (g2.free (g3.free (.of hbb))))
          obtain ⟨yd, hst1⟩ := hD1.stdict
          have hap : Ap st gr cl0 ⟨pl, dx, hd, md, bx, bh, bm, bb, qs.map fun p => ((.inr p.1, p.2) : L2.Key × V), ps.map fun p => ((.inr p.1, p.2) : L2.Key × V), [], [], [], 0, ns⟩ := ⟨fun x hx => (by
            have h := hft x (by simp only [foot, List.map_nil]; exact hx)
            exact ⟨ne_sym (h.ne hst1 rfl), ne_sym (h.ne hgr1 rfl), ne_sym (h.ne hcl1 rfl)⟩), fun R hR => nomatch hR⟩
          walk_at "rr"
          refine ⟨st, gr, cl0, n + 3800, 31, rfl, by decide, by decide, hD11.less (by omega), fun q H12 q0 q1 hD12 hF12 => ?_⟩
          walk_at "rr"
          have hW12 := hW11.keepD hF12 hap
          refine rd_forr (n := q.toNat) (by omega) (by omega) (LapP Λ C CR st gr cl0 a tl D n ns H1) ⟨_, _, _, _, _, rfl, hW12, hap, hD12.less (by omega), rfl, by show (ps.map _).length ≤ _; rw [List.length_map]; omega, by show (qs.map _).length ≤ _; rw [List.length_map, hqs.length_eq]; omega, Nat.zero_le _, Nat.zero_le _, hft, hF111.trans hF12⟩ ?_ ?_
          · rintro lap σ H13 hlap ⟨g, u2, u4, u8, u9, rfl, hW, hAp, hDl, hts2, lk, lp, lR, lb, hfo, hFl⟩
            have hl31 : 31 - lap = (31 - (lap + 1)) + 1 := by omega
            rw [hl31] at hDl
            generalize hm : n + 70 * (31 - (lap + 1)) = m at hDl ⊢
            have hDl : Dr st gr cl0 (m + 70) H13 := hDl.less (by omega)
            have htl13 := hFl.at htl (nm_cons hts (nm_cons htg nm_nil)) rfl
            have hne : ns.map V.str ≠ [] := by
              intro e
              have : ns.length = 0 := by rw [← List.length_map (f := V.str), e]; rfl
              omega
            walk_at "rr"
            refine ⟨st, gr, cl0, m + 65, .ref tl, rfl, hDl.less (by omega), .inl ⟨tl, _, rfl, htl13, htg, hne, by rw [List.length_map]; omega, fun y H14 hy hD14 hF14 => ?_⟩⟩
            obtain ⟨z, hz, rfl⟩ := List.mem_map.mp hy
            walk_at "rr"
            refine ⟨st, gr, cl0, m + 60, 4, rfl, by decide, by decide, hD14.less (by omega), fun r H15 _ _ hD15 hF15 => ?_⟩
            have hF115 : Fr Λ [st, gr] H13 H15 := hF14.trans hF15
            have hW15 := hW.keepD hF115 hAp
            have hFl15 : Fr Λ [st, gr] H1 H15 := hFl.trans hF115
            have hT15 := hFl15.tabs hT1
            have hzt : z ∈ g.ts := by rw [hts2]; exact hz
            have fin : ∀ (g' : Wg) (H16 : Hp) (u4 u8 u9 : Option V), Wd C CR H16 g' → Ap st gr cl0 g' → Dr st gr cl0 m H16 → g'.bx = g.bx → g'.pl = g.pl → g'.ts = g.ts → g'.kl.length ≤ g.kl.length + 1 → g'.kp.length ≤ g.kp.length + 1 → g'.Rs.length ≤ g.Rs.length + 1 → g'.bg.length ≤ g.bg.length + 1 → (∀ x ∈ foot g', x ∈ foot g ∨ Nw H15 x) → Fr Λ (st :: gr :: foot g) H15 H16 → ∀ H17, Fr Λ [] H16 H17 →
                LapP Λ C CR st gr cl0 a tl D n ns H1 (lap + 1) [some (.ref a), some (.ref st), u2, some (.ref tl), u4, some (.ref D), some (.ref g.pl), some (.ref g.bx), u8, u9] H17 := fun g' H16 u4 u8 u9 w1 w2 w3 e1 e2 e3 e4 e5 e6 e7 e8 f H17 f2 => by
              refine ⟨g', _, _, _, _, by rw [e1, e2], w1.keep0 f2, w2, (w3.keep f2 nm_nil nm_nil nm_nil).less (by omega), e3.trans hts2, by omega, by omega, by omega, by omega, fun x hx => (e8 x hx).elim (hfo x) fun h => hFl15.free h, ?_⟩
              refine (f.trans (f2.mono (by simp))).step hFl15 fun x hx => ?_
              rcases List.mem_cons.mp hx with rfl | hx
              · exact .inl List.mem_cons_self
              rcases List.mem_cons.mp hx with rfl | hx
              · exact .inl (List.mem_cons_of_mem _ List.mem_cons_self)
              · exact .inr (hfo x hx)
            walk_at "rr"
            refine rd_ite (fun hr0 => ?_) (fun hr0 => ?_)
            · walk_at "rr"
              refine ⟨st, gr, cl0, m, g, z, rfl, hD15, hW15, hAp, hzt, hT15, by omega, by omega, fun g' H16 h1 h2 h3 h4 h5 h6 h7 h8 h9 h10 h11 hf => ?_⟩
              have h12 : Fr Λ (st :: gr :: foot g) H15 H16 := hf.mono fun x hx => by
                unfold foot
                simp only [List.mem_cons, List.not_mem_nil, or_false] at hx ⊢
                rcases hx with h | h | h | h <;> simp [h]
              walk_at "rr"
              refine iteF ?_
              walk_at "rr"
              refine rd_ite (fun h => absurd h (by omega)) (fun _ => ?_)
              refine iteF ?_
              walk_at "rr"
              have hF1x : Fr Λ [st, gr] H1 H16 := (h12.step hFl15 fun x hx => by
                rcases List.mem_cons.mp hx with rfl | hx
                · exact .inl List.mem_cons_self
                rcases List.mem_cons.mp hx with rfl | hx
                · exact .inl (List.mem_cons_of_mem _ List.mem_cons_self)
                · exact .inr (hfo x hx))
              have htl16 := hF1x.at htl (nm_cons hts (nm_cons htg nm_nil)) rfl
              have hT16 := hF1x.tabs hT1
              refine ⟨g', tl, by rw [h4, h5]; rfl, h2, by rw [h6, hts2]; exact htl16, hT16, fun H17 hF17 => ?_⟩
              walk_at "rr"
              refine iteF ?_
              walk_at "rr"
              exact fin g' H16 _ _ _ h2 h3 h1 h4 h5 h6 h9 h10 (by omega) (by omega) (fun x hx => .inl (by rw [h11] at hx; exact hx)) h12 H17 hF17
            · refine iteF ?_
              walk_at "rr"
              refine rd_ite (fun _ => ?_) (fun h => absurd (show 0 < r by omega) h)
              walk_at "rr"
              refine ⟨st, gr, cl0, m, g, z, rfl, hD15, hW15, hAp, hzt, hT15, by omega, by omega, fun g' H16 h1 h2 h3 h4 h5 h6 h7 h8 h9 h10 h11 h12 => ?_⟩
              walk_at "rr"
              refine iteF ?_
              walk_at "rr"
              have hF1x : Fr Λ [st, gr] H1 H16 := (h12.step hFl15 fun x hx => by
                rcases List.mem_cons.mp hx with rfl | hx
                · exact .inl List.mem_cons_self
                rcases List.mem_cons.mp hx with rfl | hx
                · exact .inl (List.mem_cons_of_mem _ List.mem_cons_self)
                · exact .inr (hfo x hx))
              have htl16 := hF1x.at htl (nm_cons hts (nm_cons htg nm_nil)) rfl
              have hT16 := hF1x.tabs hT1
              refine ⟨g', tl, by rw [h4, h5]; rfl, h2, by rw [h6, hts2]; exact htl16, hT16, fun H17 hF17 => ?_⟩
              walk_at "rr"
              refine iteF ?_
              walk_at "rr"
              exact fin g' H16 _ _ _ h2 h3 h1 h4 h5 h6 (by rw [h9]; omega) (by rw [h10]; omega) h7 h8 h11 h12 H17 hF17
          · rintro σ H13 ⟨g, u2, u4, u8, u9, rfl, _, _, hDl, _, _, _, _, _, _, hFl⟩
            walk_at "rr"
            exact ⟨_, _, _, _, _, _, _, _, rfl, hDl.less (by omega), hFl.tabs hT1⟩
    · walk_at "rr"
      exact k H'
end
end Z

end
section
local macro_rules | `(tactic| walk_at "ne") => `(tactic| first
  | assumption
  | (refine Z.ne_sym ?_; assumption)
  | (refine' Z.ne_new ?ka ?kb; (case ka => assumption); (case kb => walk_at "h"))
  | (refine' Z.ne_sym (Z.ne_new ?ka ?kb); (case ka => assumption); (case kb => walk_at "h"))
  | ((with_reducible refine' Z.ne_nw ?ka ?kb ?kc); (case ka => assumption); (case kb => walk_at "h"); (case kc => rfl))
  | ((with_reducible refine' Z.ne_sym (Z.ne_nw ?ka ?kb ?kc)); (case ka => assumption); (case kb => walk_at "h"); (case kc => rfl))
  | exact L2.ne_of (by assumption) (by assumption) (by intro z; cases z)
  | exact Z.ne_sym (L2.ne_of (by assumption) (by assumption) (by intro z; cases z)))
local macro_rules | `(tactic| walk_at "nm") => `(tactic| first
  | exact Z.nm_nil
  | exact Z.nm_cons (by walk_at "ne") (by walk_at "nm"))
local macro_rules | `(tactic| walk_at "h") => `(tactic| first
  | assumption
  | exact L2.upd_same
  | ((with_reducible refine' Eq.trans (L2.upd_ne ?ka) ?kb); (case ka => walk_at "ne"); (case kb => walk_at "h"))
  | ((with_reducible refine' Z.Fr.at ?ka ?kb ?kc ?kd); (case ka => assumption); (case kb => walk_at "h"); (case kc => walk_at "nm"); (case kd => rfl))
  | ((with_reducible refine' Z.Fr.tup ?ka ?kb); (case ka => assumption); (case kb => walk_at "h")))
local macro_rules | `(tactic| walk_at "free") => `(tactic| first
  | assumption
  | exact Z.Nw.of (by assumption)
  | ((with_reducible refine' Z.Fr.free ?ka ?kb); (case ka => assumption); (case kb => walk_at "free")))
local macro_rules | `(tactic| walk_at "ms") => `(tactic| first
  | exact Or.inl List.mem_cons_self
  | exact Or.inl (List.mem_cons_of_mem _ List.mem_cons_self)
  | (left; simp; done)
  | (right; walk_at "free"))
local macro_rules | `(tactic| walk_at "sub") => `(tactic| first
  | exact Z.sub_nil
  | ((with_reducible refine' Z.sub_cons ?ka ?kb); (case ka => walk_at "ms"); (case kb => walk_at "sub")))
local macro_rules | `(tactic| walk_at "fr") => `(tactic| first
  | assumption
  | exact Z.Fr.refl _ _
  | ((with_reducible refine' Z.Fr.new ?ka ?kb); (case kb => assumption); (case ka => walk_at "fr"))
  | ((with_reducible refine' Z.Fr.upd ?ka ?kb ?kc ?kd ?ke); (case kb => walk_at "ms"); (case kc => walk_at "h"); (case kd => rfl); (case ke => rfl); (case ka => walk_at "fr"))
  | ((with_reducible refine' Z.Fr.step ?ka ?kb ?kc); (case ka => assumption); (case kb => walk_at "fr"); (case kc => walk_at "sub")))
local macro_rules | `(tactic| walk_at "dt") => `(tactic| first
  | assumption
  | (refine Z.DT.new ?_ (by assumption); walk_at "dt")
  | (refine Z.DTs.new ?_ (by assumption); walk_at "dt")
  | (refine' Z.DT.wr ?ka ?kb ?kc; (case kb => walk_at "h"); (case kc => rfl); (case ka => walk_at "dt"))
  | (refine' Z.DTs.wr ?ka ?kb ?kc; (case kb => walk_at "h"); (case kc => rfl); (case ka => walk_at "dt"))
  | (refine' Z.DT.fr ?ka ?kb; (case kb => assumption); (case ka => walk_at "dt"))
  | (refine' Z.DTs.fr ?ka ?kb; (case kb => assumption); (case ka => walk_at "dt")))
local macro_rules | `(tactic| walk_at "len") => `(tactic| first
  | exact Z.lt_ok (Nat.le_of_ble_eq_true (by with_unfolding_all rfl))
  | exact Z.le_ok (Nat.le_of_ble_eq_true (by with_unfolding_all rfl))
  | (apply Z.lt_ok; (try simp only [List.length_append, List.length_cons, List.length_nil, List.length_map, List.length_set, List.length_eraseIdx] at *); omega)
  | (apply Z.le_ok; (try simp only [List.length_append, List.length_cons, List.length_nil, List.length_map, List.length_set, List.length_eraseIdx] at *); omega))
local macro_rules | `(tactic| walk_at "r") => `(tactic| first
  | (with_reducible refine Z.rd_seq ?_)
  | (with_reducible refine Z.rd_asg ?_)
  | (with_reducible refine Z.rd_gname ?_)
  | (with_reducible refine Z.rd_ifs ?_)
  | (with_reducible refine Z.rd_next ?_)
  | (with_reducible refine Z.rd_and ?_)
  | (with_reducible refine Z.rd_or ?_)
  | (with_reducible refine Z.rd_not ?_)
  | (with_reducible refine Z.rd_test ?_)
  | (with_reducible refine Z.rd_tb ?_)
  | (with_reducible refine Z.rd_bl ?_)
  | (with_reducible refine Z.rd_op ?_)
  | (with_reducible refine Z.rd_c ?_)
  | ((with_reducible refine' Z.rd_var ?ka ?_); (case ka => with_unfolding_all rfl))
  | (with_reducible refine Z.rd_ret ?_)
  | (with_reducible refine Z.rd_retn ?_)
  | (with_reducible refine Z.rd_drop ?_)
  | (with_reducible refine Z.rd_nil ?_)
  | (with_reducible refine Z.rd_cons ?_)
  | (with_reducible refine Z.rd_cb ?_)
  | (with_reducible refine Z.rd_call ?_)
  | (with_reducible refine Z.rd_dget0 ?_)
  | ((with_reducible refine' Z.rd_dget1 ?ka ?kb ?_); (case ka => walk_at "h"); (case kb => with_unfolding_all rfl))
  | (with_reducible refine Z.rd_dput0 ?_)
  | ((with_reducible refine' Z.rd_dput1 ?ka ?kb ?_); (case ka => walk_at "h"); (case kb => walk_at "len"))
  | (with_reducible refine Z.rd_eqi ?_)
  | (with_reducible refine Z.rd_eqs ?_)
  | (with_reducible refine Z.rd_nei ?_)
  | (with_reducible refine Z.rd_nes ?_)
  | (with_reducible refine Z.rd_i0 ?_)
  | (with_reducible refine Z.rd_lst ?_)
  | (with_reducible refine Z.rd_tup ?_)
  | (with_reducible refine Z.rd_ifx ?_)
  | (with_reducible refine Z.rd_bm ?_)
  | (with_reducible refine Z.rd_bm0 ?_)
  | ((with_reducible refine' Z.rd_nil2 ?ka ?kb ?_); (case ka => walk_at "h"); (case kb => walk_at "h"))
  | ((with_reducible refine' Z.rd_nil2T ?ka ?kb ?_); (case ka => walk_at "h"); (case kb => walk_at "h"))
  | (with_reducible refine Z.rd_int1 ?_)
  | ((with_reducible refine' Z.rd_size ?ka ?_); (case ka => walk_at "len"))
  | ((with_reducible refine' Z.rd_tylist ?ka ?_); (case ka => walk_at "h"))
  | ((with_reducible refine' Z.rd_i ?ka ?_); (case ka => walk_at "num"))
  | ((with_reducible refine' Z.rd_append ?ka ?kb ?_); (case ka => walk_at "h"); (case kb => walk_at "len"))
  | (with_reducible refine Z.rd_for' ?_)
  | (with_reducible refine Z.rd_lc' ?_)
  | (with_reducible refine Z.rd_un ?_)
  | (with_reducible refine Z.rd_gm ?_)
  | (with_reducible refine Z.rd_xk ?_)
  | (with_reducible refine Z.rd_stard ?_)
  | ((with_reducible refine' Z.rd_stard1 ?ka ?_); (case ka => walk_at "h"))
  | (with_reducible refine Z.rd_star ?_)
  | ((with_reducible refine' Z.rd_star1 ?ka ?_); (case ka => walk_at "h"))
  | (with_reducible refine Z.rd_dc' ?_)
  | (with_reducible refine Z.rd_dnew ?_)
  | (with_reducible refine Z.rd_dpop ?_)
  | ((with_reducible refine' Z.rd_isd ?ka ?_); (case ka => walk_at "h"))
  | (with_reducible refine Z.rd_fldaug ?_)
  | (with_reducible refine Z.rd_ilt ?_)
  | (with_reducible refine Z.rd_mko ?_)
  | (with_reducible refine Z.rd_gk ?_)
  | (with_reducible refine Z.rd_gp ?_)
  | ((with_reducible refine' Z.rd_ins1 ?ka ?_); (case ka => walk_at "h"))
  | (with_reducible refine Z.rd_disp ?_)
  | (with_reducible refine Z.rd_pnil ?_)
  | (with_reducible refine Z.rd_pcons ?_)
  | (with_reducible refine Z.rd_m1 ?_)
  | (with_reducible refine Z.rd_isstr ?_)
  | (with_reducible refine Z.rd_sl ?_)
  | (with_reducible refine Z.rd_nopart ?_)
  | (with_reducible refine Z.rd_part ?_)
  | (with_reducible refine Z.rd_part1 ?_)
  | (with_reducible refine Z.rd_u ?_)
  | (with_reducible refine Z.rd_ilist ?_)
  | (with_reducible refine Z.rd_itup ?_)
  | (with_reducible refine Z.rd_istr ?_)
  | (with_reducible refine Z.rd_irng1 ?_)
  | (with_reducible refine Z.rd_yes ?_)
  | (with_reducible refine Z.rd_sfld0 ?_)
  | (with_reducible refine Z.rd_fld0 ?_)
  | (with_reducible refine Z.rd_din ?_)
  | (with_reducible refine Z.rd_dnotin ?_)
  | (with_reducible refine Z.rd_isn ?_)
  | (with_reducible refine Z.rd_notn ?_)
  | (with_reducible refine Z.rd_par ?_)
  | (with_reducible refine Z.rd_par1 ?_)
  | (with_reducible refine Z.rd_gnil ?_)
  | (with_reducible refine Z.rd_gcons ?_)
  | (with_reducible refine Z.rd_chain ?_)
  | (with_reducible refine Z.rd_andv ?_)
  | (with_reducible refine Z.rd_orv ?_)
  | (with_reducible refine Z.rd_notv ?_)
  | (with_reducible refine Z.rd_meth ?_)
  | (with_reducible refine Z.rd_while ?_)
  | ((with_reducible refine' Z.rd_ixl ?ka ?kb ?_); (case ka => walk_at "h"); (case kb => walk_at "ati"))
  | ((with_reducible refine' Z.rd_ixt ?ka ?kb ?_); (case ka => walk_at "h"); (case kb => walk_at "ati"))
  | ((with_reducible refine' Z.rd_len ?ka ?_); (case ka => walk_at "h"))
  | ((with_reducible refine' Z.rd_lens ?ka ?_); (case ka => walk_at "h"))
  | ((with_reducible refine' Z.rd_lent ?ka ?_); (case ka => walk_at "h"))
  | ((with_reducible refine' Z.rd_lstof ?ka ?_); (case ka => walk_at "h"))
  | ((with_reducible refine' Z.rd_tupof ?ka ?_); (case ka => walk_at "h"))
  | ((with_reducible refine' Z.rd_sfld1 ?ka ?kb ?kc ?kd ?_); (case ka => walk_at "h"); (case kb => assumption); (case kc => assumption); (case kd => (first | (with_unfolding_all decide) | exact Nat.le_of_ble_eq_true (by with_unfolding_all rfl))))
  | ((with_reducible refine' Z.rd_fld1 ?ka ?kb ?kc ?kd ?_); (case ka => walk_at "h"); (case kb => assumption); (case kc => assumption); (case kd => with_unfolding_all rfl))
  | ((with_reducible refine' Z.rd_din1 ?ka ?_); (case ka => walk_at "h"))
  | ((with_reducible refine' Z.rd_gtup ?ka ?kb ?_); (case ka => walk_at "h"); (case kb => with_unfolding_all rfl))
  | ((with_reducible refine' Z.rd_catl ?ka ?kb ?kc ?_); (case ka => walk_at "h"); (case kb => walk_at "h"); (case kc => walk_at "len"))
  | ((with_reducible refine' Z.rd_meth1 ?ka ?kb ?_); (case ka => walk_at "h"); (case kb => with_unfolding_all rfl))
  | ((with_reducible refine' Z.rd_addstr ?ka ?_); (case ka => walk_at "len")))
local macro_rules | `(tactic| walk_at "ati") => `(tactic| first
  | assumption
  | (with_unfolding_all rfl)
  | exact L2.atI_nat (by assumption)
  | exact L2.atI_nat (by with_unfolding_all rfl)
  | exact L2.atI_last _ _)
local macro_rules | `(tactic| walk_at "rr") => `(tactic| repeat (walk_at "r"))
local macro_rules | `(tactic| walk_at "num") => `(tactic| first
  | (with_unfolding_all decide)
  | (show (_ : Int) ≠ 0; omega)
  | (show (_ : Int) ≠ 0 ∧ _ < 1073741824; exact ⟨by omega, by omega⟩)
  | (show (0 : Int) ≤ _ ∧ _ ≤ (1000000 : Int) ∧ _; exact ⟨by decide, by decide, by omega⟩)
  | (show (-(2 ^ 64) < (_ : Int) ∧ _ < 2 ^ 64) ∨ _; (first | (left; exact ⟨by omega, by omega⟩) | (right; exact ⟨by omega, by omega⟩)))
  | omega)
/-! ### a law's call, for a promise that is made where nothing is being shown -/
namespace Z
open PySem PySem.Spec PyProof.Rows L2
/-- the abstract heap at the law's entry: the empty tables T, the script where K does not hold it -/
def entryH (T : List Addr) (own : Bool) (a : Addr) (ob : Obj) (xs : List V) : Hp := fun b =>
  if b ∈ T then some (.tbl #[]) else if own = true ∧ b = a then some (.frz ob (.lst xs)) else none
section
variable {T : List Addr} {own : Bool} {a : Addr} {ob : Obj} {xs : List V}
theorem entryH_in {b : Addr} (h : b ∈ T) : entryH T own a ob xs b = some (.tbl #[]) := by unfold entryH; exact if_pos h
theorem entryH_out {b : Addr} (h : b ∉ T) (h2 : b ≠ a ∨ own = false) : entryH T own a ob xs b = none := by
  unfold entryH
  rw [if_neg h]
  refine if_neg fun z => ?_
  rcases h2 with h2 | h2
  · exact h2 z.2
  · rw [h2] at z; exact Bool.false_ne_true z.1
theorem entryH_a (h : a ∉ T) (h2 : own = true) : entryH T own a ob xs a = some (.frz ob (.lst xs)) := by
  unfold entryH
  rw [if_neg h]
  exact if_pos ⟨h2, rfl⟩
theorem entryH_cases {b : Addr} {u : HO} (h : entryH T own a ob xs b = some u) : (b ∈ T ∧ u = .tbl #[]) ∨ (b ∉ T ∧ own = true ∧ b = a ∧ u = .frz ob (.lst xs)) := by
  by_cases hb : b ∈ T
  · rw [entryH_in hb] at h
    exact .inl ⟨hb, (Option.some.inj h).symm⟩
  · by_cases h2 : own = true ∧ b = a
    · obtain ⟨h3, rfl⟩ := h2
      rw [entryH_a hb h3] at h
      exact .inr ⟨hb, h3, rfl, (Option.some.inj h).symm⟩
    · have h4 : b ≠ a ∨ own = false := by
        by_cases e : b = a
        · right
          cases own with
          | false => rfl
          | true => exact absurd ⟨rfl, e⟩ h2
        · exact .inl e
      rw [entryH_out hb h4] at h
      cases h
end
theorem law_callG {P : Program} {w : World} {K : PySem.W.Frag} {mg mb : Str → Option Value} {k : Nat} {fa a : Addr} {cs : List (Addr × Addr)} {fd : FuncData} {x : Str} {sp : Sp} {s : Shared} {vs : List Value} {ns : List Int}
    (KX : K.In s.heap) (hg : s.heap.Ns mainGlobals mg) (hb : s.heap.Ns builtinsNs mb) (hbb : ∀ x : Str, x ≠ "__name__" → mb x = bootBuiltins x) (hlim : s.heap.NoLimit) (hgen : s.gens = #[])
    (hT : ∀ p ∈ cs, s.heap.get? p.2 = some { cls := .none, data := .fields #[] }) (nT : ∀ p ∈ cs, K.lookup p.2 = none) (hC : ∀ p ∈ cs, PySem.W.CodeHd s.heap p.1 p.2)
    (hbm : ∃ (bm : Addr) (ob : Obj), mg "__builtins__" = some (.ref bm) ∧ bm ≠ builtinsNs ∧ s.heap.get? bm = some ob ∧ ob.cls = .type "module" ∧ ob.dict = some builtinsNs ∧ ob.data = .plain)
    (ha : s.heap.get? a = some { cls := .type "list", data := .seq vs.toArray }) (hi : IntsAre vs ns) (hl : ns.length ≤ sizeLine) (hr : Room k callerA)
    (F : ∀ base : Heap, K.In base → base.Ns mainGlobals mg → (∀ p ∈ cs, LamX.TabB base mg p.1 p.2) → GOk true P w K mg base k fa fd [x] sp) (hbind : ∀ (s : Shared) (u : Value), BindsTo s fd ⟨[u], []⟩ [(x, u)])
    (hsp : ∀ H : Hp, (∀ p ∈ cs, H p.2 = some (.tbl #[])) → SqL K H a (ns.map V.int) → sp [.ref a] H (fun v _ => v = .bl true) fun _ _ _ => False) :
    codeAny (model P w) callerA (.call (.ref fa) ⟨[.ref a], []⟩) (fun r s' => r = .ok (.ret (.bool true)) ∧ OldK s.heap s'.heap ∧ s'.os = s.os ∧ AllBare s'.gens) s := by
  have hlen := hi.length
  have hv : Vals (ns.map V.int) vs := vals_ints hi
  have tab : ∀ b ∈ cs.map (·.2), s.heap.get? b = some { cls := .none, data := .fields #[] } := fun b h => by
    obtain ⟨p, hp, rfl⟩ := List.mem_map.mp h
    exact hT p hp
  have tabK : ∀ b ∈ cs.map (·.2), K.lookup b = none := fun b h => by
    obtain ⟨p, hp, rfl⟩ := List.mem_map.mp h
    exact nT p hp
  have inT : ∀ p ∈ cs, p.2 ∈ cs.map (·.2) := fun p hp => List.mem_map.mpr ⟨p, hp, rfl⟩
  have aT : a ∉ cs.map (·.2) := fun h => by
    have e := tab a h
    rw [ha] at e
    have e2 : (Data.seq vs.toArray _ : Data) = Data.fields #[] := congrArg Obj.data (Option.some.inj e)
    cases e2
  -- whether the script is K's own or is tracked
  obtain ⟨own, hown, hlook⟩ : ∃ own : Bool, (own = true → K.lookup a = none) ∧ (own = false → ∃ o, K.lookup a = some o) := by
    cases e : K.lookup a with
    | none => exact ⟨true, fun _ => rfl, fun z => (by cases z)⟩
    | some o => exact ⟨false, fun z => (by cases z), fun _ => ⟨o, rfl⟩⟩
  generalize hH : entryH (cs.map (·.2)) own a { cls := .type "list", data := .seq vs.toArray } (ns.map V.int) = H
  have cases_ : ∀ {b : Addr} {u : HO}, H b = some u → (b ∈ cs.map (·.2) ∧ u = .tbl #[]) ∨ (b ∉ cs.map (·.2) ∧ own = true ∧ b = a ∧ u = .frz { cls := .type "list", data := .seq vs.toArray } (.lst (ns.map V.int))) := fun h => by
    rw [← hH] at h
    exact entryH_cases h
  -- an object that is neither a list of that kind nor an empty record stands in the base
  have free : ∀ {b : Addr} {o : Obj}, s.heap.get? b = some o → (∀ q n, o.data ≠ .seq q n) → o.data ≠ .fields #[] → H b = none := fun {b o} e h1 h2 => by
    cases q : H b with
    | none => rfl
    | some u =>
      rcases cases_ q with ⟨m, _⟩ | ⟨_, _, rfl, _⟩
      · rw [tab b m] at e
        cases e
        exact absurd rfl h2
      · rw [ha] at e
        cases e
        exact absurd rfl (h1 _ _)
  have freeD : ∀ {b : Addr} {o : Obj} {es : Array DictEntry} {ep : Nat}, s.heap.get? b = some o → o.data = .dict es ep → H b = none := fun e d => by
    refine free e (fun q n z => ?_) fun z => ?_
    · rw [d] at z; cases z
    · rw [d] at z; cases z
  have baseNs : ∀ {b : Addr} {m : Str → Option Value}, s.heap.Ns b m → (hidT s.heap H).Ns b m := fun ⟨o, es, ep, e, d, r⟩ => ⟨o, es, ep, hidT_get e (freeD e d), d, r⟩
  have baseK : K.In (hidT s.heap H) := fun b o e => by
    refine hidT_get (KX b o e) ?_
    cases q : H b with
    | none => rfl
    | some u =>
      rcases cases_ q with ⟨m, _⟩ | ⟨_, h2, rfl, _⟩
      · rw [tabK b m] at e; cases e
      · rw [hown h2] at e; cases e
  have hmod : L2.Mod K mg (hidT s.heap H) := by
    obtain ⟨mc, l1, l2⟩ := hlim
    exact ⟨baseK, baseNs hg, ⟨mb, baseNs hb, hbb⟩, mc, baseNs l1, l2⟩
  have tabs : ∀ p ∈ cs, LamX.TabB (hidT s.heap H) mg p.1 p.2 := fun p hp => by
    have hp2 := hT p hp
    refine ⟨?_, ?_, fun z => ?_⟩
    · obtain ⟨o, us, file, tf, flags, tg, inF, text, tt, e1, r1, r2, r3, rest⟩ := hC p hp
      refine ⟨o, us, file, tf, flags, tg, inF, text, tt, hidT_get e1 (free e1 (fun q n z => ?_) fun z => ?_), r1, r2, r3, rest⟩
      · rw [r2] at z; cases z
      · rw [r2] at z
        cases z
        simp at r3
    · obtain ⟨bm, o, b1, b2, b3, b4, b5, b6⟩ := hbm
      refine ⟨bm, o, b1, b2, fun q => ?_, fun q => ?_, hidT_get b3 (free b3 (fun q n z => ?_) fun z => ?_), b4, b5, b6⟩
      · obtain ⟨o', es, ep, e, d, _⟩ := hg
        rw [q, e] at b3
        cases b3
        rw [d] at b6
        cases b6
      · rw [q, hp2] at b3
        cases b3
        cases b6
      · rw [b6] at z; cases z
      · rw [b6] at z; cases z
    · obtain ⟨o, es, ep, e, d, _⟩ := hg
      rw [z, hp2] at e
      cases e
      cases d
  have hseq : SqL K H a (ns.map V.int) := by
    cases ho : own with
    | true =>
      refine .inl (.inr ⟨{ cls := .type "list", data := .seq vs.toArray }, ?_⟩)
      rw [← hH]
      exact entryH_a aT ho
    | false =>
      obtain ⟨o, e⟩ := hlook ho
      have e2 := KX a o e
      rw [ha] at e2
      cases e2
      exact .inr ⟨_, vs.toArray, _, e, rfl, rfl, rfl, by rw [List.size_toArray, hlen]; exact hl, by simpa using hv⟩
  have hok : HOk P w H s.heap := fun b u e => by
    rcases cases_ e with ⟨m, rfl⟩ | ⟨_, _, rfl, rfl⟩
    · exact tab b m
    · exact ⟨ha, by rw [List.length_map]; exact hl, vs, _, hv, ha⟩
  have e0 : Env0 P w K mg (hidT s.heap H) callerA [] s H := ⟨rfl, hmod, fun b o e => of_hidT e, Nat.le_of_eq (hidT_size _ _), trivial, fun b z => absurd (show b ∈ ([] : List Addr) from z) (by simp), hok, .of_eq hgen⟩
  have run := (F _ baseK (baseNs hg) tabs).run callerA [] s H ⟨[.ref a], []⟩ [.ref a] [.ref a] _ _ (fun _ => rfl) hr e0 (hbind s (.ref a)) (.cons rfl .nil) (hsp H (fun p hp => by rw [← hH]; exact entryH_in (inT p hp)) hseq)
  refine codeAny_mono run fun r s' h => ?_
  cases r with
  | error e =>
    obtain ⟨_, _, _, _, _, _, _, _, _, _, _, _, z⟩ := h
    exact z.elim
  | ok fl =>
    cases fl with
    | next => exact False.elim h
    | brk => exact False.elim h
    | cont => exact False.elim h
    | ret u =>
      obtain ⟨v, H', h1, h2, un, hok', rv, rfl⟩ := h
      obtain rfl : u = Value.bool true := rv
      have key : ∀ b o, b ∉ cs.map (·.2) → s.heap.get? b = some o → s'.heap.get? b = some o := fun b o nb e => by
        cases q : H b with
        | none => exact un.keep b o e q (fun z => absurd (show b ∈ ([] : List Addr) from z) (by simp)) (by simp)
        | some u =>
          rcases cases_ q with ⟨m, _⟩ | ⟨_, _, rfl, rfl⟩
          · exact absurd m nb
          · have e1 := (hok b _ q).1
            rw [e] at e1
            cases e1
            exact (hok' b _ (un.frzs b _ _ q)).1
      have grown : ∀ p ∈ cs, ∃ more : Array Value, s'.heap.get? p.2 = some { cls := .none, data := .fields more } := fun p hp => by
        obtain ⟨more, z⟩ := un.tbls p.2 #[] (by rw [← hH]; exact entryH_in (inT p hp))
        exact ⟨_, hok' p.2 _ z⟩
      refine ⟨rfl, ⟨fun b o e => ?_, fun b o e => ?_⟩, h1, h2⟩
      · by_cases hbT : b ∈ cs.map (·.2)
        · obtain ⟨p, hp, rfl⟩ := List.mem_map.mp hbT
          obtain ⟨more, hm⟩ := grown p hp
          rw [hT p hp] at e
          cases e
          exact .inr (.inl ⟨((hC p hp).tab (hT p hp)).isCodeTable, rfl, #[], more, rfl, by rw [Array.empty_append]; exact hm⟩)
        · exact .inl (key b o hbT e)
      · by_cases hbT : b ∈ cs.map (·.2)
        · obtain ⟨p, hp, rfl⟩ := List.mem_map.mp hbT
          obtain ⟨more, hm⟩ := grown p hp
          exact ⟨_, hm⟩
        · exact ⟨o, key b o hbT e⟩
/-- what is known of the law's promise at the head's heap h -/
structure LawG (l : PySem.W.OpenLaw) (w : World) (K : PySem.W.Frag) (k n : Nat) (x : Str) (mg : Str → Option Value) (fa : Addr) (h : Heap) : Prop where
  ex : ∃ (fd : FuncData) (cs : List (Addr × Addr)) (sp : Sp), (∀ p ∈ cs, h.get? p.2 = some { cls := .none, data := .fields #[] }) ∧ (∀ p ∈ cs, K.lookup p.2 = none) ∧ (∀ p ∈ cs, PySem.W.CodeHd h p.1 p.2) ∧
    (∀ (s : Shared) (u : Value), BindsTo s fd ⟨[u], []⟩ [(x, u)]) ∧
    (∀ (H : Hp) (a : Addr) (ns : List Int), ns.length ≤ n → (∀ z ∈ ns, Builtin.Int.intBits z ≤ 1048576) → (∀ p ∈ cs, H p.2 = some (.tbl #[])) → SqL K H a (ns.map V.int) → sp [.ref a] H (fun v _ => v = .bl true) fun _ _ _ => False) ∧
    ∀ base : Heap, K.In base → base.Ns mainGlobals mg → (∀ p ∈ cs, LamX.TabB base mg p.1 p.2) → GOk true l.prog w K mg base k fa fd [x] sp
theorem walk_G {l : PySem.W.OpenLaw} {n k : Nat} {q : Program} {loose : List Str} {XP : (Str → Option Value) → Heap → Prop} {YP : World → Heap → Prop} {d : DefRec} {x : Str} (hn : l.most = some n) (hn2 : n ≤ sizeLine) (hdf : d.params.defaults = []) (hr : Room k callerA)
    (F : ∀ (w : World) (mg : Str → Option Value) (fa : Addr) (h : Heap), YP w h → h.Ns mainGlobals mg → mg d.name = some (.ref fa) → ∃ K : PySem.W.Frag, K.In h ∧ LawG l w K k n x mg fa h) :
    PySem.W.WalkO q loose XP YP l.row.toRowW d [] (fun f vs => PySem.call f vs) := by
  refine Att.attach_callB hn hdf fun w s₀ s₁ mg mb fa o pm cd doc a vs ns G Y ho hd hcd hmg hobj hints hlen hbits hgen => ?_
  obtain ⟨K, KX, ⟨fd, cs, sp, h1, h2, h3, h4, h5, h6⟩⟩ := F w mg fa _ Y G.T.g hmg
  exact law_callG KX G.T.g G.T.b G.T.builtins G.T.nolimit hgen h1 h2 h3 G.T.bmain hobj hints (Nat.le_trans hlen hn2) hr h6 h4 fun H hH hS => h5 H a ns hlen hbits hH hS
end Z

end
section
local macro_rules | `(tactic| walk_at "ne") => `(tactic| first
  | assumption
  | (refine Z.ne_sym ?_; assumption)
  | (refine' Z.ne_new ?ka ?kb; (case ka => assumption); (case kb => walk_at "h"))
  | (refine' Z.ne_sym (Z.ne_new ?ka ?kb); (case ka => assumption); (case kb => walk_at "h"))
  | ((with_reducible refine' Z.ne_nw ?ka ?kb ?kc); (case ka => assumption); (case kb => walk_at "h"); (case kc => rfl))
  | ((with_reducible refine' Z.ne_sym (Z.ne_nw ?ka ?kb ?kc)); (case ka => assumption); (case kb => walk_at "h"); (case kc => rfl))
  | exact L2.ne_of (by assumption) (by assumption) (by intro z; cases z)
  | exact Z.ne_sym (L2.ne_of (by assumption) (by assumption) (by intro z; cases z)))
local macro_rules | `(tactic| walk_at "nm") => `(tactic| first
  | exact Z.nm_nil
  | exact Z.nm_cons (by walk_at "ne") (by walk_at "nm"))
local macro_rules | `(tactic| walk_at "h") => `(tactic| first
  | assumption
  | exact L2.upd_same
  | ((with_reducible refine' Eq.trans (L2.upd_ne ?ka) ?kb); (case ka => walk_at "ne"); (case kb => walk_at "h"))
  | ((with_reducible refine' Z.Fr.at ?ka ?kb ?kc ?kd); (case ka => assumption); (case kb => walk_at "h"); (case kc => walk_at "nm"); (case kd => rfl))
  | ((with_reducible refine' Z.Fr.tup ?ka ?kb); (case ka => assumption); (case kb => walk_at "h")))
local macro_rules | `(tactic| walk_at "free") => `(tactic| first
  | assumption
  | exact Z.Nw.of (by assumption)
  | ((with_reducible refine' Z.Fr.free ?ka ?kb); (case ka => assumption); (case kb => walk_at "free")))
local macro_rules | `(tactic| walk_at "ms") => `(tactic| first
  | exact Or.inl List.mem_cons_self
  | exact Or.inl (List.mem_cons_of_mem _ List.mem_cons_self)
  | (left; simp; done)
  | (right; walk_at "free"))
local macro_rules | `(tactic| walk_at "sub") => `(tactic| first
  | exact Z.sub_nil
  | ((with_reducible refine' Z.sub_cons ?ka ?kb); (case ka => walk_at "ms"); (case kb => walk_at "sub")))
local macro_rules | `(tactic| walk_at "fr") => `(tactic| first
  | assumption
  | exact Z.Fr.refl _ _
  | ((with_reducible refine' Z.Fr.new ?ka ?kb); (case kb => assumption); (case ka => walk_at "fr"))
  | ((with_reducible refine' Z.Fr.upd ?ka ?kb ?kc ?kd ?ke); (case kb => walk_at "ms"); (case kc => walk_at "h"); (case kd => rfl); (case ke => rfl); (case ka => walk_at "fr"))
  | ((with_reducible refine' Z.Fr.step ?ka ?kb ?kc); (case ka => assumption); (case kb => walk_at "fr"); (case kc => walk_at "sub")))
local macro_rules | `(tactic| walk_at "dt") => `(tactic| first
  | assumption
  | (refine Z.DT.new ?_ (by assumption); walk_at "dt")
  | (refine Z.DTs.new ?_ (by assumption); walk_at "dt")
  | (refine' Z.DT.wr ?ka ?kb ?kc; (case kb => walk_at "h"); (case kc => rfl); (case ka => walk_at "dt"))
  | (refine' Z.DTs.wr ?ka ?kb ?kc; (case kb => walk_at "h"); (case kc => rfl); (case ka => walk_at "dt"))
  | (refine' Z.DT.fr ?ka ?kb; (case kb => assumption); (case ka => walk_at "dt"))
  | (refine' Z.DTs.fr ?ka ?kb; (case kb => assumption); (case ka => walk_at "dt")))
local macro_rules | `(tactic| walk_at "len") => `(tactic| first
  | exact Z.lt_ok (Nat.le_of_ble_eq_true (by with_unfolding_all rfl))
  | exact Z.le_ok (Nat.le_of_ble_eq_true (by with_unfolding_all rfl))
  | (apply Z.lt_ok; (try simp only [List.length_append, List.length_cons, List.length_nil, List.length_map, List.length_set, List.length_eraseIdx] at *); omega)
  | (apply Z.le_ok; (try simp only [List.length_append, List.length_cons, List.length_nil, List.length_map, List.length_set, List.length_eraseIdx] at *); omega))
local macro_rules | `(tactic| walk_at "r") => `(tactic| first
  | (with_reducible refine Z.rd_seq ?_)
  | (with_reducible refine Z.rd_asg ?_)
  | (with_reducible refine Z.rd_gname ?_)
  | (with_reducible refine Z.rd_ifs ?_)
  | (with_reducible refine Z.rd_next ?_)
  | (with_reducible refine Z.rd_and ?_)
  | (with_reducible refine Z.rd_or ?_)
  | (with_reducible refine Z.rd_not ?_)
  | (with_reducible refine Z.rd_test ?_)
  | (with_reducible refine Z.rd_tb ?_)
  | (with_reducible refine Z.rd_bl ?_)
  | (with_reducible refine Z.rd_op ?_)
  | (with_reducible refine Z.rd_c ?_)
  | ((with_reducible refine' Z.rd_var ?ka ?_); (case ka => with_unfolding_all rfl))
  | (with_reducible refine Z.rd_ret ?_)
  | (with_reducible refine Z.rd_retn ?_)
  | (with_reducible refine Z.rd_drop ?_)
  | (with_reducible refine Z.rd_nil ?_)
  | (with_reducible refine Z.rd_cons ?_)
  | (with_reducible refine Z.rd_cb ?_)
  | (with_reducible refine Z.rd_call ?_)
  | (with_reducible refine Z.rd_dget0 ?_)
  | ((with_reducible refine' Z.rd_dget1 ?ka ?kb ?_); (case ka => walk_at "h"); (case kb => with_unfolding_all rfl))
  | (with_reducible refine Z.rd_dput0 ?_)
  | ((with_reducible refine' Z.rd_dput1 ?ka ?kb ?_); (case ka => walk_at "h"); (case kb => walk_at "len"))
  | (with_reducible refine Z.rd_eqi ?_)
  | (with_reducible refine Z.rd_eqs ?_)
  | (with_reducible refine Z.rd_nei ?_)
  | (with_reducible refine Z.rd_nes ?_)
  | (with_reducible refine Z.rd_i0 ?_)
  | (with_reducible refine Z.rd_lst ?_)
  | (with_reducible refine Z.rd_tup ?_)
  | (with_reducible refine Z.rd_ifx ?_)
  | (with_reducible refine Z.rd_bm ?_)
  | (with_reducible refine Z.rd_bm0 ?_)
  | ((with_reducible refine' Z.rd_nil2 ?ka ?kb ?_); (case ka => walk_at "h"); (case kb => walk_at "h"))
  | ((with_reducible refine' Z.rd_nil2T ?ka ?kb ?_); (case ka => walk_at "h"); (case kb => walk_at "h"))
  | (with_reducible refine Z.rd_int1 ?_)
  | ((with_reducible refine' Z.rd_size ?ka ?_); (case ka => walk_at "len"))
  | ((with_reducible refine' Z.rd_tylist ?ka ?_); (case ka => walk_at "h"))
  | ((with_reducible refine' Z.rd_i ?ka ?_); (case ka => walk_at "num"))
  | ((with_reducible refine' Z.rd_append ?ka ?kb ?_); (case ka => walk_at "h"); (case kb => walk_at "len"))
  | (with_reducible refine Z.rd_for' ?_)
  | (with_reducible refine Z.rd_lc' ?_)
  | (with_reducible refine Z.rd_un ?_)
  | (with_reducible refine Z.rd_gm ?_)
  | (with_reducible refine Z.rd_xk ?_)
  | (with_reducible refine Z.rd_stard ?_)
  | ((with_reducible refine' Z.rd_stard1 ?ka ?_); (case ka => walk_at "h"))
  | (with_reducible refine Z.rd_star ?_)
  | ((with_reducible refine' Z.rd_star1 ?ka ?_); (case ka => walk_at "h"))
  | (with_reducible refine Z.rd_dc' ?_)
  | (with_reducible refine Z.rd_dnew ?_)
  | (with_reducible refine Z.rd_dpop ?_)
  | ((with_reducible refine' Z.rd_isd ?ka ?_); (case ka => walk_at "h"))
  | (with_reducible refine Z.rd_fldaug ?_)
  | (with_reducible refine Z.rd_ilt ?_)
  | (with_reducible refine Z.rd_mko ?_)
  | (with_reducible refine Z.rd_gk ?_)
  | (with_reducible refine Z.rd_gp ?_)
  | ((with_reducible refine' Z.rd_ins1 ?ka ?_); (case ka => walk_at "h"))
  | (with_reducible refine Z.rd_disp ?_)
  | (with_reducible refine Z.rd_pnil ?_)
  | (with_reducible refine Z.rd_pcons ?_)
  | (with_reducible refine Z.rd_m1 ?_)
  | (with_reducible refine Z.rd_isstr ?_)
  | (with_reducible refine Z.rd_sl ?_)
  | (with_reducible refine Z.rd_nopart ?_)
  | (with_reducible refine Z.rd_part ?_)
  | (with_reducible refine Z.rd_part1 ?_)
  | (with_reducible refine Z.rd_u ?_)
  | (with_reducible refine Z.rd_ilist ?_)
  | (with_reducible refine Z.rd_itup ?_)
  | (with_reducible refine Z.rd_istr ?_)
  | (with_reducible refine Z.rd_irng1 ?_)
  | (with_reducible refine Z.rd_yes ?_)
  | (with_reducible refine Z.rd_sfld0 ?_)
  | (with_reducible refine Z.rd_fld0 ?_)
  | (with_reducible refine Z.rd_din ?_)
  | (with_reducible refine Z.rd_dnotin ?_)
  | (with_reducible refine Z.rd_isn ?_)
  | (with_reducible refine Z.rd_notn ?_)
  | (with_reducible refine Z.rd_par ?_)
  | (with_reducible refine Z.rd_par1 ?_)
  | (with_reducible refine Z.rd_gnil ?_)
  | (with_reducible refine Z.rd_gcons ?_)
  | (with_reducible refine Z.rd_chain ?_)
  | (with_reducible refine Z.rd_andv ?_)
  | (with_reducible refine Z.rd_orv ?_)
  | (with_reducible refine Z.rd_notv ?_)
  | (with_reducible refine Z.rd_meth ?_)
  | (with_reducible refine Z.rd_while ?_)
  | ((with_reducible refine' Z.rd_ixl ?ka ?kb ?_); (case ka => walk_at "h"); (case kb => walk_at "ati"))
  | ((with_reducible refine' Z.rd_ixt ?ka ?kb ?_); (case ka => walk_at "h"); (case kb => walk_at "ati"))
  | ((with_reducible refine' Z.rd_len ?ka ?_); (case ka => walk_at "h"))
  | ((with_reducible refine' Z.rd_lens ?ka ?_); (case ka => walk_at "h"))
  | ((with_reducible refine' Z.rd_lent ?ka ?_); (case ka => walk_at "h"))
  | ((with_reducible refine' Z.rd_lstof ?ka ?_); (case ka => walk_at "h"))
  | ((with_reducible refine' Z.rd_tupof ?ka ?_); (case ka => walk_at "h"))
  | ((with_reducible refine' Z.rd_sfld1 ?ka ?kb ?kc ?kd ?_); (case ka => walk_at "h"); (case kb => assumption); (case kc => assumption); (case kd => (first | (with_unfolding_all decide) | exact Nat.le_of_ble_eq_true (by with_unfolding_all rfl))))
  | ((with_reducible refine' Z.rd_fld1 ?ka ?kb ?kc ?kd ?_); (case ka => walk_at "h"); (case kb => assumption); (case kc => assumption); (case kd => with_unfolding_all rfl))
  | ((with_reducible refine' Z.rd_din1 ?ka ?_); (case ka => walk_at "h"))
  | ((with_reducible refine' Z.rd_gtup ?ka ?kb ?_); (case ka => walk_at "h"); (case kb => with_unfolding_all rfl))
  | ((with_reducible refine' Z.rd_catl ?ka ?kb ?kc ?_); (case ka => walk_at "h"); (case kb => walk_at "h"); (case kc => walk_at "len"))
  | ((with_reducible refine' Z.rd_meth1 ?ka ?kb ?_); (case ka => walk_at "h"); (case kb => with_unfolding_all rfl))
  | ((with_reducible refine' Z.rd_addstr ?ka ?_); (case ka => walk_at "len")))
local macro_rules | `(tactic| walk_at "ati") => `(tactic| first
  | assumption
  | (with_unfolding_all rfl)
  | exact L2.atI_nat (by assumption)
  | exact L2.atI_nat (by with_unfolding_all rfl)
  | exact L2.atI_last _ _)
local macro_rules | `(tactic| walk_at "rr") => `(tactic| repeat (walk_at "r"))
local macro_rules | `(tactic| walk_at "num") => `(tactic| first
  | (with_unfolding_all decide)
  | (show (_ : Int) ≠ 0; omega)
  | (show (_ : Int) ≠ 0 ∧ _ < 1073741824; exact ⟨by omega, by omega⟩)
  | (show (0 : Int) ≤ _ ∧ _ ≤ (1000000 : Int) ∧ _; exact ⟨by decide, by decide, by omega⟩)
  | (show (-(2 ^ 64) < (_ : Int) ∧ _ < 2 ^ 64) ∨ _; (first | (left; exact ⟨by omega, by omega⟩) | (right; exact ⟨by omega, by omega⟩)))
  | omega)
/-! ### the head's facts: defs by paths of their own (a property's getter, an error's __init__), facts of the classes as Bools -/
namespace Z
open PySem PySem.Spec PyProof.Rows L2 He
/-- where something stands -/
abbrev Path := PySem.W.Frag → Addr
def metP (C m : Str) : Path := fun K => ma K (ga K C) m
def getP (C m : Str) : Path := fun K => match PySem.W.recIn K (metP C m K) "property" with
  | some (.ref g :: _) => g
  | _ => 0
/-- a def as it is looked at: the cells of its closure by their names -/
abbrev OwV : Type := Option (Str × Str × Arguments × FuncBody × Scope × Addr × List Str × Addr)
def owObs (K : PySem.W.Frag) (p : Path) : OwV := match K.lookup (p K) with
  | some ⟨_, _, .func fd, _⟩ => some (fd.name, fd.qualname, fd.params, fd.body, fd.scope, fd.globals, fd.closure.map (·.1), fd.builtins)
  | _ => none
structure OwD where
  at_ : Path
  name : Str
  qual : Str
  st : Stmt
  cl : List Str := []
def OwD.val (d : OwD) : OwV := some (d.name, d.qual, defArgs d.st, .stmts (defBody d.st), defScope d.st, mainGlobals, d.cl, builtinsNs)
/-! the Hook -/
/-- what the module's names and the interpreter's own table reach in n steps -/
def asP (g : Addr → Option Obj) : Nat → List Addr
  | 0 => [mainGlobals, cStatics]
  | n + 1 => growD g (asP g n)
abbrev AlP : Type := (AlT × Bool) × List OwV
def seenP' (fa : List Fa) (fn : List DefD) (tf : List Defn) (ex : PySem.W.Frag → Bool) (ow : List OwD) (g : Addr → Option Obj) (K : PySem.W.Frag) : AlP :=
  ((obsT fa fn [] K, ex K && tabsB g tf K), ow.map fun d => owObs K d.at_)
def obsP (n : Nat) (fa : List Fa) (fn : List DefD) (tf : List Defn) (ex : PySem.W.Frag → Bool) (ow : List OwD) (g : Addr → Option Obj) : AlP := seenP' fa fn tf ex ow g (frT g (asP g n))
def valP (fn : List DefD) (ow : List OwD) (w : World) : AlP := ((valT fn [] w, true), ow.map OwD.val)
structure SaysP (fa : List Fa) (fn : List DefD) (tf : List Defn) (ex : PySem.W.Frag → Bool) (ow : List OwD) (w : World) (h : Heap) (K : PySem.W.Frag) : Prop where
  x : SaysX fa fn [] tf ex w h K
  o : ow.map (fun d => owObs K d.at_) = ow.map OwD.val
theorem saysP_of {fa : List Fa} {fn : List DefD} {tf : List Defn} {ex : PySem.W.Frag → Bool} {ow : List OwD} {w : World} {h : Heap} {as : List Addr} (e : seenP' fa fn tf ex ow h.get? (frT h.get? as) = valP fn ow w) : SaysP fa fn tf ex ow w h (frT h.get? as) := by
  have e1 := congrArg (fun z : AlP => z.1.1) e
  have e2 : (ex (frT h.get? as) && tabsB h.get? tf (frT h.get? as)) = true := congrArg (fun z : AlP => z.1.2) e
  have e3 := congrArg (fun z : AlP => z.2) e
  obtain ⟨h1, h2⟩ := ba e2
  have tab : ∀ p ∈ tf, PySem.W.codeHdIn (frT h.get? as) (cT (frT h.get? as) p).1 (cT (frT h.get? as) p).2 = true ∧ ∃ o : Obj, h.get? (cT (frT h.get? as) p).2 = some o ∧ emptyTab o = true := fun p hp => by
    have hall := List.all_eq_true.mp h2 p hp
    obtain ⟨h3, h4⟩ := ba hall
    refine ⟨h3, ?_⟩
    cases q : h.get? (cT (frT h.get? as) p).2 with
    | some o =>
      rw [q] at h4
      exact ⟨o, rfl, h4⟩
    | none =>
      rw [q] at h4
      cases h4
  refine ⟨⟨e1, h1, fun p hp => (tab p hp).1, fun p hp => ?_, fun p hp => ?_⟩, e3⟩
  · obtain ⟨o, q, z⟩ := (tab p hp).2
    exact frT_none q z
  · obtain ⟨o, q, z⟩ := (tab p hp).2
    rw [q, emptyTab_eq z]
def hookP (n : Nat) (fa : List Fa) (fn : List DefD) (tf : List Defn) (ex : PySem.W.Frag → Bool) (ow : List OwD) : PySem.W.Hook where
  α := AlP
  obs := fun s => obsP n fa fn tf ex ow s.heap.get?
  val := fun w => valP fn ow w
  says := fun w h => ∃ K : PySem.W.Frag, K.In h ∧ SaysP fa fn tf ex ow w h K
  of := fun _ _ e => ⟨_, frT_in, saysP_of e⟩
  keeps := fun _ _ _ ⟨K, hK, c⟩ k => ⟨K, PySem.W.Frag.In.keeps hK k, ⟨c.x.t, c.x.more, c.x.hd, c.x.out, fun p hp => k _ _ (c.x.empty p hp)⟩, c.o⟩
theorem obsP_eq {n : Nat} {fa : List Fa} {fn : List DefD} {tf : List Defn} {ex : PySem.W.Frag → Bool} {ow : List OwD} {g : Addr → Option Obj} {s : Shared} (h : ∀ a, g a = s.heap.get? a) : obsP n fa fn tf ex ow g = (hookP n fa fn tf ex ow).obs s := by
  have e : g = s.heap.get? := funext h
  rw [e] <;> rfl
section
variable {fa : List Fa} {fn : List DefD} {tf : List Defn} {ex : PySem.W.Frag → Bool} {ow : List OwD} {w : World} {h : Heap} {K : PySem.W.Frag} {mg : Str → Option Value}
theorem SaysP.d (c : SaysP fa fn tf ex ow w h K) : SaysD fa fn K := c.x.t.d
theorem SaysP.own (c : SaysP fa fn tf ex ow w h K) (i : Nat) {d : OwD} (e : ow[i]? = some d := by rfl) : owObs K d.at_ = d.val := by
  have e2 : (ow.map fun d => owObs K d.at_)[i]? = (ow.map OwD.val)[i]? := by rw [c.o]
  rw [List.getElem?_map, List.getElem?_map, e] at e2
  exact Option.some.inj e2
/-! defs -/
theorem fun_of {x qual : Str} {st : Stmt} {f : Addr} {fd : FuncData} (F : FunD K x qual (defArgs st) (defBody st) (defScope st) [] [] f fd) : Fun K x qual st f fd := by
  obtain ⟨⟨oc, od, dV, kV, doc, pm, an, cdv, ct, osl, e, lk, hcd, hD, _⟩, kp⟩ := F
  rcases hD with ⟨_, rfl⟩ | ⟨z, _⟩
  · exact ⟨⟨oc, od, kV, doc, pm, an, cdv, ct, osl, e, lk, hcd⟩, kp⟩
  · exact absurd rfl z
/-- a def that makes lambdas: its code object is known -/
theorem funC_of {x qual : Str} {st : Stmt} {p : Defn} {fd : FuncData} (F : Fun K x qual st (fAd K p) fd) : FunC K x qual st (fAd K p) fd (codeOf K p) := by
  obtain ⟨⟨oc, od, kV, doc, pm, an, cdv, ct, osl, e, lk, hcd⟩, _⟩ := F
  obtain ⟨c, rfl⟩ := codeIn_ref hcd
  have hc : codeOf K p = c := codeOf_eq lk (by rw [e])
  rw [hc]
  exact ⟨oc, od, kV, doc, pm, an, ct, osl, e, lk, hcd⟩
def noneB : Value → Bool
  | .none => true
  | _ => false
/-- a def at a path -/
def funB (p : Path) (q : Str) (K : PySem.W.Frag) : Bool := PySem.W.keepIn K (.ref (p K)) && (match K.lookup (p K) with
  | some ⟨_, _, .func fd, _⟩ => PySem.W.codeIn K fd.code q && noneB fd.defaults
  | _ => false)
theorem fun_own {d : OwD} (e : owObs K d.at_ = d.val) (hcl : d.cl = []) (b : funB d.at_ d.qual K = true) : ∃ fd, Fun K d.name d.qual d.st (d.at_ K) fd := by
  obtain ⟨b1, b2⟩ := ba b
  unfold owObs at e
  cases q : K.lookup (d.at_ K) with
  | none => rw [q] at b2; cases b2
  | some o =>
    obtain ⟨oc, od, dt, osl⟩ := o
    rw [q] at b2 e
    cases dt with
    | func fd =>
      obtain ⟨n1, n2, n3, n4, n5, n6, n7, n8, n9, n10, n11, n12, n13, n14, n15⟩ := fd
      have e2 : (some (n1, n2, n3, n4, n5, n6, n7.map (·.1), n15) : OwV) = some (d.name, d.qual, defArgs d.st, .stmts (defBody d.st), defScope d.st, mainGlobals, d.cl, builtinsNs) := e
      rw [hcl] at e2
      simp only [Option.some.injEq, Prod.mk.injEq] at e2
      obtain ⟨h1, h2, h3, h4, h5, h6, h7, h8⟩ := e2
      obtain rfl : n7 = [] := List.map_eq_nil_iff.mp h7
      subst h1 h2 h3 h4 h5 h6 h8
      have b3 : (PySem.W.codeIn K n13 d.qual && noneB n8) = true := b2
      obtain ⟨k1, k2⟩ := ba b3
      cases n8 with
      | none => exact ⟨_, ⟨oc, od, n9, n10, n11, n12, n13, n14, osl, rfl, q, k1⟩, b1⟩
      | _ => cases k2
    | _ => cases b2
/-! classes -/
def propB (C m : Str) (K : PySem.W.Frag) : Bool := eqO (PySem.W.findIn K (.ref (ga K C)) m) (some (some (.ref (metP C m K)))) && (eqO (PySem.W.specialIn K (.ref (metP C m K)) "__get__") (some (some (.builtin "property.__get__"))) &&
  (decide (PySem.W.takesIn K (.ref (metP C m K)) = some true) && (match PySem.W.recIn K (metP C m K) "property" with
    | some (.ref _ :: _) => true
    | _ => false)))
theorem prop_ok {C m : Str} (b : propB C m K = true) : PropOf K (ga K C) m (metP C m K) (getP C m K) := by
  obtain ⟨b1, b2⟩ := ba b
  obtain ⟨b3, b4⟩ := ba b2
  obtain ⟨b5, b6⟩ := ba b4
  refine ⟨eqO_ok b1, eqO_ok b3, of_decide_eq_true b5, ?_⟩
  unfold getP
  cases q : PySem.W.recIn K (metP C m K) "property" with
  | none => rw [q] at b6; cases b6
  | some l =>
    rw [q] at b6
    cases l with
    | nil => cases b6
    | cons v l =>
      cases v with
      | ref g => exact ⟨l, rfl⟩
      | _ => cases b6
theorem xown_ok {x : Str} (X : K.In h) (G : h.Ns mainGlobals mg) (c : (Fa.exc x).ok K = true) (g : (Fa.glo x).ok K = true) : XOwn K mg x (ga K x) := by
  obtain ⟨c1, c2, c3, c4⟩ := exc_ok c
  exact ⟨⟨veBase, PySem.F.excBase_ValueError, c1⟩, glo_ok X G g, c2, c3, c4⟩
def excCB (x : Str) (K : PySem.W.Frag) : Bool := eqO (PySem.W.findIn K (.ref (ga K x)) "__getattribute__") (some (some (.builtin "BaseException.__getattribute__"))) && (eqO (PySem.W.findIn K (.ref (ga K x)) "__getattr__") (some none) &&
  (decide (PySem.W.subIn K (.ref (ga K x)) (.type "BaseException") = some true) && (PySem.W.hasDictIn K (ga K x) && (eqO (PySem.W.findIn K (.ref (ga K x)) "__class__") (some (some (.builtin "object.__class__"))) &&
  (eqO (PySem.W.specialIn K (.builtin "object.__class__") "__get__") (some (some (.builtin "getset_descriptor.__get__"))) && (decide (PySem.W.takesIn K (.builtin "object.__class__") = some true) && decide (PySem.W.mroIn K (ga K x) (.type "object") = some true)))))))
theorem excC_ok {x : Str} (b : excCB x K = true) : ExcC K (ga K x) := by
  obtain ⟨b1, b⟩ := ba b
  obtain ⟨b2, b⟩ := ba b
  obtain ⟨b3, b⟩ := ba b
  obtain ⟨b4, b⟩ := ba b
  obtain ⟨b5, b⟩ := ba b
  obtain ⟨b6, b⟩ := ba b
  obtain ⟨b7, b8⟩ := ba b
  exact ⟨eqO_ok b1, eqO_ok b2, of_decide_eq_true b3, b4, eqO_ok b5, eqO_ok b6, of_decide_eq_true b7, of_decide_eq_true b8⟩
def kitB (x y : Str) (r : Bool) (K : PySem.W.Frag) : Bool := decide (PySem.W.kitOne K (.ref (ga K x)) (.ref (ga K y)) = some r)
theorem kit_ok' {x y : Str} {r : Bool} (b : kitB x y r K = true) : PySem.W.kitOne K (.ref (ga K x)) (.ref (ga K y)) = some r := of_decide_eq_true b
def mroB (C : Addr) : List Value → Bool
  | .ref C' :: bm => decide (C' = C) && PySem.HandSPX.refsVE bm
  | _ => false
theorem mroB_ok {C : Addr} {l : List Value} (h : mroB C l = true) : ∃ bm, l = .ref C :: bm ∧ PySem.HandSPX.refsVE bm = true := by
  unfold mroB at h
  split at h
  · obtain ⟨h1, h2⟩ := ba h
    rw [of_decide_eq_true h1]
    exact ⟨_, rfl, h2⟩
  · cases h
def newB : List (Option Value) → Bool
  | [_, _, _, _, some (.builtin n), _] => decide (n = "ValueError.__new__")
  | _ => false
theorem newB_ok {l : List (Option Value)} (h : newB l = true) : ∃ k0 k1 k2 k3 k5, l = [k0, k1, k2, k3, some (.builtin "ValueError.__new__"), k5] := by
  unfold newB at h
  split at h
  · rw [of_decide_eq_true h]
    exact ⟨_, _, _, _, _, rfl⟩
  · cases h
def oexB (x : Str) (K : PySem.W.Frag) : Bool := (match K.lookup (ga K x) with
  | some ⟨.type t, _, .cls cd, sl⟩ => decide (t = "type") && (mroB (ga K x) cd.mro && (newB sl.toList && (!cd.hasDel && cd.hasDict)))
  | _ => false) && (eqO (PySem.W.findIn K (.ref (ga K x)) "__setattr__") (some (some (.builtin "object.__setattr__"))) && (decide (PySem.W.subIn K (.ref (ga K x)) (.type "BaseException") = some true) &&
  (decide (PySem.W.typeIn K (.ref (ga K x)) = some (.type "type")) && PySem.W.keepIn K (.ref (ga K x)))))
theorem oex_ok {x : Str} (b : oexB x K = true) : OexC K (ga K x) := by
  obtain ⟨b1, b⟩ := ba b
  obtain ⟨b2, b⟩ := ba b
  obtain ⟨b3, b⟩ := ba b
  obtain ⟨b4, b5⟩ := ba b
  refine ⟨?_, eqO_ok b2, of_decide_eq_true b3, of_decide_eq_true b4, b5⟩
  cases q : K.lookup (ga K x) with
  | none => rw [q] at b1; cases b1
  | some o =>
    obtain ⟨oc, od, dt, osl⟩ := o
    rw [q] at b1
    cases oc with
    | type t =>
      cases dt with
      | cls cd =>
        obtain ⟨nm, bs, mro, ns, qn, hd, sn, sub, ab, col, del⟩ := cd
        have b2 : (decide (t = "type") && (mroB (ga K x) mro && (newB osl.toList && (!del && hd)))) = true := b1
        obtain ⟨c1, b3⟩ := ba b2
        obtain ⟨c2, b4⟩ := ba b3
        obtain ⟨c3, b5⟩ := ba b4
        obtain ⟨c4, c5⟩ := ba b5
        obtain ⟨bm, e2, c6⟩ := mroB_ok c2
        obtain ⟨k0, k1, k2, k3, k5, e3⟩ := newB_ok c3
        have e1 := of_decide_eq_true c1
        have e4 : del = false := by simpa using c4
        subst e1 e2 e4 c5
        obtain ⟨l⟩ := osl
        have hs2 : l = [k0, k1, k2, k3, some (.builtin "ValueError.__new__"), k5] := e3
        subst hs2
        exact ⟨nm, qn, ns, bs, bm, sn, sub, ab, col, od, k0, k1, k2, k3, k5, rfl, c6⟩
      | _ => cases b1
    | _ => cases dt <;> cases b1
/-! an error whose __init__ says super().__init__(text + repr(..)) -/
/-- what stands written of it -/
structure SupS (st : Stmt) (txt fld : Str) : Prop where
  ex : ∃ (ar : Arg) (j : Nat) (p0 p1 p2 p3 p4 p5 p6 p7 p8 p9 q1 q2 q3 q4 : Pos),
    defBody st = [.Expr (.Call (.Attribute (.Call (.Name "super" p0) [] [] p1) "__init__" p2) [.BinOp (.Constant (.str txt) j p9) .Add (.Call (.Name "repr" q1) [.Name fld q2] [] q3) q4] [] p3) p4, .Assign [.Attribute (.Name "self" p5) fld p6] (.Name fld p7) p8] ∧
    ((defArgs st).posonlyargs ++ (defArgs st).args).head? = some ar ∧ ar.arg = "self" ∧
    (∀ x ∈ (defScope st).names, x.2 ≠ .cell) ∧ (defScope st).isCoroutine = false ∧ (defScope st).isGenerator = false ∧ (defScope st).kind = .function ∧ (defScope st).names.lookup ("self" : Str) = some .local ∧ (defScope st).names.lookup fld = some .local ∧ (defScope st).names.lookup ("super" : Str) = some .globalImplicit ∧
    (defScope st).names.lookup ("__class__" : Str) = some .free ∧ (defScope st).names.lookup ("repr" : Str) = some .globalImplicit ∧
    ∃ pl : Env → Sem Bool, ∀ env : Env, eval (.Call (.Attribute (.Call (.Name "super" p0) [] [] p1) "__init__" p2) [.BinOp (.Constant (.str txt) j p9) .Add (.Call (.Name "repr" q1) [.Name fld q2] [] q3) q4] [] p3) env = (do
      let ov ← attributeBase (.Call (.Name "super" p0) [] [] p1) "__init__" env (eval (.Call (.Name "super" p0) [] [] p1) env)
      standAt p2.atName
      let (f, first) ← holding [ov] (getMethod ov "__init__" (pl env))
      callWith p3 f first (backTo p3 (starEach [.BinOp (.Constant (.str txt) j p9) .Add (.Call (.Name "repr" q1) [.Name fld q2] [] q3) q4] env)) [])
  binds : ∀ (name qual : Str) (cc : Addr) (kV doc pm cdv ct : Value) (an : Option Addr) (us : List Value), us.length = 2 → bindArgs (PySem.W.ksFn name qual (defArgs st) (defBody st) (defScope st) .none kV doc pm an cdv ct cc) ⟨us, []⟩ = pure ((["self", fld] : List Str).zip us)
def codP (p : Path) : Path := fun K => match K.lookup (p K) with
  | some ⟨_, _, .func fd, _⟩ => (match fd.code with
    | .ref c => c
    | _ => 0)
  | _ => 0
def celP (p : Path) : Path := fun K => match K.lookup (p K) with
  | some ⟨_, _, .func fd, _⟩ => (match fd.closure with
    | (_, c) :: _ => c
    | _ => 0)
  | _ => 0
def fileB (file : Str) : Option Value → Bool
  | some (.str f _) => file == f
  | _ => false
theorem fileB_ok {file : Str} {v : Option Value} (h : fileB file v = true) : ∃ t, v = some (.str file t) := by
  unfold fileB at h
  split at h
  · rw [beq_iff_eq.mp h]
    exact ⟨_, rfl⟩
  · cases h
def supB (x fld file : Str) (K : PySem.W.Frag) : Bool :=
  let C := ga K x
  let p := metP x "__init__"
  oexB x K && (eqO (PySem.W.findIn K (.ref C) "__init__") (some (some (.ref (p K)))) && (decide (PySem.W.typeIn K (.ref (p K)) = some (.type "function")) &&
  ((match K.lookup (p K) with
    | some ⟨_, _, .func fd, _⟩ => PySem.W.codeIn K fd.code (fd.qualname) && noneB fd.defaults
    | _ => false) &&
  ((match K.lookup (codP p K) with
    | some ⟨_, _, .fields vs, _⟩ => fileB file vs[2]?
    | _ => false) &&
  ((match K.lookup (celP p K) with
    | some ⟨_, _, .cell (some (.ref D)), _⟩ => decide (D = C)
    | _ => false) &&
  (decide (PySem.W.mroIn K C (.ref C) = some true) && (eqO (PySem.W.ks_superIn K C C "__init__") (some (some (.builtin "ValueError.__init__"))) && (decide (PySem.W.subIn K (.ref C) (.type "ValueError") = some true) &&
  (eqO (PySem.W.nsIn K cStatics "thirdparty.any") (some none) && eqO (PySem.W.findIn K (.ref C) fld) (some none))))))))))
theorem sup_ok {P : Program} {x fld txt file : Str} {d : OwD} (X : K.In h) (G : h.Ns mainGlobals mg) (e : owObs K d.at_ = d.val) (hat : d.at_ = metP x "__init__") (hcl : d.cl = [("__class__" : Str)]) (S : SupS d.st txt fld) (b : supB x fld file K = true) (g : (Fa.glo x).ok K = true) (fs : (Fa.free "super").ok K = true) (fr : (Fa.free "repr").ok K = true)
    (hf : ((P.main.file : Str) == file) = true) (top : (P.main.scope.names.lookup ("super" : Str)).isSome = false) (ne : fld ≠ "self") (dbg : (fld == ("__debug__" : Str)) = false) (few : txt.length ≤ 1000) : XSup P K mg x (ga K x) fld := by
  unfold supB at b
  obtain ⟨b1, b⟩ := ba b
  obtain ⟨b2, b⟩ := ba b
  obtain ⟨b3, b⟩ := ba b
  obtain ⟨b4, b⟩ := ba b
  obtain ⟨b5, b⟩ := ba b
  obtain ⟨b6, b⟩ := ba b
  obtain ⟨b7, b⟩ := ba b
  obtain ⟨b8, b⟩ := ba b
  obtain ⟨b9, b⟩ := ba b
  obtain ⟨b10, b11⟩ := ba b
  unfold owObs at e
  rw [hat] at e
  cases q : K.lookup (metP x "__init__" K) with
  | none => rw [q] at b4; cases b4
  | some o =>
    obtain ⟨oc, od, dt, osl⟩ := o
    rw [q] at b4 e
    cases dt with
    | func fd =>
      obtain ⟨n1, n2, n3, n4, n5, n6, n7, n8, n9, n10, n11, n12, n13, n14, n15⟩ := fd
      have e2 : (some (n1, n2, n3, n4, n5, n6, n7.map (·.1), n15) : OwV) = some (d.name, d.qual, defArgs d.st, .stmts (defBody d.st), defScope d.st, mainGlobals, d.cl, builtinsNs) := e
      rw [hcl] at e2
      simp only [Option.some.injEq, Prod.mk.injEq] at e2
      obtain ⟨h1, h2, h3, h4, h5, h6, h7, h8⟩ := e2
      obtain ⟨cc, rfl⟩ : ∃ cc, n7 = [(("__class__" : Str), cc)] := by
        match n7, h7 with
        | [(y, cc)], h7 =>
          have : y = ("__class__" : Str) := by simpa using h7
          subst this
          exact ⟨cc, rfl⟩
      subst h1 h2 h3 h4 h5 h6 h8
      have b4z : (PySem.W.codeIn K n13 d.qual && noneB n8) = true := b4
      clear b4
      obtain ⟨b4, b40⟩ := ba b4z
      obtain rfl : n8 = .none := by
        cases n8 with
        | none => rfl
        | _ => cases b40
      obtain ⟨cda, rfl⟩ := codeIn_ref b4
      have hcod : codP (metP x "__init__") K = cda := by unfold codP; rw [q]
      have hcel : celP (metP x "__init__") K = cc := by unfold celP; rw [q]
      rw [hcod] at b5
      rw [hcel] at b6
      obtain ⟨ar, j, p0, p1, p2, p3, p4, p5, p6, p7, p8, p9, q1, q2, q3, q4, s1, s2, s3, s4, s5, s6, s7, s8, s9, s10, s11, s12, s13⟩ := S.ex
      have hb := S.binds d.name d.qual cc n9 n10 n11 (.ref cda) n14 n12
      refine ⟨⟨metP x "__init__" K, cda, cc, PySem.W.ksFn d.name d.qual (defArgs d.st) (defBody d.st) (defScope d.st) .none n9 n10 n11 n12 (.ref cda) n14 cc, txt, ⟨oex_ok b1, eqO_ok b2, of_decide_eq_true b3, ?_, ?_, top, ?_, of_decide_eq_true b7, eqO_ok b8, of_decide_eq_true b9, eqO_ok b10, free_ok X G fs, free_ok X G fr, eqO_ok b11, ne, dbg, few⟩, .all fun us hl => hb us hl⟩, glo_ok X G g⟩
      · exact ⟨oc, od, d.name, d.qual, defArgs d.st, defScope d.st, .none, n9, n10, n11, n14, n12, osl, ar, j, p0, p1, p2, p3, p4, p5, p6, p7, p8, p9, q1, q2, q3, q4, by rw [s1], q, b4, s2, s3, s4, s5, s6, s7, s8, s9, s10, s11, s12, s13⟩
      · cases qc : K.lookup cda with
        | none => rw [qc] at b5; cases b5
        | some o =>
          obtain ⟨c1, c2, dt, c3⟩ := o
          rw [qc] at b5
          cases dt with
          | fields vs =>
            obtain ⟨t, qv⟩ := fileB_ok (show fileB file vs[2]? = true from b5)
            exact ⟨c1, c2, vs, c3, file, t, rfl, qv, hf⟩
          | _ => cases b5
      · cases qc : K.lookup cc with
        | none => rw [qc] at b6; cases b6
        | some o =>
          obtain ⟨c1, c2, dt, c3⟩ := o
          rw [qc] at b6
          cases dt with
          | cell v =>
            cases v with
            | none => cases b6
            | some v =>
              cases v with
              | ref D =>
                have b7 : decide (D = ga K x) = true := b6
                rw [of_decide_eq_true b7]
                exact ⟨c1, c2, c3, rfl⟩
              | _ => cases b6
          | _ => cases b6
    | _ => cases b4
/-- an empty tuple at a path -/
def tup0B (p : Path) (K : PySem.W.Frag) : Bool := match K.lookup (p K) with
  | some ⟨.type c, _, .seq its _, _⟩ => decide (c = "tuple") && its.isEmpty
  | _ => false
theorem tup0_ok {p : Path} (b : tup0B p K = true) : (∀ H, SqT K H (p K) []) ∧ (K.lookup (p K)).isSome = true := by
  unfold tup0B at b
  cases q : K.lookup (p K) with
  | none => rw [q] at b; cases b
  | some o =>
    obtain ⟨oc, od, dt, osl⟩ := o
    rw [q] at b
    cases oc with
    | type c =>
      cases dt with
      | seq its n =>
        obtain ⟨b1, b2⟩ := ba (show (decide (c = "tuple") && its.isEmpty) = true from b)
        have e := Array.isEmpty_iff.mp b2
        subst e
        rw [of_decide_eq_true b1] at q
        exact ⟨fun H => .inr ⟨_, _, n, q, rfl, rfl, Nat.zero_le _, .nil⟩, rfl⟩
      | _ => cases b
    | _ => cases dt <;> cases b
/-- two by two different -/
def diffB : List Addr → Bool
  | [] => true
  | a :: l => !l.contains a && diffB l
theorem lam_names {K : PySem.W.Frag} {tf : List Defn} (h : diffB (tf.map fun p => (cT K p).2) = true) : ∀ p ∈ tf, ((cT K p).2, p.1 ++ ".<locals>." ++ "<lambda>") ∈ (tf.map fun p => ((cT K p).2, p.1 ++ ".<locals>." ++ "<lambda>")) ∧ ∀ z ∈ (tf.map fun p => ((cT K p).2, p.1 ++ ".<locals>." ++ "<lambda>")), z.1 = (cT K p).2 → z.2 = p.1 ++ ".<locals>." ++ "<lambda>" := by
  induction tf with
  | nil => exact fun p hp => nomatch hp
  | cons q tf ih =>
    obtain ⟨h1, h2⟩ := ba (show (!(tf.map fun p => (cT K p).2).contains (cT K q).2 && diffB (tf.map fun p => (cT K p).2)) = true from h)
    have h3 : (cT K q).2 ∉ tf.map fun p => (cT K p).2 := by simpa using h1
    intro p hp
    rcases List.mem_cons.mp hp with rfl | hp
    · refine ⟨List.mem_cons_self, fun z hz e => ?_⟩
      rcases List.mem_cons.mp hz with rfl | hz
      · rfl
      · obtain ⟨r, hr, rfl⟩ := List.mem_map.mp hz
        exact absurd (List.mem_map.mpr ⟨r, hr, e⟩) h3
    · obtain ⟨i1, i2⟩ := ih h2 p hp
      refine ⟨List.mem_cons_of_mem _ i1, fun z hz e => ?_⟩
      rcases List.mem_cons.mp hz with rfl | hz
      · exact absurd (List.mem_map.mpr ⟨p, hp, e.symm⟩) h3
      · exact i2 z hz e
/-! contracts -/
theorem GOk.up {γ : Bool} {P : Program} {w : World} {base : Heap} {k : Nat} {f : Addr} {fd : FuncData} {ps : List Str} {sp : Sp} (F : GOk false P w K mg base k f fd ps sp) : GOk γ P w K mg base k f fd ps sp :=
  ⟨F.len, fun A outer s H args us vs Q E _ => F.run A outer s H args us vs Q E fun z => nomatch z⟩
theorem GD.up {γ : Bool} {P : Program} {w : World} {base : Heap} {k : Nat} {x : Str} {ps : List Str} {sp : Sp} (F : GD false P w K mg base x ps k sp) : GD γ P w K mg base x ps k sp := by
  obtain ⟨f, fd, h1, h2, h3, h4⟩ := F.ex
  exact ⟨f, fd, h1, h2, h3, h4.up⟩
theorem GR.up {γ : Bool} {P : Program} {w : World} {base : Heap} {k : Nat} {f : Addr} {sp : Sp} (F : GR false P w K mg base k f sp) : GR γ P w K mg base k f sp :=
  fun A outer s H us vs Q E _ => F A outer s H us vs Q E fun z => nomatch z
theorem GK.up {γ : Bool} {P : Program} {w : World} {base : Heap} {k : Nat} {x : Str} {C : Addr} {sp : Sp} (F : GK false P w K mg base x C k sp) : GK γ P w K mg base x C k sp := by
  obtain ⟨f, h1, h2, h3⟩ := F.ex
  exact ⟨f, h1, h2, h3.up⟩
end
end Z

end
section
local macro_rules | `(tactic| walk_at "ne") => `(tactic| first
  | assumption
  | (refine Z.ne_sym ?_; assumption)
  | (refine' Z.ne_new ?ka ?kb; (case ka => assumption); (case kb => walk_at "h"))
  | (refine' Z.ne_sym (Z.ne_new ?ka ?kb); (case ka => assumption); (case kb => walk_at "h"))
  | ((with_reducible refine' Z.ne_nw ?ka ?kb ?kc); (case ka => assumption); (case kb => walk_at "h"); (case kc => rfl))
  | ((with_reducible refine' Z.ne_sym (Z.ne_nw ?ka ?kb ?kc)); (case ka => assumption); (case kb => walk_at "h"); (case kc => rfl))
  | exact L2.ne_of (by assumption) (by assumption) (by intro z; cases z)
  | exact Z.ne_sym (L2.ne_of (by assumption) (by assumption) (by intro z; cases z)))
local macro_rules | `(tactic| walk_at "nm") => `(tactic| first
  | exact Z.nm_nil
  | exact Z.nm_cons (by walk_at "ne") (by walk_at "nm"))
local macro_rules | `(tactic| walk_at "h") => `(tactic| first
  | assumption
  | exact L2.upd_same
  | ((with_reducible refine' Eq.trans (L2.upd_ne ?ka) ?kb); (case ka => walk_at "ne"); (case kb => walk_at "h"))
  | ((with_reducible refine' Z.Fr.at ?ka ?kb ?kc ?kd); (case ka => assumption); (case kb => walk_at "h"); (case kc => walk_at "nm"); (case kd => rfl))
  | ((with_reducible refine' Z.Fr.tup ?ka ?kb); (case ka => assumption); (case kb => walk_at "h")))
local macro_rules | `(tactic| walk_at "free") => `(tactic| first
  | assumption
  | exact Z.Nw.of (by assumption)
  | ((with_reducible refine' Z.Fr.free ?ka ?kb); (case ka => assumption); (case kb => walk_at "free")))
local macro_rules | `(tactic| walk_at "ms") => `(tactic| first
  | exact Or.inl List.mem_cons_self
  | exact Or.inl (List.mem_cons_of_mem _ List.mem_cons_self)
  | (left; simp; done)
  | (right; walk_at "free"))
local macro_rules | `(tactic| walk_at "sub") => `(tactic| first
  | exact Z.sub_nil
  | ((with_reducible refine' Z.sub_cons ?ka ?kb); (case ka => walk_at "ms"); (case kb => walk_at "sub")))
local macro_rules | `(tactic| walk_at "fr") => `(tactic| first
  | assumption
  | exact Z.Fr.refl _ _
  | ((with_reducible refine' Z.Fr.new ?ka ?kb); (case kb => assumption); (case ka => walk_at "fr"))
  | ((with_reducible refine' Z.Fr.upd ?ka ?kb ?kc ?kd ?ke); (case kb => walk_at "ms"); (case kc => walk_at "h"); (case kd => rfl); (case ke => rfl); (case ka => walk_at "fr"))
  | ((with_reducible refine' Z.Fr.step ?ka ?kb ?kc); (case ka => assumption); (case kb => walk_at "fr"); (case kc => walk_at "sub")))
local macro_rules | `(tactic| walk_at "dt") => `(tactic| first
  | assumption
  | (refine Z.DT.new ?_ (by assumption); walk_at "dt")
  | (refine Z.DTs.new ?_ (by assumption); walk_at "dt")
  | (refine' Z.DT.wr ?ka ?kb ?kc; (case kb => walk_at "h"); (case kc => rfl); (case ka => walk_at "dt"))
  | (refine' Z.DTs.wr ?ka ?kb ?kc; (case kb => walk_at "h"); (case kc => rfl); (case ka => walk_at "dt"))
  | (refine' Z.DT.fr ?ka ?kb; (case kb => assumption); (case ka => walk_at "dt"))
  | (refine' Z.DTs.fr ?ka ?kb; (case kb => assumption); (case ka => walk_at "dt")))
local macro_rules | `(tactic| walk_at "len") => `(tactic| first
  | exact Z.lt_ok (Nat.le_of_ble_eq_true (by with_unfolding_all rfl))
  | exact Z.le_ok (Nat.le_of_ble_eq_true (by with_unfolding_all rfl))
  | (apply Z.lt_ok; (try simp only [List.length_append, List.length_cons, List.length_nil, List.length_map, List.length_set, List.length_eraseIdx] at *); omega)
  | (apply Z.le_ok; (try simp only [List.length_append, List.length_cons, List.length_nil, List.length_map, List.length_set, List.length_eraseIdx] at *); omega))
local macro_rules | `(tactic| walk_at "r") => `(tactic| first
  | (with_reducible refine Z.rd_seq ?_)
  | (with_reducible refine Z.rd_asg ?_)
  | (with_reducible refine Z.rd_gname ?_)
  | (with_reducible refine Z.rd_ifs ?_)
  | (with_reducible refine Z.rd_next ?_)
  | (with_reducible refine Z.rd_and ?_)
  | (with_reducible refine Z.rd_or ?_)
  | (with_reducible refine Z.rd_not ?_)
  | (with_reducible refine Z.rd_test ?_)
  | (with_reducible refine Z.rd_tb ?_)
  | (with_reducible refine Z.rd_bl ?_)
  | (with_reducible refine Z.rd_op ?_)
  | (with_reducible refine Z.rd_c ?_)
  | ((with_reducible refine' Z.rd_var ?ka ?_); (case ka => with_unfolding_all rfl))
  | (with_reducible refine Z.rd_ret ?_)
  | (with_reducible refine Z.rd_retn ?_)
  | (with_reducible refine Z.rd_drop ?_)
  | (with_reducible refine Z.rd_nil ?_)
  | (with_reducible refine Z.rd_cons ?_)
  | (with_reducible refine Z.rd_cb ?_)
  | (with_reducible refine Z.rd_call ?_)
  | (with_reducible refine Z.rd_dget0 ?_)
  | ((with_reducible refine' Z.rd_dget1 ?ka ?kb ?_); (case ka => walk_at "h"); (case kb => with_unfolding_all rfl))
  | (with_reducible refine Z.rd_dput0 ?_)
  | ((with_reducible refine' Z.rd_dput1 ?ka ?kb ?_); (case ka => walk_at "h"); (case kb => walk_at "len"))
  | (with_reducible refine Z.rd_eqi ?_)
  | (with_reducible refine Z.rd_eqs ?_)
  | (with_reducible refine Z.rd_nei ?_)
  | (with_reducible refine Z.rd_nes ?_)
  | (with_reducible refine Z.rd_i0 ?_)
  | (with_reducible refine Z.rd_lst ?_)
  | (with_reducible refine Z.rd_tup ?_)
  | (with_reducible refine Z.rd_ifx ?_)
  | (with_reducible refine Z.rd_bm ?_)
  | (with_reducible refine Z.rd_bm0 ?_)
  | ((with_reducible refine' Z.rd_nil2 ?ka ?kb ?_); (case ka => walk_at "h"); (case kb => walk_at "h"))
  | ((with_reducible refine' Z.rd_nil2T ?ka ?kb ?_); (case ka => walk_at "h"); (case kb => walk_at "h"))
  | (with_reducible refine Z.rd_int1 ?_)
  | ((with_reducible refine' Z.rd_size ?ka ?_); (case ka => walk_at "len"))
  | ((with_reducible refine' Z.rd_tylist ?ka ?_); (case ka => walk_at "h"))
  | ((with_reducible refine' Z.rd_i ?ka ?_); (case ka => walk_at "num"))
  | ((with_reducible refine' Z.rd_append ?ka ?kb ?_); (case ka => walk_at "h"); (case kb => walk_at "len"))
  | (with_reducible refine Z.rd_for' ?_)
  | (with_reducible refine Z.rd_lc' ?_)
  | (with_reducible refine Z.rd_un ?_)
  | (with_reducible refine Z.rd_gm ?_)
  | (with_reducible refine Z.rd_xk ?_)
  | (with_reducible refine Z.rd_stard ?_)
  | ((with_reducible refine' Z.rd_stard1 ?ka ?_); (case ka => walk_at "h"))
  | (with_reducible refine Z.rd_star ?_)
  | ((with_reducible refine' Z.rd_star1 ?ka ?_); (case ka => walk_at "h"))
  | (with_reducible refine Z.rd_dc' ?_)
  | (with_reducible refine Z.rd_dnew ?_)
  | (with_reducible refine Z.rd_dpop ?_)
  | ((with_reducible refine' Z.rd_isd ?ka ?_); (case ka => walk_at "h"))
  | (with_reducible refine Z.rd_fldaug ?_)
  | (with_reducible refine Z.rd_ilt ?_)
  | (with_reducible refine Z.rd_mko ?_)
  | (with_reducible refine Z.rd_gk ?_)
  | (with_reducible refine Z.rd_gp ?_)
  | ((with_reducible refine' Z.rd_ins1 ?ka ?_); (case ka => walk_at "h"))
  | (with_reducible refine Z.rd_disp ?_)
  | (with_reducible refine Z.rd_pnil ?_)
  | (with_reducible refine Z.rd_pcons ?_)
  | (with_reducible refine Z.rd_m1 ?_)
  | (with_reducible refine Z.rd_isstr ?_)
  | (with_reducible refine Z.rd_sl ?_)
  | (with_reducible refine Z.rd_nopart ?_)
  | (with_reducible refine Z.rd_part ?_)
  | (with_reducible refine Z.rd_part1 ?_)
  | (with_reducible refine Z.rd_u ?_)
  | (with_reducible refine Z.rd_ilist ?_)
  | (with_reducible refine Z.rd_itup ?_)
  | (with_reducible refine Z.rd_istr ?_)
  | (with_reducible refine Z.rd_irng1 ?_)
  | (with_reducible refine Z.rd_yes ?_)
  | (with_reducible refine Z.rd_sfld0 ?_)
  | (with_reducible refine Z.rd_fld0 ?_)
  | (with_reducible refine Z.rd_din ?_)
  | (with_reducible refine Z.rd_dnotin ?_)
  | (with_reducible refine Z.rd_isn ?_)
  | (with_reducible refine Z.rd_notn ?_)
  | (with_reducible refine Z.rd_par ?_)
  | (with_reducible refine Z.rd_par1 ?_)
  | (with_reducible refine Z.rd_gnil ?_)
  | (with_reducible refine Z.rd_gcons ?_)
  | (with_reducible refine Z.rd_chain ?_)
  | (with_reducible refine Z.rd_andv ?_)
  | (with_reducible refine Z.rd_orv ?_)
  | (with_reducible refine Z.rd_notv ?_)
  | (with_reducible refine Z.rd_meth ?_)
  | (with_reducible refine Z.rd_while ?_)
  | ((with_reducible refine' Z.rd_ixl ?ka ?kb ?_); (case ka => walk_at "h"); (case kb => walk_at "ati"))
  | ((with_reducible refine' Z.rd_ixt ?ka ?kb ?_); (case ka => walk_at "h"); (case kb => walk_at "ati"))
  | ((with_reducible refine' Z.rd_len ?ka ?_); (case ka => walk_at "h"))
  | ((with_reducible refine' Z.rd_lens ?ka ?_); (case ka => walk_at "h"))
  | ((with_reducible refine' Z.rd_lent ?ka ?_); (case ka => walk_at "h"))
  | ((with_reducible refine' Z.rd_lstof ?ka ?_); (case ka => walk_at "h"))
  | ((with_reducible refine' Z.rd_tupof ?ka ?_); (case ka => walk_at "h"))
  | ((with_reducible refine' Z.rd_sfld1 ?ka ?kb ?kc ?kd ?_); (case ka => walk_at "h"); (case kb => assumption); (case kc => assumption); (case kd => (first | (with_unfolding_all decide) | exact Nat.le_of_ble_eq_true (by with_unfolding_all rfl))))
  | ((with_reducible refine' Z.rd_fld1 ?ka ?kb ?kc ?kd ?_); (case ka => walk_at "h"); (case kb => assumption); (case kc => assumption); (case kd => with_unfolding_all rfl))
  | ((with_reducible refine' Z.rd_din1 ?ka ?_); (case ka => walk_at "h"))
  | ((with_reducible refine' Z.rd_gtup ?ka ?kb ?_); (case ka => walk_at "h"); (case kb => with_unfolding_all rfl))
  | ((with_reducible refine' Z.rd_catl ?ka ?kb ?kc ?_); (case ka => walk_at "h"); (case kb => walk_at "h"); (case kc => walk_at "len"))
  | ((with_reducible refine' Z.rd_meth1 ?ka ?kb ?_); (case ka => walk_at "h"); (case kb => with_unfolding_all rfl))
  | ((with_reducible refine' Z.rd_addstr ?ka ?_); (case ka => walk_at "len")))
local macro_rules | `(tactic| walk_at "ati") => `(tactic| first
  | assumption
  | (with_unfolding_all rfl)
  | exact L2.atI_nat (by assumption)
  | exact L2.atI_nat (by with_unfolding_all rfl)
  | exact L2.atI_last _ _)
local macro_rules | `(tactic| walk_at "rr") => `(tactic| repeat (walk_at "r"))
local macro_rules | `(tactic| walk_at "num") => `(tactic| first
  | (with_unfolding_all decide)
  | (show (_ : Int) ≠ 0; omega)
  | (show (_ : Int) ≠ 0 ∧ _ < 1073741824; exact ⟨by omega, by omega⟩)
  | (show (0 : Int) ≤ _ ∧ _ ≤ (1000000 : Int) ∧ _; exact ⟨by decide, by decide, by omega⟩)
  | (show (-(2 ^ 64) < (_ : Int) ∧ _ < 2 ^ 64) ∨ _; (first | (left; exact ⟨by omega, by omega⟩) | (right; exact ⟨by omega, by omega⟩)))
  | omega)
namespace Z
open PySem PySem.Spec PyProof.Rows L2
abbrev fnD0 : He.DefD := ⟨("_law_begun", none), "_law_begun", "_law_begun", defArgs s__law_begun, defBody s__law_begun, defScope s__law_begun, [], []⟩
abbrev fnD1 : He.DefD := ⟨("_law_mixed", none), "_law_mixed", "_law_mixed", defArgs s__law_mixed, defBody s__law_mixed, defScope s__law_mixed, [], []⟩
abbrev fnD2 : He.DefD := ⟨("_law_take", none), "_law_take", "_law_take", defArgs s__law_take, defBody s__law_take, defScope s__law_take, [], []⟩
abbrev fnD3 : He.DefD := ⟨("_law_pick", none), "_law_pick", "_law_pick", defArgs s__law_pick, defBody s__law_pick, defScope s__law_pick, [], []⟩
abbrev fnD4 : He.DefD := ⟨("_law_shuffled", none), "_law_shuffled", "_law_shuffled", defArgs s__law_shuffled, defBody s__law_shuffled, defScope s__law_shuffled, [], []⟩
abbrev fnD5 : He.DefD := ⟨("_law_names", none), "_law_names", "_law_names", defArgs s__law_names, defBody s__law_names, defScope s__law_names, [], []⟩
abbrev fnD6 : He.DefD := ⟨("_law_value", none), "_law_value", "_law_value", defArgs s__law_value, defBody s__law_value, defScope s__law_value, [], []⟩
abbrev fnD7 : He.DefD := ⟨("_law_seen", none), "_law_seen", "_law_seen", defArgs s__law_seen, defBody s__law_seen, defScope s__law_seen, [], []⟩
abbrev fnD8 : He.DefD := ⟨("_law_result", none), "_law_result", "_law_result", defArgs s__law_result, defBody s__law_result, defScope s__law_result, [], []⟩
abbrev fnD9 : He.DefD := ⟨("_law_asked", none), "_law_asked", "_law_asked", defArgs s__law_asked, defBody s__law_asked, defScope s__law_asked, [], []⟩
abbrev fnD10 : He.DefD := ⟨("_law_all_right", none), "_law_all_right", "_law_all_right", defArgs s__law_all_right, defBody s__law_all_right, defScope s__law_all_right, [], []⟩
abbrev fnD11 : He.DefD := ⟨("_law_held_step", none), "_law_held_step", "_law_held_step", defArgs s__law_held_step, defBody s__law_held_step, defScope s__law_held_step, [], []⟩
abbrev fnD12 : He.DefD := ⟨("_law_force_step", none), "_law_force_step", "_law_force_step", defArgs s__law_force_step, defBody s__law_force_step, defScope s__law_force_step, [], []⟩
abbrev fnD13 : He.DefD := ⟨("law", none), "law", "law", defArgs s_law, defBody s_law, defScope s_law, [], []⟩
abbrev fnD14 : He.DefD := ⟨("is_word", none), "is_word", "is_word", defArgs s_is_word, defBody s_is_word, defScope s_is_word, [], []⟩
abbrev fnD15 : He.DefD := ⟨("is_name", none), "is_name", "is_name", defArgs s_is_name, defBody s_is_name, defScope s_is_name, [], []⟩
abbrev fnD16 : He.DefD := ⟨("is_value", none), "is_value", "is_value", defArgs s_is_value, defBody s_is_value, defScope s_is_value, [], []⟩
abbrev fnD17 : He.DefD := ⟨("need_name", none), "need_name", "need_name", defArgs s_need_name, defBody s_need_name, defScope s_need_name, [], []⟩
abbrev fnD18 : He.DefD := ⟨("need_value", none), "need_value", "need_value", defArgs s_need_value, defBody s_need_value, defScope s_need_value, [], []⟩
abbrev fnD19 : He.DefD := ⟨("Replacement", some "__init__"), "__init__", "Replacement.__init__", defArgs s_Replacement___init__, defBody s_Replacement___init__, defScope s_Replacement___init__, [], []⟩
abbrev fnD20 : He.DefD := ⟨("Replacement", some "begin"), "begin", "Replacement.begin", defArgs s_Replacement_begin, defBody s_Replacement_begin, defScope s_Replacement_begin, [], []⟩
abbrev fnD21 : He.DefD := ⟨("Replacement", some "end"), "end", "Replacement.end", defArgs s_Replacement_end, defBody s_Replacement_end, defScope s_Replacement_end, [], []⟩
abbrev fnD22 : He.DefD := ⟨("Places", some "__init__"), "__init__", "Places.__init__", defArgs s_Places___init__, defBody s_Places___init__, defScope s_Places___init__, [.adr (He.dflAt ("Places", some "__init__") 0)], []⟩
abbrev fnD23 : He.DefD := ⟨("Places", some "seen_at"), "seen_at", "Places.seen_at", defArgs s_Places_seen_at, defBody s_Places_seen_at, defScope s_Places_seen_at, [], []⟩
abbrev fnD24 : He.DefD := ⟨("Places", some "read"), "read", "Places.read", defArgs s_Places_read, defBody s_Places_read, defScope s_Places_read, [], []⟩
abbrev fnD25 : He.DefD := ⟨("Places", some "has"), "has", "Places.has", defArgs s_Places_has, defBody s_Places_has, defScope s_Places_has, [], []⟩
abbrev fnD26 : He.DefD := ⟨("Places", some "names"), "names", "Places.names", defArgs s_Places_names, defBody s_Places_names, defScope s_Places_names, [], []⟩
abbrev fnD27 : He.DefD := ⟨("Places", some "write"), "write", "Places.write", defArgs s_Places_write, defBody s_Places_write, defScope s_Places_write, [], []⟩
abbrev fnD28 : He.DefD := ⟨("Places", some "remove"), "remove", "Places.remove", defArgs s_Places_remove, defBody s_Places_remove, defScope s_Places_remove, [], []⟩
abbrev fnD29 : He.DefD := ⟨("Places", some "replaced"), "replaced", "Places.replaced", defArgs s_Places_replaced, defBody s_Places_replaced, defScope s_Places_replaced, [], []⟩
def fnL : List He.DefD := [fnD0, fnD1, fnD2, fnD3, fnD4, fnD5, fnD6, fnD7, fnD8, fnD9, fnD10, fnD11, fnD12, fnD13, fnD14, fnD15, fnD16, fnD17, fnD18, fnD19, fnD20, fnD21, fnD22, fnD23, fnD24, fnD25, fnD26, fnD27, fnD28, fnD29]
abbrev s_NoPlace___init__ : Stmt := inClass (top 6) 0
abbrev owD0 : OwD := ⟨getP "Replacement" "in_force", "in_force", "Replacement.in_force", s_Replacement_in_force, []⟩
abbrev owD1 : OwD := ⟨metP "NoPlace" "__init__", "__init__", "NoPlace.__init__", s_NoPlace___init__, ["__class__"]⟩
def owL : List OwD := [owD0, owD1]
def faL : List He.Fa := [.glo "_law_begun", .glo "_law_mixed", .glo "_law_take", .glo "_law_pick", .glo "_law_shuffled", .glo "_law_names", .glo "_law_value", .glo "_law_seen", .glo "_law_result", .glo "_law_asked", .glo "_law_all_right", .glo "_law_held_step", .glo "_law_force_step", .glo "law", .glo "is_word", .glo "is_name", .glo "is_value", .glo "need_name", .glo "need_value", .glo "Places", .glo "Replacement", .glo "BadOrder", .glo "NoPlace", .glo "TakerError", .free "int", .free "list", .free "len", .free "range", .free "tuple", .free "isinstance", .free "str", .free "all", .free "sorted", .free "repr", .free "max", .free "min", .free "dict", .free "super", .str "LETTERS" (abc), .cls "Places", .cls "Replacement", .noat "Places" "held", .noat "Places" "made", .noat "Places" "turns", .noat "Replacement" "places", .noat "Replacement" "name", .noat "Replacement" "values_shown", .noat "Replacement" "turn", .noat "NoPlace" "name", .meth "Replacement" "begin", .meth "Replacement" "end", .meth "Places" "seen_at", .meth "Places" "read", .meth "Places" "has", .meth "Places" "names", .meth "Places" "write", .meth "Places" "remove", .meth "Places" "replaced", .mkr "Places", .mkr "Replacement", .exc "BadOrder", .exm "NoPlace" "TakerError" true, .exm "BadOrder" "TakerError" true]
def tfL : List He.Defn := [("_law_asked", none), ("_law_held_step", none), ("_law_force_step", none)]
def exL : List (PySem.W.Frag → Bool) := [fun K => propB "Replacement" "in_force" K, fun K => funB (getP "Replacement" "in_force") "Replacement.in_force" K, fun K => supB "NoPlace" "name" "/claim/cut.py" K, fun K => excCB "NoPlace" K, fun K => excCB "BadOrder" K, fun K => kitB "NoPlace" "NoPlace" true K, fun K => kitB "BadOrder" "NoPlace" false K, fun K => kitB "BadOrder" "BadOrder" true K, fun K => xfB K (He.ga K "NoPlace"), fun K => tup0B (He.dflAt ("Places", some "__init__") 0) K, fun K => diffB (tfL.map fun p => (He.cT K p).2)]
def exB (K : PySem.W.Frag) : Bool := exL.all fun f => f K
abbrev rowL : PySem.W.OpenRow := PySem.W.OpenLaw.row PySem.Challenge.rw_calltakers_k65_places_seen
abbrev hkL : PySem.W.Hook := hookP 7 faL fnL tfL exB owL
def obL (s : PySem.W.SharedT) : AlP := obsP 7 faL fnL tfL exB owL (HandSHeadRun.getT s)
theorem obL_eq (s : PySem.W.SharedT) : obL s = hkL.obs s.abs := obsP_eq (HandSHeadRun.getT_eq s)
def looseL : List Str := ["_wall", "TakerError", "BadValue", "BadCount", "BadOrder", "NoPlace", "BadName", "LETTERS", "is_word", "is_name", "is_value", "need_name", "need_value", "Replacement", "Places", "_law_begun", "_law_mixed", "_law_take", "_law_pick", "_law_shuffled", "_law_names", "_law_value", "_law_seen", "_law_result", "_law_asked", "_law_all_right", "_law_held_step", "_law_force_step"]
theorem runL (w : World) : HandSHeadRun.RunEq rowL (PySem.W.view rowL.prog [32]) hkL obL 3000 looseL w := by
  intro os
  kernel_rfl
end Z

end
section
local macro_rules | `(tactic| walk_at "ne") => `(tactic| first
  | assumption
  | (refine Z.ne_sym ?_; assumption)
  | (refine' Z.ne_new ?ka ?kb; (case ka => assumption); (case kb => walk_at "h"))
  | (refine' Z.ne_sym (Z.ne_new ?ka ?kb); (case ka => assumption); (case kb => walk_at "h"))
  | ((with_reducible refine' Z.ne_nw ?ka ?kb ?kc); (case ka => assumption); (case kb => walk_at "h"); (case kc => rfl))
  | ((with_reducible refine' Z.ne_sym (Z.ne_nw ?ka ?kb ?kc)); (case ka => assumption); (case kb => walk_at "h"); (case kc => rfl))
  | exact L2.ne_of (by assumption) (by assumption) (by intro z; cases z)
  | exact Z.ne_sym (L2.ne_of (by assumption) (by assumption) (by intro z; cases z)))
local macro_rules | `(tactic| walk_at "nm") => `(tactic| first
  | exact Z.nm_nil
  | exact Z.nm_cons (by walk_at "ne") (by walk_at "nm"))
local macro_rules | `(tactic| walk_at "h") => `(tactic| first
  | assumption
  | exact L2.upd_same
  | ((with_reducible refine' Eq.trans (L2.upd_ne ?ka) ?kb); (case ka => walk_at "ne"); (case kb => walk_at "h"))
  | ((with_reducible refine' Z.Fr.at ?ka ?kb ?kc ?kd); (case ka => assumption); (case kb => walk_at "h"); (case kc => walk_at "nm"); (case kd => rfl))
  | ((with_reducible refine' Z.Fr.tup ?ka ?kb); (case ka => assumption); (case kb => walk_at "h")))
local macro_rules | `(tactic| walk_at "free") => `(tactic| first
  | assumption
  | exact Z.Nw.of (by assumption)
  | ((with_reducible refine' Z.Fr.free ?ka ?kb); (case ka => assumption); (case kb => walk_at "free")))
local macro_rules | `(tactic| walk_at "ms") => `(tactic| first
  | exact Or.inl List.mem_cons_self
  | exact Or.inl (List.mem_cons_of_mem _ List.mem_cons_self)
  | (left; simp; done)
  | (right; walk_at "free"))
local macro_rules | `(tactic| walk_at "sub") => `(tactic| first
  | exact Z.sub_nil
  | ((with_reducible refine' Z.sub_cons ?ka ?kb); (case ka => walk_at "ms"); (case kb => walk_at "sub")))
local macro_rules | `(tactic| walk_at "fr") => `(tactic| first
  | assumption
  | exact Z.Fr.refl _ _
  | ((with_reducible refine' Z.Fr.new ?ka ?kb); (case kb => assumption); (case ka => walk_at "fr"))
  | ((with_reducible refine' Z.Fr.upd ?ka ?kb ?kc ?kd ?ke); (case kb => walk_at "ms"); (case kc => walk_at "h"); (case kd => rfl); (case ke => rfl); (case ka => walk_at "fr"))
  | ((with_reducible refine' Z.Fr.step ?ka ?kb ?kc); (case ka => assumption); (case kb => walk_at "fr"); (case kc => walk_at "sub")))
local macro_rules | `(tactic| walk_at "dt") => `(tactic| first
  | assumption
  | (refine Z.DT.new ?_ (by assumption); walk_at "dt")
  | (refine Z.DTs.new ?_ (by assumption); walk_at "dt")
  | (refine' Z.DT.wr ?ka ?kb ?kc; (case kb => walk_at "h"); (case kc => rfl); (case ka => walk_at "dt"))
  | (refine' Z.DTs.wr ?ka ?kb ?kc; (case kb => walk_at "h"); (case kc => rfl); (case ka => walk_at "dt"))
  | (refine' Z.DT.fr ?ka ?kb; (case kb => assumption); (case ka => walk_at "dt"))
  | (refine' Z.DTs.fr ?ka ?kb; (case kb => assumption); (case ka => walk_at "dt")))
local macro_rules | `(tactic| walk_at "len") => `(tactic| first
  | exact Z.lt_ok (Nat.le_of_ble_eq_true (by with_unfolding_all rfl))
  | exact Z.le_ok (Nat.le_of_ble_eq_true (by with_unfolding_all rfl))
  | (apply Z.lt_ok; (try simp only [List.length_append, List.length_cons, List.length_nil, List.length_map, List.length_set, List.length_eraseIdx] at *); omega)
  | (apply Z.le_ok; (try simp only [List.length_append, List.length_cons, List.length_nil, List.length_map, List.length_set, List.length_eraseIdx] at *); omega))
local macro_rules | `(tactic| walk_at "r") => `(tactic| first
  | (with_reducible refine Z.rd_seq ?_)
  | (with_reducible refine Z.rd_asg ?_)
  | (with_reducible refine Z.rd_gname ?_)
  | (with_reducible refine Z.rd_ifs ?_)
  | (with_reducible refine Z.rd_next ?_)
  | (with_reducible refine Z.rd_and ?_)
  | (with_reducible refine Z.rd_or ?_)
  | (with_reducible refine Z.rd_not ?_)
  | (with_reducible refine Z.rd_test ?_)
  | (with_reducible refine Z.rd_tb ?_)
  | (with_reducible refine Z.rd_bl ?_)
  | (with_reducible refine Z.rd_op ?_)
  | (with_reducible refine Z.rd_c ?_)
  | ((with_reducible refine' Z.rd_var ?ka ?_); (case ka => with_unfolding_all rfl))
  | (with_reducible refine Z.rd_ret ?_)
  | (with_reducible refine Z.rd_retn ?_)
  | (with_reducible refine Z.rd_drop ?_)
  | (with_reducible refine Z.rd_nil ?_)
  | (with_reducible refine Z.rd_cons ?_)
  | (with_reducible refine Z.rd_cb ?_)
  | (with_reducible refine Z.rd_call ?_)
  | (with_reducible refine Z.rd_dget0 ?_)
  | ((with_reducible refine' Z.rd_dget1 ?ka ?kb ?_); (case ka => walk_at "h"); (case kb => with_unfolding_all rfl))
  | (with_reducible refine Z.rd_dput0 ?_)
  | ((with_reducible refine' Z.rd_dput1 ?ka ?kb ?_); (case ka => walk_at "h"); (case kb => walk_at "len"))
  | (with_reducible refine Z.rd_eqi ?_)
  | (with_reducible refine Z.rd_eqs ?_)
  | (with_reducible refine Z.rd_nei ?_)
  | (with_reducible refine Z.rd_nes ?_)
  | (with_reducible refine Z.rd_i0 ?_)
  | (with_reducible refine Z.rd_lst ?_)
  | (with_reducible refine Z.rd_tup ?_)
  | (with_reducible refine Z.rd_ifx ?_)
  | (with_reducible refine Z.rd_bm ?_)
  | (with_reducible refine Z.rd_bm0 ?_)
  | ((with_reducible refine' Z.rd_nil2 ?ka ?kb ?_); (case ka => walk_at "h"); (case kb => walk_at "h"))
  | ((with_reducible refine' Z.rd_nil2T ?ka ?kb ?_); (case ka => walk_at "h"); (case kb => walk_at "h"))
  | (with_reducible refine Z.rd_int1 ?_)
  | ((with_reducible refine' Z.rd_size ?ka ?_); (case ka => walk_at "len"))
  | ((with_reducible refine' Z.rd_tylist ?ka ?_); (case ka => walk_at "h"))
  | ((with_reducible refine' Z.rd_i ?ka ?_); (case ka => walk_at "num"))
  | ((with_reducible refine' Z.rd_append ?ka ?kb ?_); (case ka => walk_at "h"); (case kb => walk_at "len"))
  | (with_reducible refine Z.rd_for' ?_)
  | (with_reducible refine Z.rd_lc' ?_)
  | (with_reducible refine Z.rd_un ?_)
  | (with_reducible refine Z.rd_gm ?_)
  | (with_reducible refine Z.rd_xk ?_)
  | (with_reducible refine Z.rd_stard ?_)
  | ((with_reducible refine' Z.rd_stard1 ?ka ?_); (case ka => walk_at "h"))
  | (with_reducible refine Z.rd_star ?_)
  | ((with_reducible refine' Z.rd_star1 ?ka ?_); (case ka => walk_at "h"))
  | (with_reducible refine Z.rd_dc' ?_)
  | (with_reducible refine Z.rd_dnew ?_)
  | (with_reducible refine Z.rd_dpop ?_)
  | ((with_reducible refine' Z.rd_isd ?ka ?_); (case ka => walk_at "h"))
  | (with_reducible refine Z.rd_fldaug ?_)
  | (with_reducible refine Z.rd_ilt ?_)
  | (with_reducible refine Z.rd_mko ?_)
  | (with_reducible refine Z.rd_gk ?_)
  | (with_reducible refine Z.rd_gp ?_)
  | ((with_reducible refine' Z.rd_ins1 ?ka ?_); (case ka => walk_at "h"))
  | (with_reducible refine Z.rd_disp ?_)
  | (with_reducible refine Z.rd_pnil ?_)
  | (with_reducible refine Z.rd_pcons ?_)
  | (with_reducible refine Z.rd_m1 ?_)
  | (with_reducible refine Z.rd_isstr ?_)
  | (with_reducible refine Z.rd_sl ?_)
  | (with_reducible refine Z.rd_nopart ?_)
  | (with_reducible refine Z.rd_part ?_)
  | (with_reducible refine Z.rd_part1 ?_)
  | (with_reducible refine Z.rd_u ?_)
  | (with_reducible refine Z.rd_ilist ?_)
  | (with_reducible refine Z.rd_itup ?_)
  | (with_reducible refine Z.rd_istr ?_)
  | (with_reducible refine Z.rd_irng1 ?_)
  | (with_reducible refine Z.rd_yes ?_)
  | (with_reducible refine Z.rd_sfld0 ?_)
  | (with_reducible refine Z.rd_fld0 ?_)
  | (with_reducible refine Z.rd_din ?_)
  | (with_reducible refine Z.rd_dnotin ?_)
  | (with_reducible refine Z.rd_isn ?_)
  | (with_reducible refine Z.rd_notn ?_)
  | (with_reducible refine Z.rd_par ?_)
  | (with_reducible refine Z.rd_par1 ?_)
  | (with_reducible refine Z.rd_gnil ?_)
  | (with_reducible refine Z.rd_gcons ?_)
  | (with_reducible refine Z.rd_chain ?_)
  | (with_reducible refine Z.rd_andv ?_)
  | (with_reducible refine Z.rd_orv ?_)
  | (with_reducible refine Z.rd_notv ?_)
  | (with_reducible refine Z.rd_meth ?_)
  | (with_reducible refine Z.rd_while ?_)
  | ((with_reducible refine' Z.rd_ixl ?ka ?kb ?_); (case ka => walk_at "h"); (case kb => walk_at "ati"))
  | ((with_reducible refine' Z.rd_ixt ?ka ?kb ?_); (case ka => walk_at "h"); (case kb => walk_at "ati"))
  | ((with_reducible refine' Z.rd_len ?ka ?_); (case ka => walk_at "h"))
  | ((with_reducible refine' Z.rd_lens ?ka ?_); (case ka => walk_at "h"))
  | ((with_reducible refine' Z.rd_lent ?ka ?_); (case ka => walk_at "h"))
  | ((with_reducible refine' Z.rd_lstof ?ka ?_); (case ka => walk_at "h"))
  | ((with_reducible refine' Z.rd_tupof ?ka ?_); (case ka => walk_at "h"))
  | ((with_reducible refine' Z.rd_sfld1 ?ka ?kb ?kc ?kd ?_); (case ka => walk_at "h"); (case kb => assumption); (case kc => assumption); (case kd => (first | (with_unfolding_all decide) | exact Nat.le_of_ble_eq_true (by with_unfolding_all rfl))))
  | ((with_reducible refine' Z.rd_fld1 ?ka ?kb ?kc ?kd ?_); (case ka => walk_at "h"); (case kb => assumption); (case kc => assumption); (case kd => with_unfolding_all rfl))
  | ((with_reducible refine' Z.rd_din1 ?ka ?_); (case ka => walk_at "h"))
  | ((with_reducible refine' Z.rd_gtup ?ka ?kb ?_); (case ka => walk_at "h"); (case kb => with_unfolding_all rfl))
  | ((with_reducible refine' Z.rd_catl ?ka ?kb ?kc ?_); (case ka => walk_at "h"); (case kb => walk_at "h"); (case kc => walk_at "len"))
  | ((with_reducible refine' Z.rd_meth1 ?ka ?kb ?_); (case ka => walk_at "h"); (case kb => with_unfolding_all rfl))
  | ((with_reducible refine' Z.rd_addstr ?ka ?_); (case ka => walk_at "len")))
local macro_rules | `(tactic| walk_at "ati") => `(tactic| first
  | assumption
  | (with_unfolding_all rfl)
  | exact L2.atI_nat (by assumption)
  | exact L2.atI_nat (by with_unfolding_all rfl)
  | exact L2.atI_last _ _)
local macro_rules | `(tactic| walk_at "rr") => `(tactic| repeat (walk_at "r"))
local macro_rules | `(tactic| walk_at "num") => `(tactic| first
  | (with_unfolding_all decide)
  | (show (_ : Int) ≠ 0; omega)
  | (show (_ : Int) ≠ 0 ∧ _ < 1073741824; exact ⟨by omega, by omega⟩)
  | (show (0 : Int) ≤ _ ∧ _ ≤ (1000000 : Int) ∧ _; exact ⟨by decide, by decide, by omega⟩)
  | (show (-(2 ^ 64) < (_ : Int) ∧ _ < 2 ^ 64) ∨ _; (first | (left; exact ⟨by omega, by omega⟩) | (right; exact ⟨by omega, by omega⟩)))
  | omega)
namespace Z
open PySem PySem.Spec PyProof.Rows L2
abbrev SaysL := SaysP faL fnL tfL exB owL
theorem exL_at {w : World} {h : Heap} {K : PySem.W.Frag} (c : SaysL w h K) (i : Nat) {f : PySem.W.Frag → Bool} (e : exL[i]? = some f := by rfl) : f K = true := List.all_eq_true.mp (show exL.all (fun f => f K) = true from c.x.more) f (List.mem_of_getElem? e)
theorem sup_NoPlace___init__ : SupS s_NoPlace___init__ "nothing is at this place: " "name" := ⟨⟨_, _, _, _, _, _, _, _, _, _, _, _, _, _, _, _, rfl, rfl, rfl, by decide +kernel, rfl, rfl, rfl, rfl, rfl, rfl, rfl, rfl, _, fun _ => rfl⟩, fun _ _ _ _ _ _ _ _ _ us hl => match us, hl with | [_, _], _ => rfl⟩
theorem factsL {w : World} {K : PySem.W.Frag} {h : Heap} {mg : Str → Option Value} {f : Addr} (X : K.In h) (G : h.Ns mainGlobals mg) (hfa : mg ("law" : Str) = some (.ref f)) (c : SaysL w h K) : LawG PySem.Challenge.rw_calltakers_k65_places_seen w K 13 63 "script" mg f h := by
  obtain ⟨fd__law_begun, Z__law_begun⟩ := c.d.def_ 0 (d := fnD0) rfl
  have F__law_begun := fun_of (st := s__law_begun) Z__law_begun
  have b__law_begun : L2.Binds K fd__law_begun ["script"] [] := F__law_begun.binds (ps := ["script"]) fun _ _ _ _ _ _ us hl => match us, hl with | [_], _ => rfl
  obtain ⟨fd__law_mixed, Z__law_mixed⟩ := c.d.def_ 1 (d := fnD1) rfl
  have F__law_mixed := fun_of (st := s__law_mixed) Z__law_mixed
  have b__law_mixed : L2.Binds K fd__law_mixed ["state"] [] := F__law_mixed.binds (ps := ["state"]) fun _ _ _ _ _ _ us hl => match us, hl with | [_], _ => rfl
  obtain ⟨fd__law_take, Z__law_take⟩ := c.d.def_ 2 (d := fnD2) rfl
  have F__law_take := fun_of (st := s__law_take) Z__law_take
  have b__law_take : L2.Binds K fd__law_take ["state", "size"] [] := F__law_take.binds (ps := ["state", "size"]) fun _ _ _ _ _ _ us hl => match us, hl with | [_, _], _ => rfl
  obtain ⟨fd__law_pick, Z__law_pick⟩ := c.d.def_ 3 (d := fnD3) rfl
  have F__law_pick := fun_of (st := s__law_pick) Z__law_pick
  have b__law_pick : L2.Binds K fd__law_pick ["state", "some"] [] := F__law_pick.binds (ps := ["state", "some"]) fun _ _ _ _ _ _ us hl => match us, hl with | [_, _], _ => rfl
  obtain ⟨fd__law_shuffled, Z__law_shuffled⟩ := c.d.def_ 4 (d := fnD4) rfl
  have F__law_shuffled := fun_of (st := s__law_shuffled) Z__law_shuffled
  have b__law_shuffled : L2.Binds K fd__law_shuffled ["state", "some"] [] := F__law_shuffled.binds (ps := ["state", "some"]) fun _ _ _ _ _ _ us hl => match us, hl with | [_, _], _ => rfl
  obtain ⟨fd__law_names, Z__law_names⟩ := c.d.def_ 5 (d := fnD5) rfl
  have F__law_names := fun_of (st := s__law_names) Z__law_names
  have b__law_names : L2.Binds K fd__law_names ["state", "many"] [] := F__law_names.binds (ps := ["state", "many"]) fun _ _ _ _ _ _ us hl => match us, hl with | [_, _], _ => rfl
  obtain ⟨fd__law_value, Z__law_value⟩ := c.d.def_ 6 (d := fnD6) rfl
  have F__law_value := fun_of (st := s__law_value) Z__law_value
  have b__law_value : L2.Binds K fd__law_value ["state", "deep"] [] := F__law_value.binds (ps := ["state", "deep"]) fun _ _ _ _ _ _ us hl => match us, hl with | [_, _], _ => rfl
  obtain ⟨fd__law_seen, Z__law_seen⟩ := c.d.def_ 7 (d := fnD7) rfl
  have F__law_seen := fun_of (st := s__law_seen) Z__law_seen
  have b__law_seen : L2.Binds K fd__law_seen ["box", "title"] [] := F__law_seen.binds (ps := ["box", "title"]) fun _ _ _ _ _ _ us hl => match us, hl with | [_, _], _ => rfl
  obtain ⟨fd__law_result, Z__law_result⟩ := c.d.def_ 8 (d := fnD8) rfl
  have F__law_result := fun_of (st := s__law_result) Z__law_result
  have b__law_result : L2.Binds K fd__law_result ["work"] [] := F__law_result.binds (ps := ["work"]) fun _ _ _ _ _ _ us hl => match us, hl with | [_], _ => rfl
  obtain ⟨fd__law_asked, Z__law_asked⟩ := c.d.def_ 9 (d := fnD9) rfl
  have F__law_asked := fun_of (st := s__law_asked) Z__law_asked
  have b__law_asked : L2.Binds K fd__law_asked ["box", "stead", "title"] [] := F__law_asked.binds (ps := ["box", "stead", "title"]) fun _ _ _ _ _ _ us hl => match us, hl with | [_, _, _], _ => rfl
  obtain ⟨fd__law_all_right, Z__law_all_right⟩ := c.d.def_ 10 (d := fnD10) rfl
  have F__law_all_right := fun_of (st := s__law_all_right) Z__law_all_right
  have b__law_all_right : L2.Binds K fd__law_all_right ["box", "stead", "titles"] [] := F__law_all_right.binds (ps := ["box", "stead", "titles"]) fun _ _ _ _ _ _ us hl => match us, hl with | [_, _, _], _ => rfl
  obtain ⟨fd__law_held_step, Z__law_held_step⟩ := c.d.def_ 11 (d := fnD11) rfl
  have F__law_held_step := fun_of (st := s__law_held_step) Z__law_held_step
  have b__law_held_step : L2.Binds K fd__law_held_step ["state", "box", "stead", "title"] [] := F__law_held_step.binds (ps := ["state", "box", "stead", "title"]) fun _ _ _ _ _ _ us hl => match us, hl with | [_, _, _, _], _ => rfl
  obtain ⟨fd__law_force_step, Z__law_force_step⟩ := c.d.def_ 12 (d := fnD12) rfl
  have F__law_force_step := fun_of (st := s__law_force_step) Z__law_force_step
  have b__law_force_step : L2.Binds K fd__law_force_step ["state", "box", "stead", "title"] [] := F__law_force_step.binds (ps := ["state", "box", "stead", "title"]) fun _ _ _ _ _ _ us hl => match us, hl with | [_, _, _, _], _ => rfl
  obtain ⟨fd_law, Z_law⟩ := c.d.def_ 13 (d := fnD13) rfl
  have F_law := fun_of (st := s_law) Z_law
  have b_law : L2.Binds K fd_law ["script"] [] := F_law.binds (ps := ["script"]) fun _ _ _ _ _ _ us hl => match us, hl with | [_], _ => rfl
  obtain ⟨fd_is_word, Z_is_word⟩ := c.d.def_ 14 (d := fnD14) rfl
  have F_is_word := fun_of (st := s_is_word) Z_is_word
  have b_is_word : L2.Binds K fd_is_word ["thing"] [] := F_is_word.binds (ps := ["thing"]) fun _ _ _ _ _ _ us hl => match us, hl with | [_], _ => rfl
  obtain ⟨fd_is_name, Z_is_name⟩ := c.d.def_ 15 (d := fnD15) rfl
  have F_is_name := fun_of (st := s_is_name) Z_is_name
  have b_is_name : L2.Binds K fd_is_name ["thing"] [] := F_is_name.binds (ps := ["thing"]) fun _ _ _ _ _ _ us hl => match us, hl with | [_], _ => rfl
  obtain ⟨fd_is_value, Z_is_value⟩ := c.d.def_ 16 (d := fnD16) rfl
  have F_is_value := fun_of (st := s_is_value) Z_is_value
  have b_is_value : L2.Binds K fd_is_value ["thing"] [] := F_is_value.binds (ps := ["thing"]) fun _ _ _ _ _ _ us hl => match us, hl with | [_], _ => rfl
  obtain ⟨fd_need_name, Z_need_name⟩ := c.d.def_ 17 (d := fnD17) rfl
  have F_need_name := fun_of (st := s_need_name) Z_need_name
  have b_need_name : L2.Binds K fd_need_name ["thing"] [] := F_need_name.binds (ps := ["thing"]) fun _ _ _ _ _ _ us hl => match us, hl with | [_], _ => rfl
  obtain ⟨fd_need_value, Z_need_value⟩ := c.d.def_ 18 (d := fnD18) rfl
  have F_need_value := fun_of (st := s_need_value) Z_need_value
  have b_need_value : L2.Binds K fd_need_value ["thing"] [] := F_need_value.binds (ps := ["thing"]) fun _ _ _ _ _ _ us hl => match us, hl with | [_], _ => rfl
  obtain ⟨fd_Replacement___init__, Z_Replacement___init__⟩ := c.d.def_ 19 (d := fnD19) rfl
  have F_Replacement___init__ := fun_of (st := s_Replacement___init__) Z_Replacement___init__
  have b_Replacement___init__ : L2.Binds K fd_Replacement___init__ ["self", "places", "name", "values"] [] := F_Replacement___init__.binds (ps := ["self", "places", "name", "values"]) fun _ _ _ _ _ _ us hl => match us, hl with | [_, _, _, _], _ => rfl
  obtain ⟨fd_Replacement_begin, Z_Replacement_begin⟩ := c.d.def_ 20 (d := fnD20) rfl
  have F_Replacement_begin := fun_of (st := s_Replacement_begin) Z_Replacement_begin
  have b_Replacement_begin : L2.Binds K fd_Replacement_begin ["self"] [] := F_Replacement_begin.binds (ps := ["self"]) fun _ _ _ _ _ _ us hl => match us, hl with | [_], _ => rfl
  obtain ⟨fd_Replacement_end, Z_Replacement_end⟩ := c.d.def_ 21 (d := fnD21) rfl
  have F_Replacement_end := fun_of (st := s_Replacement_end) Z_Replacement_end
  have b_Replacement_end : L2.Binds K fd_Replacement_end ["self"] [] := F_Replacement_end.binds (ps := ["self"]) fun _ _ _ _ _ _ us hl => match us, hl with | [_], _ => rfl
  obtain ⟨fd_Places___init__, F_Places___init__⟩ := c.d.def_ 22 (d := fnD22) rfl
  obtain ⟨fd_Places_seen_at, Z_Places_seen_at⟩ := c.d.def_ 23 (d := fnD23) rfl
  have F_Places_seen_at := fun_of (st := s_Places_seen_at) Z_Places_seen_at
  have b_Places_seen_at : L2.Binds K fd_Places_seen_at ["self", "name"] [] := F_Places_seen_at.binds (ps := ["self", "name"]) fun _ _ _ _ _ _ us hl => match us, hl with | [_, _], _ => rfl
  obtain ⟨fd_Places_read, Z_Places_read⟩ := c.d.def_ 24 (d := fnD24) rfl
  have F_Places_read := fun_of (st := s_Places_read) Z_Places_read
  have b_Places_read : L2.Binds K fd_Places_read ["self", "name"] [] := F_Places_read.binds (ps := ["self", "name"]) fun _ _ _ _ _ _ us hl => match us, hl with | [_, _], _ => rfl
  obtain ⟨fd_Places_has, Z_Places_has⟩ := c.d.def_ 25 (d := fnD25) rfl
  have F_Places_has := fun_of (st := s_Places_has) Z_Places_has
  have b_Places_has : L2.Binds K fd_Places_has ["self", "name"] [] := F_Places_has.binds (ps := ["self", "name"]) fun _ _ _ _ _ _ us hl => match us, hl with | [_, _], _ => rfl
  obtain ⟨fd_Places_names, Z_Places_names⟩ := c.d.def_ 26 (d := fnD26) rfl
  have F_Places_names := fun_of (st := s_Places_names) Z_Places_names
  have b_Places_names : L2.Binds K fd_Places_names ["self"] [] := F_Places_names.binds (ps := ["self"]) fun _ _ _ _ _ _ us hl => match us, hl with | [_], _ => rfl
  obtain ⟨fd_Places_write, Z_Places_write⟩ := c.d.def_ 27 (d := fnD27) rfl
  have F_Places_write := fun_of (st := s_Places_write) Z_Places_write
  have b_Places_write : L2.Binds K fd_Places_write ["self", "name", "value"] [] := F_Places_write.binds (ps := ["self", "name", "value"]) fun _ _ _ _ _ _ us hl => match us, hl with | [_, _, _], _ => rfl
  obtain ⟨fd_Places_remove, Z_Places_remove⟩ := c.d.def_ 28 (d := fnD28) rfl
  have F_Places_remove := fun_of (st := s_Places_remove) Z_Places_remove
  have b_Places_remove : L2.Binds K fd_Places_remove ["self", "name"] [] := F_Places_remove.binds (ps := ["self", "name"]) fun _ _ _ _ _ _ us hl => match us, hl with | [_, _], _ => rfl
  obtain ⟨fd_Places_replaced, Z_Places_replaced⟩ := c.d.def_ 29 (d := fnD29) rfl
  have F_Places_replaced := fun_of (st := s_Places_replaced) Z_Places_replaced
  have e_Replacement_in_force := exL_at c 0 (f := fun K => propB "Replacement" "in_force" K)
  obtain ⟨fd_Replacement_in_force, F_Replacement_in_force⟩ := fun_own (d := owD0) (c.own 0 rfl) rfl (exL_at c 1 (f := fun K => funB (getP "Replacement" "in_force") "Replacement.in_force" K))
  have b_Replacement_in_force : L2.Binds K fd_Replacement_in_force ["self"] [] := F_Replacement_in_force.binds (ps := ["self"]) fun _ _ _ _ _ _ us hl => match us, hl with | [_], _ => rfl
  have x_NoPlace : XSup PySem.Challenge.rw_calltakers_k65_places_seen.prog K mg "NoPlace" (He.ga K "NoPlace") "name" := sup_ok (d := owD1) (file := "/claim/cut.py") X G (c.own 1 rfl) rfl rfl sup_NoPlace___init__ (exL_at c 2 (f := fun K => supB "NoPlace" "name" "/claim/cut.py" K)) (c.d.fact 22 (f := .glo "NoPlace") rfl) (c.d.fact 37 (f := .free "super") rfl) (c.d.fact 33 (f := .free "repr") rfl) (by rfl) (by decide +kernel) (by decide) (by decide) (by decide)
  have x_BadOrder : XOwn K mg "BadOrder" (He.ga K "BadOrder") := xown_ok X G (c.d.fact 60 (f := .exc "BadOrder") rfl) (c.d.fact 21 (f := .glo "BadOrder") rfl)
  have n_int : mg "int" = none := He.free_ok X G (c.d.fact 24 (f := .free "int") rfl)
  have n_list : mg "list" = none := He.free_ok X G (c.d.fact 25 (f := .free "list") rfl)
  have n_len : mg "len" = none := He.free_ok X G (c.d.fact 26 (f := .free "len") rfl)
  have n_range : mg "range" = none := He.free_ok X G (c.d.fact 27 (f := .free "range") rfl)
  have n_tuple : mg "tuple" = none := He.free_ok X G (c.d.fact 28 (f := .free "tuple") rfl)
  have n_isinstance : mg "isinstance" = none := He.free_ok X G (c.d.fact 29 (f := .free "isinstance") rfl)
  have n_str : mg "str" = none := He.free_ok X G (c.d.fact 30 (f := .free "str") rfl)
  have n_all : mg "all" = none := He.free_ok X G (c.d.fact 31 (f := .free "all") rfl)
  have n_sorted : mg "sorted" = none := He.free_ok X G (c.d.fact 32 (f := .free "sorted") rfl)
  have n_repr : mg "repr" = none := He.free_ok X G (c.d.fact 33 (f := .free "repr") rfl)
  have n_max : mg "max" = none := He.free_ok X G (c.d.fact 34 (f := .free "max") rfl)
  have n_min : mg "min" = none := He.free_ok X G (c.d.fact 35 (f := .free "min") rfl)
  have n_dict : mg "dict" = none := He.free_ok X G (c.d.fact 36 (f := .free "dict") rfl)
  have n_super : mg "super" = none := He.free_ok X G (c.d.fact 37 (f := .free "super") rfl)

  have C := He.ga K "Places"
  let Λ : List (Addr × Str) := tfL.map fun p => ((He.cT K p).2, p.1 ++ ".<locals>." ++ "<lambda>")
  have hdiff := exL_at c 10 (f := fun K => diffB (tfL.map fun p => (He.cT K p).2))
  have hu : ∀ (p : He.Defn), p ∈ tfL → ((He.cT K p).2, p.1 ++ ".<locals>." ++ "<lambda>") ∈ Λ ∧ ∀ z ∈ Λ, z.1 = (He.cT K p).2 → z.2 = p.1 ++ ".<locals>." ++ "<lambda>" := lam_names hdiff
  have u1 := hu ("_law_asked", none) (by decide)
  have u2 := hu ("_law_held_step", none) (by decide)
  have u3 := hu ("_law_force_step", none) (by decide)
  have e := hfa.symm.trans (He.glo_ok X G (c.d.fact 13 (f := .glo "law") rfl))
  cases e
  refine ⟨fd_law, tfL.map (He.cT K), sp_law Λ K, ?_, ?_, ?_, ?_, ?_, ?_⟩
  · intro p hp
    obtain ⟨q, hq, rfl⟩ := List.mem_map.mp hp
    exact c.x.empty q hq
  · intro p hp
    obtain ⟨q, hq, rfl⟩ := List.mem_map.mp hp
    exact c.x.out q hq
  · intro p hp
    obtain ⟨q, hq, rfl⟩ := List.mem_map.mp hp
    exact PySem.W.codeHd_of_K X (c.x.hd q hq)
  · exact fun s u => Z_law.bindsA (ps := ["script"]) (fun _ _ _ _ _ _ us hl => match us, hl with | [_], _ => rfl) s [u] rfl
  · intro H a ns hl _ hT hS
    refine ⟨a, ns, rfl, hS, by omega, fun p hp => ?_, fun _ => rfl⟩
    obtain ⟨q, hq, rfl⟩ := List.mem_map.mp hp
    exact LamX.TabS.nil (hT _ (List.mem_map.mpr ⟨q, hq, rfl⟩))
  · intro base KB GB hTB
    have TB : ∀ q ∈ tfL, LamX.TabB base mg (He.cT K q).1 (He.cT K q).2 := fun q hq => hTB _ (List.mem_map.mpr ⟨q, hq, rfl⟩)
    have T1 : Tx K mg := ⟨n_int, n_list, n_len, n_range⟩
    have T2' : T2 K mg := ⟨n_tuple, n_range⟩
    have T3' : T3 K mg := ⟨n_range, n_list, n_len⟩
    have TW' : TW K mg := ⟨(He.str_ok X G (c.d.fact 38 (f := .str "LETTERS" (abc)) rfl)), n_isinstance, n_str, n_int, n_tuple, n_len, n_all⟩
    have TP' : TP K mg (He.ga K "Places") (He.ga K "Replacement") := ⟨(He.cls_ok (c.d.fact 39 (f := .cls "Places") rfl)), (He.cls_ok (c.d.fact 40 (f := .cls "Replacement") rfl)), (He.noat_ok (c.d.fact 41 (f := .noat "Places" "held") rfl)), (He.noat_ok (c.d.fact 42 (f := .noat "Places" "made") rfl)), (He.noat_ok (c.d.fact 43 (f := .noat "Places" "turns") rfl)), (He.noat_ok (c.d.fact 44 (f := .noat "Replacement" "places") rfl)), (He.noat_ok (c.d.fact 45 (f := .noat "Replacement" "name") rfl)), (He.noat_ok (c.d.fact 46 (f := .noat "Replacement" "values_shown") rfl)), (He.noat_ok (c.d.fact 47 (f := .noat "Replacement" "turn") rfl))⟩
    have T5' : T5 PySem.Challenge.rw_calltakers_k65_places_seen.prog K mg (He.ga K "Places") (He.ga K "Replacement") (He.ga K "NoPlace") := { TP' with x_NoPlace := x_NoPlace }
    have T6' : T6 PySem.Challenge.rw_calltakers_k65_places_seen.prog K mg (He.ga K "Places") (He.ga K "Replacement") (He.ga K "NoPlace") (He.ga K "BadOrder") := { T5' with x_BadOrder := x_BadOrder, b_len := n_len }
    have T7' : T7 PySem.Challenge.rw_calltakers_k65_places_seen.prog K mg (He.ga K "Places") (He.ga K "Replacement") (He.ga K "NoPlace") (He.ga K "BadOrder") := { T6' with b_tuple := n_tuple, b_sorted := n_sorted }
    have T8' : T8 PySem.Challenge.rw_calltakers_k65_places_seen.prog K mg (He.ga K "Places") (He.ga K "Replacement") (He.ga K "NoPlace") (He.ga K "BadOrder") := { T7' with b_repr := n_repr, b_range := n_range }
    have TR' : TR K mg (He.ga K "TakerError") (He.ga K "NoPlace") (He.ga K "BadOrder") := ⟨(He.glo_ok X G (c.d.fact 23 (f := .glo "TakerError") rfl)), (He.glo_ok X G (c.d.fact 22 (f := .glo "NoPlace") rfl)), (He.glo_ok X G (c.d.fact 21 (f := .glo "BadOrder") rfl)), n_isinstance, (He.exm_ok (c.d.fact 61 (f := .exm "NoPlace" "TakerError" true) rfl)), (He.exm_ok (c.d.fact 62 (f := .exm "BadOrder" "TakerError" true) rfl)), excC_ok (exL_at c 3 (f := fun K => excCB "NoPlace" K)), excC_ok (exL_at c 4 (f := fun K => excCB "BadOrder" K)), kit_ok' (exL_at c 5 (f := fun K => kitB "NoPlace" "NoPlace" true K)), kit_ok' (exL_at c 6 (f := fun K => kitB "BadOrder" "NoPlace" false K)), kit_ok' (exL_at c 7 (f := fun K => kitB "BadOrder" "BadOrder" true K)), xfB_ok (exL_at c 8 (f := fun K => xfB K (He.ga K "NoPlace"))), (He.noat_ok (c.d.fact 48 (f := .noat "NoPlace" "name") rfl))⟩
    have GR' : GRes K mg (He.ga K "TakerError") (He.ga K "NoPlace") (He.ga K "BadOrder") := ⟨⟨_, _, F__law_result, (He.glo_ok X G (c.d.fact 8 (f := .glo "_law_result") rfl)), b__law_result, TR'⟩⟩
    -- the draws
    have Dmix : GD false PySem.Challenge.rw_calltakers_k65_places_seen.prog w K mg base "_law_mixed" ["state"] 1 (sp_mixed Λ) := ⟨⟨_, _, He.glo_ok X G (c.d.fact 1 (f := .glo "_law_mixed") rfl), F__law_mixed.kp, b__law_mixed, ok_mixed F__law_mixed T1⟩⟩
    have Dtake0 : Gx false Λ PySem.Challenge.rw_calltakers_k65_places_seen.prog w K mg base := by
      have z : GD false PySem.Challenge.rw_calltakers_k65_places_seen.prog w K mg base "_law_take" ["state", "size"] 2 (sp_take Λ) := ⟨⟨_, _, He.glo_ok X G (c.d.fact 2 (f := .glo "_law_take") rfl), F__law_take.kp, b__law_take, ok_take F__law_take T1 ⟨Dmix⟩⟩⟩
      exact ⟨Dmix, z⟩
    have Dtake := Dtake0.law_take
    have Dpick : GD false PySem.Challenge.rw_calltakers_k65_places_seen.prog w K mg base "_law_pick" ["state", "some"] 3 (sp_pick Λ) := ⟨⟨_, _, He.glo_ok X G (c.d.fact 3 (f := .glo "_law_pick") rfl), F__law_pick.kp, b__law_pick, ok_pick F__law_pick T1 Dtake0⟩⟩
    have Dval : ∀ m, GD false PySem.Challenge.rw_calltakers_k65_places_seen.prog w K mg base "_law_value" ["state", "deep"] (3 + m) (sp_value Λ m) := fun m => by
      induction m with
      | zero => exact ⟨⟨_, _, He.glo_ok X G (c.d.fact 6 (f := .glo "_law_value") rfl), F__law_value.kp, b__law_value, ⟨fun vs H Q E h => (by obtain ⟨_, _, _, _, _, _, h2, _⟩ := h; exact absurd h2 (Nat.not_lt_zero _)), fun A outer s H args us vs Q E _ _ _ _ _ h => (by obtain ⟨_, _, _, _, _, _, h2, _⟩ := h; exact absurd h2 (Nat.not_lt_zero _))⟩⟩⟩
      | succ m ih => exact ⟨⟨_, _, He.glo_ok X G (c.d.fact 6 (f := .glo "_law_value") rfl), F__law_value.kp, b__law_value, (show GOk false PySem.Challenge.rw_calltakers_k65_places_seen.prog w K mg base (3 + (m + 1)) _ _ _ _ from (show 3 + (m + 1) = 4 + m by omega) ▸ ok_value F__law_value T2' ⟨Dtake, Dpick, ih⟩)⟩⟩
    have Dval3 : GD false PySem.Challenge.rw_calltakers_k65_places_seen.prog w K mg base "_law_value" ["state", "deep"] 6 (sp_value Λ 3) := Dval 3
    have Dnames : GD false PySem.Challenge.rw_calltakers_k65_places_seen.prog w K mg base "_law_names" ["state", "many"] 4 (sp_names Λ) := ⟨⟨_, _, He.glo_ok X G (c.d.fact 5 (f := .glo "_law_names") rfl), F__law_names.kp, b__law_names, ok_names F__law_names T3' ⟨Dtake, Dpick⟩⟩⟩
    have Dshuf : GD false PySem.Challenge.rw_calltakers_k65_places_seen.prog w K mg base "_law_shuffled" ["state", "some"] 3 (sp_shuffled Λ) := ⟨⟨_, _, He.glo_ok X G (c.d.fact 4 (f := .glo "_law_shuffled") rfl), F__law_shuffled.kp, b__law_shuffled, ok_shuffled F__law_shuffled T3' ⟨Dtake⟩⟩⟩
    have Dbeg : GD false PySem.Challenge.rw_calltakers_k65_places_seen.prog w K mg base "_law_begun" ["script"] 1 (sp_begun Λ K) := ⟨⟨_, _, He.glo_ok X G (c.d.fact 0 (f := .glo "_law_begun") rfl), F__law_begun.kp, b__law_begun, ok_begun F__law_begun T3'⟩⟩
    -- values
    have Dword : GD false PySem.Challenge.rw_calltakers_k65_places_seen.prog w K mg base "is_word" ["thing"] 1 (sp_is_word Λ K) := ⟨⟨_, _, He.glo_ok X G (c.d.fact 14 (f := .glo "is_word") rfl), F_is_word.kp, b_is_word, ok_is_word F_is_word TW'⟩⟩
    have Dname : GD false PySem.Challenge.rw_calltakers_k65_places_seen.prog w K mg base "is_name" ["thing"] 2 (sp_is_name Λ K) := ⟨⟨_, _, He.glo_ok X G (c.d.fact 15 (f := .glo "is_name") rfl), F_is_name.kp, b_is_name, ok_is_name F_is_name TW' ⟨Dword⟩⟩⟩
    have Dvalue : ∀ m, GD false PySem.Challenge.rw_calltakers_k65_places_seen.prog w K mg base "is_value" ["thing"] (1 + m) (sp_is_value Λ m) := fun m => by
      induction m with
      | zero => exact ⟨⟨_, _, He.glo_ok X G (c.d.fact 16 (f := .glo "is_value") rfl), F_is_value.kp, b_is_value, ⟨fun vs H Q E h => (by obtain ⟨_, _, _, _, _, h2, _⟩ := h; exact absurd h2 (Nat.not_lt_zero _)), fun A outer s H args us vs Q E _ _ _ _ _ h => (by obtain ⟨_, _, _, _, _, h2, _⟩ := h; exact absurd h2 (Nat.not_lt_zero _))⟩⟩⟩
      | succ m ih => exact ⟨⟨_, _, He.glo_ok X G (c.d.fact 16 (f := .glo "is_value") rfl), F_is_value.kp, b_is_value, (show GOk false PySem.Challenge.rw_calltakers_k65_places_seen.prog w K mg base (1 + (m + 1)) _ _ _ _ from (show 1 + (m + 1) = 2 + m by omega) ▸ ok_is_value F_is_value TW' ⟨ih⟩)⟩⟩
    have Dval4 : GD false PySem.Challenge.rw_calltakers_k65_places_seen.prog w K mg base "is_value" ["thing"] 4 (sp_is_value Λ 3) := Dvalue 3
    -- the places
    have Gneed : G6 false Λ PySem.Challenge.rw_calltakers_k65_places_seen.prog w K mg base (He.ga K "Places") (He.ga K "Replacement") := by
      have Mrep : GK false PySem.Challenge.rw_calltakers_k65_places_seen.prog w K mg base "Replacement" (He.ga K "Replacement") 1 (sp_rinit Λ (He.ga K "Replacement")) := ⟨⟨_, (He.mkr_ok (c.d.fact 59 (f := .mkr "Replacement") rfl)), (He.glo_ok X G (c.d.fact 20 (f := .glo "Replacement") rfl)), GOk.pos0 (ok_rinit F_Replacement___init__ T6') b_Replacement___init__⟩⟩
      have G60' : G60 false Λ PySem.Challenge.rw_calltakers_k65_places_seen.prog w K mg base (He.ga K "Places") (He.ga K "Replacement") := ⟨Dname, Dval4⟩
      exact ⟨Dname, Dval4, ⟨⟨_, _, He.glo_ok X G (c.d.fact 17 (f := .glo "need_name") rfl), F_need_name.kp, b_need_name, ok_need_name F_need_name G60'⟩⟩, ⟨⟨_, _, He.glo_ok X G (c.d.fact 18 (f := .glo "need_value") rfl), F_need_value.kp, b_need_value, ok_need_value F_need_value G60'⟩⟩, Mrep⟩
    have Mseen : GM false PySem.Challenge.rw_calltakers_k65_places_seen.prog w K mg base (He.ga K "Places") "seen_at" 1 (sp_seen Λ (He.ga K "Places") (He.ga K "Replacement")) := ⟨⟨_, He.meth_ok (c.d.fact 51 (f := .meth "Places" "seen_at") rfl), GOk.pos0 (ok_seen_at F_Places_seen_at TP') b_Places_seen_at⟩⟩
    have G5' : G5 false Λ PySem.Challenge.rw_calltakers_k65_places_seen.prog w K mg base (He.ga K "Places") (He.ga K "Replacement") := ⟨Dname, Mseen, ⟨⟨_, He.meth_ok (c.d.fact 53 (f := .meth "Places" "has") rfl), GOk.pos0 (ok_has F_Places_has T5' ⟨Dname, Mseen⟩) b_Places_has⟩⟩⟩
    have Mread : GM false PySem.Challenge.rw_calltakers_k65_places_seen.prog w K mg base (He.ga K "Places") "read" 4 (sp_read Λ (He.ga K "Places") (He.ga K "Replacement") (He.ga K "NoPlace")) := ⟨⟨_, He.meth_ok (c.d.fact 52 (f := .meth "Places" "read") rfl), GOk.pos0 (ok_read F_Places_read T5' G5') b_Places_read⟩⟩
    have Mnames : GM false PySem.Challenge.rw_calltakers_k65_places_seen.prog w K mg base (He.ga K "Places") "names" 4 (sp_names2 Λ (He.ga K "Places") (He.ga K "Replacement")) := ⟨⟨_, He.meth_ok (c.d.fact 54 (f := .meth "Places" "names") rfl), GOk.pos0 (ok_names2 F_Places_names T7' G5') b_Places_names⟩⟩
    have Mwrite : GM false PySem.Challenge.rw_calltakers_k65_places_seen.prog w K mg base (He.ga K "Places") "write" 6 (sp_write Λ (He.ga K "Places") (He.ga K "Replacement")) := ⟨⟨_, He.meth_ok (c.d.fact 55 (f := .meth "Places" "write") rfl), GOk.pos0 (ok_write F_Places_write T6' Gneed) b_Places_write⟩⟩
    have Mremove : GM false PySem.Challenge.rw_calltakers_k65_places_seen.prog w K mg base (He.ga K "Places") "remove" 3 (sp_remove Λ (He.ga K "Places") (He.ga K "Replacement") (He.ga K "NoPlace")) := ⟨⟨_, He.meth_ok (c.d.fact 56 (f := .meth "Places" "remove") rfl), GOk.pos0 (ok_remove F_Places_remove T6' Gneed) b_Places_remove⟩⟩
    have Mrepl : GM false PySem.Challenge.rw_calltakers_k65_places_seen.prog w K mg base (He.ga K "Places") "replaced" 6 _ := ⟨⟨_, (He.meth_ok (c.d.fact 57 (f := .meth "Places" "replaced") rfl)), ok_replaced F_Places_replaced T6' Gneed⟩⟩
    have Mbegin : GM false PySem.Challenge.rw_calltakers_k65_places_seen.prog w K mg base (He.ga K "Replacement") "begin" 3 (sp_begin Λ (He.ga K "Places") (He.ga K "Replacement") (He.ga K "BadOrder")) := ⟨⟨_, He.meth_ok (c.d.fact 49 (f := .meth "Replacement" "begin") rfl), GOk.pos0 (ok_begin F_Replacement_begin T6') b_Replacement_begin⟩⟩
    have Mend : GM false PySem.Challenge.rw_calltakers_k65_places_seen.prog w K mg base (He.ga K "Replacement") "end" 3 (sp_end Λ (He.ga K "Places") (He.ga K "Replacement") (He.ga K "BadOrder")) := ⟨⟨_, He.meth_ok (c.d.fact 50 (f := .meth "Replacement" "end") rfl), GOk.pos0 (ok_end F_Replacement_end T6') b_Replacement_end⟩⟩
    have Pin : GP false PySem.Challenge.rw_calltakers_k65_places_seen.prog w K mg base (He.ga K "Replacement") "in_force" 1 (sp_in_force (He.ga K "Places") (He.ga K "Replacement")) := ⟨⟨_, _, prop_ok e_Replacement_in_force, GOk.pos0 (ok_in_force F_Replacement_in_force T6') b_Replacement_in_force⟩⟩
    have Oinit := ok_pinit (γ := false) (Λ := Λ) (w := w) (base := base) F_Places___init__ T6' Gneed
    obtain ⟨ds, hds, hb0⟩ := F_Places___init__.binds1 (ps := ["self", "contents"]) 1 0 (List.cons_ne_nil _ _) rfl (fun T kV doc pm an cdv ct us its h1 h2 => match us, its, h1, h2 with | [_], [_], _, _ => ⟨_, rfl, rfl⟩)
    have Mpl0 : GK false PySem.Challenge.rw_calltakers_k65_places_seen.prog w K mg base "Places" (He.ga K "Places") 6 (fun vs H Q E => sp_pinit Λ K (He.ga K "Places") (He.ga K "Replacement") (vs ++ [.ref (He.dflAt ("Places", some "__init__") 0 K)]) H Q E) := ⟨⟨_, (He.mkr_ok (c.d.fact 58 (f := .mkr "Places") rfl)), (He.glo_ok X G (c.d.fact 19 (f := .glo "Places") rfl)), GOk.pos Oinit hb0 hds⟩⟩
    obtain ⟨ds1, hds1, hb1⟩ := F_Places___init__.binds1 (ps := ["self", "contents"]) 2 1 (List.cons_ne_nil _ _) rfl (fun T kV doc pm an cdv ct us its h1 h2 => match us, its, h1, h2 with | [_, _], [_], _, _ => ⟨_, rfl, rfl⟩)
    obtain rfl : ds1 = [] := List.length_eq_zero_iff.mp (Paired.length hds1).symm
    have Mpl : GK false PySem.Challenge.rw_calltakers_k65_places_seen.prog w K mg base "Places" (He.ga K "Places") 6 (sp_pinit Λ K (He.ga K "Places") (He.ga K "Replacement")) := ⟨⟨_, (He.mkr_ok (c.d.fact 58 (f := .mkr "Places") rfl)), (He.glo_ok X G (c.d.fact 19 (f := .glo "Places") rfl)), GOk.pos0 Oinit hb1⟩⟩
    -- the law's own defs
    have Dseen : GD false PySem.Challenge.rw_calltakers_k65_places_seen.prog w K mg base "_law_seen" ["box", "title"] 1 (sp_lseen Λ) := ⟨⟨_, _, He.glo_ok X G (c.d.fact 7 (f := .glo "_law_seen") rfl), F__law_seen.kp, b__law_seen, ok_lseen F__law_seen⟩⟩
    have Dasked : GD true PySem.Challenge.rw_calltakers_k65_places_seen.prog w K mg base "_law_asked" ["box", "stead", "title"] 10 (sp_asked Λ (He.ga K "Places") (He.ga K "Replacement")) := ⟨⟨_, _, He.glo_ok X G (c.d.fact 9 (f := .glo "_law_asked") rfl), F__law_asked.kp, b__law_asked, ok_asked (funC_of (p := ("_law_asked", none)) F__law_asked) (TB _ (by decide)) u1.1 u1.2 T8' ⟨Dseen, GR', G5'.Places_has, Mread⟩⟩⟩
    have Dright : GD true PySem.Challenge.rw_calltakers_k65_places_seen.prog w K mg base "_law_all_right" ["box", "stead", "titles"] 11 (sp_right Λ (He.ga K "Places") (He.ga K "Replacement")) := ⟨⟨_, _, He.glo_ok X G (c.d.fact 10 (f := .glo "_law_all_right") rfl), F__law_all_right.kp, b__law_all_right, ok_right F__law_all_right T8' ⟨Dseen, Dasked, Mnames, Pin⟩⟩⟩
    have Dheld : GD false PySem.Challenge.rw_calltakers_k65_places_seen.prog w K mg base "_law_held_step" ["state", "box", "stead", "title"] 12 (sp_held Λ (He.ga K "Places") (He.ga K "Replacement")) := ⟨⟨_, _, He.glo_ok X G (c.d.fact 11 (f := .glo "_law_held_step") rfl), F__law_held_step.kp, b__law_held_step, ok_held (funC_of (p := ("_law_held_step", none)) F__law_held_step) (TB _ (by decide)) u2.1 u2.2 T8' ⟨Dtake, Dval3, GR', Mwrite, Mremove⟩⟩⟩
    have Dforce : GD false PySem.Challenge.rw_calltakers_k65_places_seen.prog w K mg base "_law_force_step" ["state", "box", "stead", "title"] 12 (sp_force Λ (He.ga K "Places") (He.ga K "Replacement")) := ⟨⟨_, _, He.glo_ok X G (c.d.fact 12 (f := .glo "_law_force_step") rfl), F__law_force_step.kp, b__law_force_step, ok_force (funC_of (p := ("_law_force_step", none)) F__law_force_step) (TB _ (by decide)) u3.1 u3.2 T8' ⟨Dtake, Dval3, GR', Mrepl, Mbegin, Mend, Pin⟩⟩⟩
    have t0 := tup0_ok (exL_at c 9 (f := fun K => tup0B (He.dflAt ("Places", some "__init__") 0) K))
    exact ok_law F_law ⟨n_range, n_max, n_min, n_len, n_dict, t0.1, t0.2⟩ ⟨Dbeg.up, Dnames.up, Dtake.up, Dpick.up, Dval3.up, Dshuf.up, Mpl.up, Mpl0.up, Dheld.up, Dforce.up, Dright⟩

end Z
open PySem PySem.W PySem.Calls PyProof.Rows
set_option maxRecDepth 100000 in
set_option maxHeartbeats 0 in
theorem PySem.Challenge.cw_calltakers_k65_places_seen_holds : PySem.Challenge.rw_calltakers_k65_places_seen.Holds := by
  w_on; o_law
  refine HandSHeadRun.head_any (r := Z.rowL) (q := view Z.rowL.prog [32]) (H := Z.hkL) (ob := Z.obL) (M := 3000) (loose := Z.looseL) (d := HandSHeadRun.topDef Z.rowL.prog 32) (kwd := []) Z.obL_eq
    (by kernel_rfl) (fun s => by kernel_rfl) Z.runL (by kernel_rfl) (by kernel_rfl) (by kernel_rfl) (by rfl) (by first | assumption | decide +kernel) (by decide +kernel) ⟨rfl, rfl, rfl, rfl, rfl, by decide +kernel⟩ ?hw ?hc
  case hw => w_witness2
  case hc =>
    refine Z.walk_G (l := PySem.Challenge.rw_calltakers_k65_places_seen) (n := 63) (k := 13) (x := "script") rfl (by decide) (by kernel_rfl) ⟨rfl, by decide, by decide⟩ ?F
    intro w mg fa h Y G hmg0
    obtain ⟨K, KX, c⟩ := Y
    have hmg : mg ("law" : PySem.Str) = some (.ref fa) := by
      have e : (HandSHeadRun.topDef Z.rowL.prog 32).name = ("law" : PySem.Str) := by kernel_rfl
      rw [← e]
      exact hmg0
    exact ⟨K, KX, Z.factsL KX G hmg c⟩

end
