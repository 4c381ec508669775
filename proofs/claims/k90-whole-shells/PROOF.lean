import PyProof.Rows.All
import Wide.All
import OpenK.AllK
import Wide.FinOn
import HandS.ForMost
import HandS.More
import HandS.Exc
import HandS.Defaults
import HandS.WordsExc
import HandS.TupAny
import HandS.Wide
import HandS.HeadHook4
import HandS.ExcInit
import HandS.ExcField
import HandS.ExcIs
import HandS.ExcSuper
import KE.KExcSuper
import KE.KSuperObj
import KE.KStateDown
import HandS.Head0
import HandS.Head1
import HandS.Head2
import HandS.HeadEnd
import HandS.Walk
import KE.GoesEnum
import KE.GoesZip
import HandS.IsInst
import HandS.Style
import HandS.Star
import PyProof.Rows.MatchSeqLen
import HandS.Nested
import HandS.HotCalls
import HandS.RaiseMore
import HandS.SetFor
import HandS.Zip
import HandS.Flt
import HandS.TryOnly
import HandS.Property
import HandS.SlotsOwn
import PyProof.Rows.Range3
import HandS.MethStar
import KE.KCallOwn
import HandS.FStr
import KE.GoesMore
import HandS.Records
import PyProof.StrBlock2
import HandS.TryMany
import HandS.Conv
import PyProof.NeKinds
import KE.KNestM
import HandS.HeadWalk
import PySem.Challenge.RW_twobricks_k90_whole_shells_and_methods
set_option Elab.async false
set_option linter.all false
set_option maxRecDepth 100000
namespace TB
open PySem PySem.Spec PyProof.Rows L2
/-! ### the heap kept, but for some addresses -/
structure Kp (S : List Addr) (H H' : Hp) : Prop where
  old : ∀ a o, H a = some o → a ∉ S → H' a = some o
  tup : ∀ a xs, H a = some (.tup xs) → H' a = some (.tup xs)
theorem Kp.refl {S : List Addr} {H : Hp} : Kp S H H := ⟨fun _ _ h _ => h, fun _ _ h => h⟩
theorem Kp.trans {S : List Addr} {H H1 H2 : Hp} (a : Kp S H H1) (b : Kp S H1 H2) : Kp S H H2 :=
  ⟨fun x o h n => b.old x o (a.old x o h n) n, fun x o h => b.tup x o (a.tup x o h)⟩
theorem Kp.mono {S S' : List Addr} {H H' : Hp} (a : Kp S H H') (h : ∀ x ∈ S, x ∈ S') : Kp S' H H' :=
  ⟨fun x o e n => a.old x o e fun q => n (h x q), a.tup⟩
theorem Kp.nil {S : List Addr} {H H' : Hp} (a : Kp [] H H') : Kp S H H' := a.mono fun _ h => nomatch h
theorem Kp.upd {S : List Addr} {H : Hp} {p : Addr} {o : HO} (h : H p = none) : Kp S H (L2.upd H p o) :=
  ⟨fun a u e _ => by rw [upd_ne (ne_of_none e h)]; exact e, fun a u e => by rw [upd_ne (ne_of_none e h)]; exact e⟩
theorem Kp.wr {S : List Addr} {H : Hp} {p : Addr} {o u : HO} (h : H p = some u) (hu : ∀ xs, u ≠ .tup xs) (hp : p ∈ S) : Kp S H (L2.upd H p o) :=
  ⟨fun a v e n => by rw [upd_ne (fun q => n (by rw [q]; exact hp))]; exact e, fun a xs e => by rw [upd_ne (ne_of e h (fun q => hu xs q.symm))]; exact e⟩
theorem Kp.same {H H' : Hp} (a : Kp [] H H') : Same H H' := fun b o e => a.old b o e (fun q => nomatch q)
theorem Kp.of {S : List Addr} {H H' : Hp} (a : Same H H') : Kp S H H' := ⟨fun b o e _ => a b o e, fun b o e => a b _ e⟩
/-- p was free ahead of it -/
theorem Kp.free {H H' : Hp} (a : Kp [] H H') {p : Addr} (h : H' p = none) : H p = none := by
  cases e : H p with
  | none => rfl
  | some o => rw [a.old p o e (fun q => nomatch q)] at h; cases h
/-! ### tuples, lists -/
def Tu (H : Hp) (v : V) (xs : List V) : Prop := ∃ a, v = .ref a ∧ H a = some (.tup xs)
theorem Tu.kp {S : List Addr} {H H' : Hp} {v : V} {xs : List V} (h : Tu H v xs) (k : Kp S H H') : Tu H' v xs :=
  let ⟨a, e, h⟩ := h; ⟨a, e, k.tup a xs h⟩
theorem Tu.new {H : Hp} {p : Addr} {xs : List V} : Tu (upd H p (.tup xs)) (.ref p) xs := ⟨p, rfl, upd_same⟩
/-- a tuple of ints -/
abbrev Ti (H : Hp) (v : V) (ns : List Int) : Prop := Tu H v (ns.map V.int)
/-- a pair of tuples of ints -/
def TP2 (H : Hp) (v : V) (one other : List Int) : Prop := ∃ x y, Tu H v [x, y] ∧ Ti H x one ∧ Ti H y other
theorem TP2.kp {S : List Addr} {H H' : Hp} {v : V} {a b : List Int} (h : TP2 H v a b) (k : Kp S H H') : TP2 H' v a b :=
  let ⟨x, y, h1, h2, h3⟩ := h; ⟨x, y, h1.kp k, h2.kp k, h3.kp k⟩
def Ls (H : Hp) (v : V) (xs : List V) : Prop := ∃ a, v = .ref a ∧ H a = some (.lst xs)
theorem Ls.kp {H H' : Hp} {v : V} {xs : List V} (h : Ls H v xs) (k : Kp [] H H') : Ls H' v xs :=
  let ⟨a, e, h⟩ := h; ⟨a, e, k.old a _ h (fun q => nomatch q)⟩
theorem small {n : Nat} (h : n ≤ 1000) : n ≤ sizeLine := Nat.le_of_lt (small1000 h)
section
variable {X : Cx} {e : Expr} {es : List Expr} {te : TE} {t : L2.TA} {pos p : Pos} {x : Str}
/-! ### calls by positional promises -/
def tCallR (sp : Sp) (E : XK) (t : L2.TA) : TE := fun σ H Q => t σ H fun vs H1 => sp vs H1 Q E
theorem wp_fnR {pins : List (Addr × Obj)} {σ : L2.St} {H : Hp} {s : Shared} {CX : CXT} {k j : Nat} {f : Addr} {sp : Sp} {E : XK} {Q : VK} {us : List Value} {vs : List V} (F : FnR X.prog X.w X.K X.mg X.base CX k f sp) (hr : Room j X.A) (hk : k ≤ j) (hx : Passes CX X E) (I : Inv X pins σ H s) (r : Vals vs us) (h : sp vs H Q E) :
    wpAny (model X.prog X.w) X.A (call (.ref f) us) (EP X pins σ Q) X.xe s := wpAny_call (run_fnR F (hr.mono hk) hx I r h)
/-- f(e, ..), by a positional promise -/
theorem pe_f {CX : CXT} {k j : Nat} {f : Addr} {sp : Sp} {E : XK} (F : FnR X.prog X.w X.K X.mg X.base CX k f sp) (hm : X.mg x = some (.ref f)) (hk : PySem.W.keepIn X.K (.ref f) = true) (hr : Room j X.A) (ha : PA X (e :: es) t) (hx : Passes CX X E := by first | exact pass0 | exact passL)
    (hkj : k ≤ j := by decide) (hg : Gl X x := by rfl) (hdb : (x == ("__debug__" : Str)) = false := by decide) (he : starEach (e :: es) X.env = (false, eval e X.env) :: starEach es X.env := by rfl) (hpl : (backTo pos (starEach es X.env)).any (·.1) = false := by rfl) :
    PE X (.Call (.Name x p) (e :: es) [] pos) (tCallR sp E t) := by
  refine ⟨fun pins s σ H Q I h => ?_⟩
  refine wpAny_Call_Name_kw (ld_glob I hg hm ?_ hdb)
  refine PySem.W.callWith_K (h₀ := X.base) I.ok.mod.kin hk (thn (ha.run pos pins s σ H _ I h) fun us s1 ⟨vs, H1, I1, r, q⟩ => ⟨I1.kIn, ?_⟩) he hpl
  exact wp_fnR F hr hkj hx I1 r q
/-! ### a module's constants -/
theorem pe_gi {i : Int} (hm : ∃ t, X.mg x = some (.int i t)) (hg : Gl X x := by rfl) (hd : (x == ("__debug__" : Str)) = false := by decide) : PE X (.Name x pos) (tC (.int i)) :=
  let ⟨t, h⟩ := hm; pe_glob hg h ⟨t, rfl⟩ hd
theorem pe_gs {z : Str} (hm : ∃ t, X.mg x = some (.str z t)) (hg : Gl X x := by rfl) (hd : (x == ("__debug__" : Str)) = false := by decide) : PE X (.Name x pos) (tC (.str z)) :=
  let ⟨t, h⟩ := hm; pe_glob hg h ⟨t, rfl⟩ hd
/-! ### displays, with what is new told by kept heaps -/
def tTupU (t : L2.TA) : TE := fun σ H Q => t σ H fun xs H1 => xs.length ≤ 1000 ∧ ∀ v H', Kp [] H1 H' → Tu H' v xs → Q v H'
def tLstU (t : L2.TA) : TE := fun σ H Q => t σ H fun xs H1 => xs.length ≤ 1000 ∧ ∀ p H', H1 p = none → Kp [] H1 H' → H' p = some (.lst xs) → Q (.ref p) H'
theorem pe_tupU {x1} (h : PA X es t) : PE X (.Tuple es x1 pos) (tTupU t) := by
  refine ⟨fun pins s σ H Q I hq => ?_⟩
  refine wpAny_Tuple_spliced (thn (h.run pos pins s σ H _ I hq) fun us s1 ⟨xs, H1, I1, r, z, q⟩ => ⟨by rw [← r.length]; exact small z, ?_⟩)
  have hf : H1 s1.heap.objs.size = none := I1.hok.fresh (Nat.le_refl _)
  refine ⟨.ref s1.heap.objs.size, upd H1 s1.heap.objs.size (.tup xs), I1.laid (t' := s1.toks) (fun b u e => Heap.get?_push_of_some _ e) (Nat.le_refl _) ?_, rfl, q _ _ (.upd hf) .new⟩
  exact ⟨small z, us, r, ⟨_, Heap.get?_push_size _ rfl, rfl, _, rfl⟩⟩
theorem pe_lstU (h : PA X es t) : PE X (.List es pos) (tLstU t) := by
  refine ⟨fun pins s σ H Q I hq => ?_⟩
  refine wpAny_List_spliced (thn (h.run pos pins s σ H _ I hq) fun us s1 ⟨xs, H1, I1, r, z, q⟩ => ⟨by rw [← r.length]; exact small z, ?_⟩)
  have hf : H1 s1.heap.objs.size = none := I1.hok.fresh (Nat.le_refl _)
  refine ⟨.ref s1.heap.objs.size, upd H1 s1.heap.objs.size (.lst xs), I1.laid (t' := s1.toks) (fun b u e => Heap.get?_push_of_some _ e) (Nat.le_refl _) ?_, rfl, q _ _ hf (.upd hf) upd_same⟩
  exact ⟨small z, us, 0, r, Heap.get?_push_size _ rfl⟩
/-! ### tuples by values -/
theorem OpR.imp {f : Value → Value → Sem Value} {r r' : R2} (h : OpR X f r) (i : ∀ x y H Q, r' x y H Q → r x y H Q) : OpR X f r' :=
  fun pins s σ H x y v u Q I rx ry q => h pins s σ H x y v u Q I rx ry (i x y H Q q)
theorem CallR.imp {f : Value} {r r' : List V → Hp → VK → Prop} (h : CallR X f r) (i : ∀ xs H Q, r' xs H Q → r xs H Q) : CallR X f r' :=
  fun pins s σ H xs us Q I rx q => h pins s σ H xs us Q I rx (i xs H Q q)
theorem SlR.imp {r r' : V → Option Int → Option Int → Hp → VK → Prop} (h : SlR X r) (i : ∀ x a b H Q, r' x a b H Q → r x a b H Q) : SlR X r' :=
  fun pins s σ H x v vl vu lo hi sl Q I rx hs pl pu q => h pins s σ H x v vl vu lo hi sl Q I rx hs pl pu (i x lo hi H Q q)
theorem IxR.imp {r r' : R2} (h : IxR X r) (i : ∀ x y H Q, r' x y H Q → r x y H Q) : IxR X r' :=
  fun va sl pins s σ H x y v u Q I rx ry q => h va sl pins s σ H x y v u Q I rx ry (i x y H Q q)
theorem MtR.imp {id : String} {r r' : V → List V → Hp → VK → Prop} (h : MtR X id r) (i : ∀ x xs H Q, r' x xs H Q → r x xs H Q) : MtR X id r' :=
  fun pins s σ H x xs v us Q I rx rs q => h pins s σ H x xs v us Q I rx rs (i x xs H Q q)
def rCatU : R2 := fun x y H Q => ∃ xs ys, Tu H x xs ∧ Tu H y ys ∧ xs.length + ys.length ≤ 1000 ∧ ∀ v H', Kp [] H H' → Tu H' v (xs ++ ys) → Q v H'
theorem op_catU : OpR X (binaryOp .Add) rCatU := OpR.imp op_catA fun x y H Q ⟨xs, ys, ⟨a, e1, h1⟩, ⟨b, e2, h2⟩, hl, q⟩ =>
  ⟨a, b, xs, ys, e1, e2, SqT.of h1, SqT.of h2, small hl, fun z => q _ _ .refl ⟨b, rfl, by rw [z]; exact h2⟩, fun _ z => q _ _ .refl ⟨a, rfl, by rw [z, List.append_nil]; exact h1⟩, fun _ _ p hp => q _ _ (.upd hp) .new⟩
def rSlU : V → Option Int → Option Int → Hp → VK → Prop := fun x lo hi H Q => ∃ xs, Tu H x xs ∧ ∀ v H', Kp [] H H' → Tu H' v (cutV xs lo hi) → Q v H'
theorem cutV_whole {xs : List V} {lo hi : Option Int} (h : HT.sIx xs.length 0 lo = 0 ∧ HT.sIx xs.length xs.length hi = xs.length) : cutV xs lo hi = xs := by
  unfold cutV; rw [h.1, h.2]; simp
theorem sl_tupU : SlR X rSlU := SlR.imp sl_tupA fun x lo hi H Q ⟨xs, ⟨a, e1, h1⟩, q⟩ =>
  ⟨a, xs, e1, SqT.of h1, fun z => q _ _ .refl ⟨a, rfl, by rw [cutV_whole z]; exact h1⟩, fun _ p hp => q _ _ (.upd hp) .new⟩
/-- t[i] of a tuple, i within it -/
def rIxU : R2 := fun x y H Q => ∃ xs i v, Tu H x xs ∧ y = .int i ∧ atI xs i = some v ∧ Q v H
theorem ix_tupU : IxR X rIxU := IxR.imp ix_tup fun x y H Q ⟨xs, i, v, ⟨a, e1, h1⟩, e2, h2, q⟩ => ⟨a, xs, i, v, e1, e2, SqT.of h1, h2, q⟩
def rIxLU : R2 := fun x y H Q => ∃ xs i v, Ls H x xs ∧ y = .int i ∧ atI xs i = some v ∧ Q v H
theorem ix_listU : IxR X rIxLU := IxR.imp ix_list fun x y H Q ⟨xs, i, v, ⟨a, e1, h1⟩, e2, h2, q⟩ => ⟨a, xs, i, v, e1, e2, SqL.of h1, h2, q⟩
end
theorem PG.imp {X : Cx} {e : Expr} {t t' : TG} (h : PG X e t) (i : ∀ v σ H Q, t' v σ H Q → t v σ H Q) : PG X e t' :=
  ⟨fun pins s σ H v u Q I r q => h.run pins s σ H v u Q I r (i v σ H Q q)⟩
/-- (a, b, ..) = a tuple -/
def gTupU (n : Nat) (t : TGs) : TG := fun v σ H Q => ∃ xs, Tu H v xs ∧ xs.length = n ∧ t xs σ H Q
theorem pg_tupU {X : Cx} {pos : Pos} {es : List Expr} {k : Nat} {t : TGs} {n : Nat} (hc : X.calm = true) (h : PGs X es t)
    (hn : (assignEach es X.env).length = n := by rfl) (hst : (assignEach es X.env).findIdx? (·.1) = none := by rfl) : PG X (.Tuple es k pos) (gTupU n t) :=
  PG.imp (pg_tup hc h hn hst) fun v σ H Q ⟨xs, ⟨a, e, h⟩, hl, q⟩ => ⟨a, xs, e, SqT.of h, hl, q⟩
/-- while, by an invariant with a measure; the test's reading as it is -/
theorem while_m {c : TT} {tb : TS} {D : Ends} {σ : L2.St} {H : Hp} (W : Nat → L2.St → Hp → Prop) (m : Nat) (h0 : W m σ H)
    (hs : ∀ m σ H, W m σ H → c σ H fun b H1 => if b = true then ∃ N : L2.St → Hp → Prop, (∀ σ' H', N σ' H' → ∃ m', m' < m ∧ W m' σ' H') ∧ tb { D with nx := N, ct := N, bk := D.nx } σ H1 else D.nx σ H1) : tWhile c tb D σ H := ⟨W, ⟨m, h0⟩, hs⟩
/-! ### a def by its body -/
section
variable {P : Program} {w : World} {K : PySem.W.Frag} {mg : Str → Option Value} {base : Heap} {x qual : Str} {st : Stmt} {f : Addr} {N ps : List Str} {k : Nat} {sp : Sp}
theorem fnr0 (F : ∃ fd, FunD K x qual (defArgs st) (defBody st) (defScope st) [] [] f fd) (S : FnScope N ps (defScope st)) (len : ∀ vs H Q E, sp vs H Q E → vs.length = ps.length)
    (hb : ∀ (kV doc pm : Value) (an : Option Addr) (cdv ct : Value) (us : List Value), us.length = ps.length → bindArgs (PySem.W.fnOf x qual (defArgs st) (defBody st) (defScope st) .none kV doc pm an cdv ct) ⟨us, []⟩ = pure (ps.zip us))
    (hbody : ∀ (cdv : Value) (A : Around) (outer : List Env) (s : Shared) (H : Hp) (vs : List V) (Q : VK) (E : XK), Room k (A.deeper (envOfC qual (defScope st) s.heap.objs.size f cdv)) → sp vs H Q E →
      ∃ t, PSs (cxOf CX0 P w K mg base N qual (defScope st) f cdv A outer s H E).nox (defBody st) t ∧ t { nx := fun _ H' => Q .non H', rt := Q } (start N vs) H) : FnR P w K mg base CX0 (k + 1) f sp := by
  obtain ⟨fd, F⟩ := F
  have G := F.ok (P := P) (w := w) (mg := mg) (base := base) (CX := CX0) S len fun cdv A outer s H vs Q E hr h => let ⟨t, p, q⟩ := hbody cdv A outer s H vs Q E hr h; ⟨t, PSs.nox p, q⟩
  have := FnOk.raw G (F.bindsN hb) .nil
  exact this.imp fun vs H Q E h => by rw [List.append_nil]; exact h
theorem fnrX (F : ∃ fd, FunD K x qual (defArgs st) (defBody st) (defScope st) [] [] f fd) (S : FnScope N ps (defScope st)) (len : ∀ vs H Q E, sp vs H Q E → vs.length = ps.length)
    (hb : ∀ (kV doc pm : Value) (an : Option Addr) (cdv ct : Value) (us : List Value), us.length = ps.length → bindArgs (PySem.W.fnOf x qual (defArgs st) (defBody st) (defScope st) .none kV doc pm an cdv ct) ⟨us, []⟩ = pure (ps.zip us))
    (hbody : ∀ (cdv : Value) (A : Around) (outer : List Env) (s : Shared) (H : Hp) (vs : List V) (Q : VK) (E : XK), Room k (A.deeper (envOfC qual (defScope st) s.heap.objs.size f cdv)) → sp vs H Q E →
      ∃ t, PSs (cxOf (L2.CX P w) P w K mg base N qual (defScope st) f cdv A outer s H E) (defBody st) t ∧ t { nx := fun _ H' => Q .non H', rt := Q } (start N vs) H) : FnR P w K mg base (L2.CX P w) (k + 1) f sp := by
  obtain ⟨fd, F⟩ := F
  have G := F.ok (P := P) (w := w) (mg := mg) (base := base) (CX := L2.CX P w) S len hbody
  have := FnOk.raw G (F.bindsN hb) .nil
  exact this.imp fun vs H Q E h => by rw [List.append_nil]; exact h
end
/-! ### the text -/
def top (i : Nat) : Stmt := PySem.Challenge.pw_twobricks_k90_whole_shells_and_methods.main.body.getD i (.Pass ⟨0, 0, 0, 0⟩)
end TB
namespace TB
open PySem PySem.Spec PyProof.Rows L2
/-! ### facts of the top: written by gen_facts.py -/
/-- a property's getter -/
def pg (K : PySem.W.Frag) (C p : Str) : Addr := match (PySem.W.recIn K (He.ma K (He.ga K C) p) "property").bind (·.head?) with
  | some (.ref g) => g
  | _ => 0
/-- NoAxis.__init__ -/
def iaN (K : PySem.W.Frag) : Addr := He.ma K (He.ga K "NoAxis") "__init__"
abbrev PW : Program := PySem.Challenge.pw_twobricks_k90_whole_shells_and_methods
/-- an own class over ValueError with a dict -/
def oexB (K : PySem.W.Frag) (C : Addr) : Bool := match K.lookup C with
  | some ⟨.type "type", _, .cls cd, sl⟩ => (match cd.mro, sl.toList with
    | .ref C' :: bm, [_, _, _, _, some (.builtin n), _] => C' == C && n == "ValueError.__new__" && !cd.hasDel && cd.hasDict && PySem.HandSPX.refsVE bm
    | _, _ => false)
  | _ => false
theorem oexB_ok {K : PySem.W.Frag} {C : Addr} (h : oexB K C = true) : ∃ nm q N bs bm sn sub ab col dd k0 k1 k2 k3 k5, K.lookup C = some (excClassObj nm q C N bs bm true sn sub ab col dd k0 k1 k2 k3 k5 "ValueError.__new__") ∧ PySem.HandSPX.refsVE bm = true := by
  unfold oexB at h
  split at h
  · rename_i dd cd sl lk
    split at h
    · rename_i C' bm k0 k1 k2 k3 n k5 hm hs
      simp only [Bool.and_eq_true, beq_iff_eq, Bool.not_eq_true'] at h
      obtain ⟨⟨⟨⟨rfl, rfl⟩, hd⟩, hh⟩, hr⟩ := h
      obtain ⟨nm, bs, mro, N, qn, hdc, sn, sub, ab, col, hdel⟩ := cd
      obtain ⟨sl⟩ := sl
      simp only at hm hs hd hh
      subst hm hs hd hh
      exact ⟨_, _, _, _, _, _, _, _, _, _, _, _, _, _, _, lk, hr⟩
    · cases h
  · cases h
/-- its __init__: the cell of its class, its code's file -/
def naB (K : PySem.W.Frag) : Bool := match K.lookup (iaN K) with
  | some ⟨_, _, .func fd, _⟩ => PySem.W.codeIn K fd.code "NoAxis.__init__" && He.dflB K fd.defaults [] && (match fd.closure with
      | [(_, cc)] => (match K.lookup cc with
        | some ⟨_, _, .cell (some (.ref c)), _⟩ => c == He.ga K "NoAxis"
        | _ => false)
      | _ => false) && (match fd.code with
      | .ref c => (match K.lookup c with
        | some ⟨_, _, .fields vs, _⟩ => (match vs.toList with
          | _ :: _ :: .str f _ :: _ => f == PW.main.file
          | _ => false)
        | _ => false)
      | _ => false)
  | _ => false
abbrev s_first_name : Stmt := top 28
abbrev s_name_of : Stmt := top 29
abbrev s_is_integer : Stmt := top 31
abbrev s_sides_error : Stmt := top 32
abbrev s_kinds_error : Stmt := top 33
abbrev s_pair_error : Stmt := top 34
abbrev s_box_error : Stmt := top 35
abbrev s_with_side : Stmt := top 36
abbrev s_common : Stmt := top 38
abbrev s_joint : Stmt := top 39
abbrev s_inverse : Stmt := top 40
abbrev s_least_times : Stmt := top 41
abbrev s_is_sum : Stmt := top 42
abbrev s_floors : Stmt := top 43
abbrev s_count_sums : Stmt := top 44
abbrev s_rests_papers : Stmt := top 50
abbrev s_bar_along : Stmt := top 52
abbrev s_crossing : Stmt := top 53
abbrev s_paper : Stmt := top 54
abbrev s_is_filled : Stmt := top 56
abbrev s_all_cuts : Stmt := top 58
abbrev s_count_cuts : Stmt := top 59
abbrev s_cut_at : Stmt := top 60
abbrev s_sums_of : Stmt := top 65
abbrev s_rests_sizes : Stmt := top 66
abbrev s_along : Stmt := top 68
abbrev s_count_by : Stmt := top 69
abbrev s_least_with : Stmt := top 70
abbrev s_sum_at : Stmt := top 71
abbrev s_numbered : Stmt := top 72
abbrev s_next_side : Stmt := top 73
abbrev s_is_number : Stmt := top 77
abbrev s_fits : Stmt := top 78
abbrev s_spoken : Stmt := top 79
abbrev s_sides_text : Stmt := top 82
abbrev s_kinds_text : Stmt := top 83
abbrev s_require_axis : Stmt := top 88
abbrev s_require_side : Stmt := top 89
abbrev s_put_side : Stmt := top 90
abbrev s_put_brick : Stmt := top 91
abbrev s_swapped : Stmt := top 92
abbrev s_is_order : Stmt := top 93
abbrev s_turned : Stmt := top 94
abbrev s_stretched : Stmt := top 95
abbrev s_more : Stmt := top 96
abbrev s__law_deck : Stmt := top 102
abbrev s__law_draw : Stmt := top 103
abbrev s__law_one : Stmt := top 104
abbrev s__law_mixed : Stmt := top 105
abbrev s__law_divisor : Stmt := top 106
abbrev s__law_sides : Stmt := top 107
abbrev s__law_pair : Stmt := top 108
abbrev s__law_lcm : Stmt := top 109
abbrev s__law_cut_box : Stmt := top 110
abbrev s__law_plain_box : Stmt := top 111
abbrev s__law_do : Stmt := top 112
abbrev s__law_done : Stmt := top 113
abbrev s__law_says : Stmt := top 114
abbrev s__law_start : Stmt := top 115
abbrev s__law_words : Stmt := top 116
abbrev s__law_line_edit : Stmt := top 117
abbrev s__law_is_right : Stmt := top 118
abbrev s_law : Stmt := top 119
abbrev s_Cuts_init : Stmt := inClass (top 57) 0
abbrev s_Cuts_many : Stmt := inClass (top 57) 1
abbrev s_Cuts_spot : Stmt := inClass (top 57) 2
abbrev s_Shell_init : Stmt := inClass (top 80) 0
abbrev s_Shell_call : Stmt := inClass (top 80) 2
abbrev s_Shell_execute : Stmt := inClass (top 80) 3
abbrev s_Shell_answer : Stmt := inClass (top 80) 4
abbrev s_Shell_told : Stmt := inClass (top 80) 5
abbrev s_Shell_sizes : Stmt := inClass (top 80) 6
abbrev s_Yard_init : Stmt := inClass (top 100) 1
abbrev s_Yard_stand : Stmt := inClass (top 100) 2
abbrev s_Yard_judge : Stmt := inClass (top 100) 8
abbrev s_Yard_require_free : Stmt := inClass (top 100) 9
abbrev s_Yard_tell : Stmt := inClass (top 100) 10
abbrev s_Yard_do : Stmt := inClass (top 100) 11
abbrev s_Yard_edit : Stmt := inClass (top 100) 12
abbrev s_Yard_side : Stmt := inClass (top 100) 13
abbrev s_Yard_brick : Stmt := inClass (top 100) 14
abbrev s_Yard_swap : Stmt := inClass (top 100) 15
abbrev s_Yard_turn : Stmt := inClass (top 100) 16
abbrev s_Yard_stretch : Stmt := inClass (top 100) 17
abbrev s_Yard_undo : Stmt := inClass (top 100) 18
abbrev s_Yard_state_at : Stmt := inClass (top 100) 21
abbrev s_Yard_iadd : Stmt := inClass (top 100) 27
abbrev s_Yard_bool : Stmt := inClass (top 100) 29
abbrev s_Yard_str : Stmt := inClass (top 100) 31
abbrev s_Yard_eq : Stmt := inClass (top 100) 32
abbrev s_Shell_heard : Stmt := inClass (top 80) 1
abbrev s_Yard_pair : Stmt := inClass (top 100) 3
abbrev s_Yard_box : Stmt := inClass (top 100) 4
abbrev s_Yard_version : Stmt := inClass (top 100) 5
abbrev s_Yard_news : Stmt := inClass (top 100) 6
abbrev s_Yard_paper : Stmt := inClass (top 100) 7
def d_first_name : He.DefD := ⟨("first_name", none), "first_name", "first_name", defArgs s_first_name, defBody s_first_name, defScope s_first_name, [], []⟩
def d_name_of : He.DefD := ⟨("name_of", none), "name_of", "name_of", defArgs s_name_of, defBody s_name_of, defScope s_name_of, [], []⟩
def d_is_integer : He.DefD := ⟨("is_integer", none), "is_integer", "is_integer", defArgs s_is_integer, defBody s_is_integer, defScope s_is_integer, [], []⟩
def d_sides_error : He.DefD := ⟨("sides_error", none), "sides_error", "sides_error", defArgs s_sides_error, defBody s_sides_error, defScope s_sides_error, [], []⟩
def d_kinds_error : He.DefD := ⟨("kinds_error", none), "kinds_error", "kinds_error", defArgs s_kinds_error, defBody s_kinds_error, defScope s_kinds_error, [], []⟩
def d_pair_error : He.DefD := ⟨("pair_error", none), "pair_error", "pair_error", defArgs s_pair_error, defBody s_pair_error, defScope s_pair_error, [], []⟩
def d_box_error : He.DefD := ⟨("box_error", none), "box_error", "box_error", defArgs s_box_error, defBody s_box_error, defScope s_box_error, [], []⟩
def d_with_side : He.DefD := ⟨("with_side", none), "with_side", "with_side", defArgs s_with_side, defBody s_with_side, defScope s_with_side, [], []⟩
def d_common : He.DefD := ⟨("common", none), "common", "common", defArgs s_common, defBody s_common, defScope s_common, [], []⟩
def d_joint : He.DefD := ⟨("joint", none), "joint", "joint", defArgs s_joint, defBody s_joint, defScope s_joint, [], []⟩
def d_inverse : He.DefD := ⟨("inverse", none), "inverse", "inverse", defArgs s_inverse, defBody s_inverse, defScope s_inverse, [], []⟩
def d_least_times : He.DefD := ⟨("least_times", none), "least_times", "least_times", defArgs s_least_times, defBody s_least_times, defScope s_least_times, [], []⟩
def d_is_sum : He.DefD := ⟨("is_sum", none), "is_sum", "is_sum", defArgs s_is_sum, defBody s_is_sum, defScope s_is_sum, [], []⟩
def d_floors : He.DefD := ⟨("floors", none), "floors", "floors", defArgs s_floors, defBody s_floors, defScope s_floors, [], []⟩
def d_count_sums : He.DefD := ⟨("count_sums", none), "count_sums", "count_sums", defArgs s_count_sums, defBody s_count_sums, defScope s_count_sums, [], []⟩
def d_rests_papers : He.DefD := ⟨("rests_papers", none), "rests", "rests", defArgs s_rests_papers, defBody s_rests_papers, defScope s_rests_papers, [], []⟩
def d_bar_along : He.DefD := ⟨("bar_along", none), "bar_along", "bar_along", defArgs s_bar_along, defBody s_bar_along, defScope s_bar_along, [], []⟩
def d_crossing : He.DefD := ⟨("crossing", none), "crossing", "crossing", defArgs s_crossing, defBody s_crossing, defScope s_crossing, [], []⟩
def d_paper : He.DefD := ⟨("paper", none), "paper", "paper", defArgs s_paper, defBody s_paper, defScope s_paper, [], []⟩
def d_is_filled : He.DefD := ⟨("is_filled", none), "is_filled", "is_filled", defArgs s_is_filled, defBody s_is_filled, defScope s_is_filled, [], []⟩
def d_all_cuts : He.DefD := ⟨("all_cuts", none), "all_cuts", "all_cuts", defArgs s_all_cuts, defBody s_all_cuts, defScope s_all_cuts, [], []⟩
def d_count_cuts : He.DefD := ⟨("count_cuts", none), "count_cuts", "count_cuts", defArgs s_count_cuts, defBody s_count_cuts, defScope s_count_cuts, [], []⟩
def d_cut_at : He.DefD := ⟨("cut_at", none), "cut_at", "cut_at", defArgs s_cut_at, defBody s_cut_at, defScope s_cut_at, [], []⟩
def d_sums_of : He.DefD := ⟨("sums_of", none), "sums_of", "sums_of", defArgs s_sums_of, defBody s_sums_of, defScope s_sums_of, [], []⟩
def d_rests_sizes : He.DefD := ⟨("rests_sizes", none), "rests", "rests", defArgs s_rests_sizes, defBody s_rests_sizes, defScope s_rests_sizes, [], []⟩
def d_along : He.DefD := ⟨("along", none), "along", "along", defArgs s_along, defBody s_along, defScope s_along, [], []⟩
def d_count_by : He.DefD := ⟨("count_by", none), "count_by", "count_by", defArgs s_count_by, defBody s_count_by, defScope s_count_by, [], []⟩
def d_least_with : He.DefD := ⟨("least_with", none), "least_with", "least_with", defArgs s_least_with, defBody s_least_with, defScope s_least_with, [], []⟩
def d_sum_at : He.DefD := ⟨("sum_at", none), "sum_at", "sum_at", defArgs s_sum_at, defBody s_sum_at, defScope s_sum_at, [], []⟩
def d_numbered : He.DefD := ⟨("numbered", none), "numbered", "numbered", defArgs s_numbered, defBody s_numbered, defScope s_numbered, [], []⟩
def d_next_side : He.DefD := ⟨("next_side", none), "next_side", "next_side", defArgs s_next_side, defBody s_next_side, defScope s_next_side, [], []⟩
def d_is_number : He.DefD := ⟨("is_number", none), "is_number", "is_number", defArgs s_is_number, defBody s_is_number, defScope s_is_number, [], []⟩
def d_fits : He.DefD := ⟨("fits", none), "fits", "fits", defArgs s_fits, defBody s_fits, defScope s_fits, [], []⟩
def d_spoken : He.DefD := ⟨("spoken", none), "spoken", "spoken", defArgs s_spoken, defBody s_spoken, defScope s_spoken, [], []⟩
def d_sides_text : He.DefD := ⟨("sides_text", none), "sides_text", "sides_text", defArgs s_sides_text, defBody s_sides_text, defScope s_sides_text, [], []⟩
def d_kinds_text : He.DefD := ⟨("kinds_text", none), "kinds_text", "kinds_text", defArgs s_kinds_text, defBody s_kinds_text, defScope s_kinds_text, [], []⟩
def d_require_axis : He.DefD := ⟨("require_axis", none), "require_axis", "require_axis", defArgs s_require_axis, defBody s_require_axis, defScope s_require_axis, [], []⟩
def d_require_side : He.DefD := ⟨("require_side", none), "require_side", "require_side", defArgs s_require_side, defBody s_require_side, defScope s_require_side, [], []⟩
def d_put_side : He.DefD := ⟨("put_side", none), "put_side", "put_side", defArgs s_put_side, defBody s_put_side, defScope s_put_side, [], []⟩
def d_put_brick : He.DefD := ⟨("put_brick", none), "put_brick", "put_brick", defArgs s_put_brick, defBody s_put_brick, defScope s_put_brick, [], []⟩
def d_swapped : He.DefD := ⟨("swapped", none), "swapped", "swapped", defArgs s_swapped, defBody s_swapped, defScope s_swapped, [], []⟩
def d_is_order : He.DefD := ⟨("is_order", none), "is_order", "is_order", defArgs s_is_order, defBody s_is_order, defScope s_is_order, [], []⟩
def d_turned : He.DefD := ⟨("turned", none), "turned", "turned", defArgs s_turned, defBody s_turned, defScope s_turned, [], []⟩
def d_stretched : He.DefD := ⟨("stretched", none), "stretched", "stretched", defArgs s_stretched, defBody s_stretched, defScope s_stretched, [], []⟩
def d_more : He.DefD := ⟨("more", none), "more", "more", defArgs s_more, defBody s_more, defScope s_more, [], []⟩
def d__law_deck : He.DefD := ⟨("_law_deck", none), "_law_deck", "_law_deck", defArgs s__law_deck, defBody s__law_deck, defScope s__law_deck, [], []⟩
def d__law_draw : He.DefD := ⟨("_law_draw", none), "_law_draw", "_law_draw", defArgs s__law_draw, defBody s__law_draw, defScope s__law_draw, [], []⟩
def d__law_one : He.DefD := ⟨("_law_one", none), "_law_one", "_law_one", defArgs s__law_one, defBody s__law_one, defScope s__law_one, [], []⟩
def d__law_mixed : He.DefD := ⟨("_law_mixed", none), "_law_mixed", "_law_mixed", defArgs s__law_mixed, defBody s__law_mixed, defScope s__law_mixed, [], []⟩
def d__law_divisor : He.DefD := ⟨("_law_divisor", none), "_law_divisor", "_law_divisor", defArgs s__law_divisor, defBody s__law_divisor, defScope s__law_divisor, [], []⟩
def d__law_sides : He.DefD := ⟨("_law_sides", none), "_law_sides", "_law_sides", defArgs s__law_sides, defBody s__law_sides, defScope s__law_sides, [], []⟩
def d__law_pair : He.DefD := ⟨("_law_pair", none), "_law_pair", "_law_pair", defArgs s__law_pair, defBody s__law_pair, defScope s__law_pair, [], []⟩
def d__law_lcm : He.DefD := ⟨("_law_lcm", none), "_law_lcm", "_law_lcm", defArgs s__law_lcm, defBody s__law_lcm, defScope s__law_lcm, [], []⟩
def d__law_cut_box : He.DefD := ⟨("_law_cut_box", none), "_law_cut_box", "_law_cut_box", defArgs s__law_cut_box, defBody s__law_cut_box, defScope s__law_cut_box, [], []⟩
def d__law_plain_box : He.DefD := ⟨("_law_plain_box", none), "_law_plain_box", "_law_plain_box", defArgs s__law_plain_box, defBody s__law_plain_box, defScope s__law_plain_box, [], []⟩
def d__law_do : He.DefD := ⟨("_law_do", none), "_law_do", "_law_do", defArgs s__law_do, defBody s__law_do, defScope s__law_do, [], []⟩
def d__law_done : He.DefD := ⟨("_law_done", none), "_law_done", "_law_done", defArgs s__law_done, defBody s__law_done, defScope s__law_done, [], []⟩
def d__law_says : He.DefD := ⟨("_law_says", none), "_law_says", "_law_says", defArgs s__law_says, defBody s__law_says, defScope s__law_says, [], []⟩
def d__law_start : He.DefD := ⟨("_law_start", none), "_law_start", "_law_start", defArgs s__law_start, defBody s__law_start, defScope s__law_start, [], []⟩
def d__law_words : He.DefD := ⟨("_law_words", none), "_law_words", "_law_words", defArgs s__law_words, defBody s__law_words, defScope s__law_words, [], []⟩
def d__law_line_edit : He.DefD := ⟨("_law_line_edit", none), "_law_line_edit", "_law_line_edit", defArgs s__law_line_edit, defBody s__law_line_edit, defScope s__law_line_edit, [], []⟩
def d__law_is_right : He.DefD := ⟨("_law_is_right", none), "_law_is_right", "_law_is_right", defArgs s__law_is_right, defBody s__law_is_right, defScope s__law_is_right, [], []⟩
def d_law : He.DefD := ⟨("law", none), "law", "law", defArgs s_law, defBody s_law, defScope s_law, [], []⟩
def d_Cuts_init : He.DefD := ⟨("Cuts", some "__init__"), "__init__", "Cuts.__init__", defArgs s_Cuts_init, defBody s_Cuts_init, defScope s_Cuts_init, [], []⟩
def d_Cuts_many : He.DefD := ⟨("Cuts", some "many"), "many", "Cuts.many", defArgs s_Cuts_many, defBody s_Cuts_many, defScope s_Cuts_many, [], []⟩
def d_Cuts_spot : He.DefD := ⟨("Cuts", some "spot"), "spot", "Cuts.spot", defArgs s_Cuts_spot, defBody s_Cuts_spot, defScope s_Cuts_spot, [], []⟩
def d_Shell_init : He.DefD := ⟨("Shell", some "__init__"), "__init__", "Shell.__init__", defArgs s_Shell_init, defBody s_Shell_init, defScope s_Shell_init, [], []⟩
def d_Shell_call : He.DefD := ⟨("Shell", some "__call__"), "__call__", "Shell.__call__", defArgs s_Shell_call, defBody s_Shell_call, defScope s_Shell_call, [], []⟩
def d_Shell_execute : He.DefD := ⟨("Shell", some "execute"), "execute", "Shell.execute", defArgs s_Shell_execute, defBody s_Shell_execute, defScope s_Shell_execute, [], []⟩
def d_Shell_answer : He.DefD := ⟨("Shell", some "answer"), "answer", "Shell.answer", defArgs s_Shell_answer, defBody s_Shell_answer, defScope s_Shell_answer, [], []⟩
def d_Shell_told : He.DefD := ⟨("Shell", some "told"), "told", "Shell.told", defArgs s_Shell_told, defBody s_Shell_told, defScope s_Shell_told, [], []⟩
def d_Shell_sizes : He.DefD := ⟨("Shell", some "sizes"), "sizes", "Shell.sizes", defArgs s_Shell_sizes, defBody s_Shell_sizes, defScope s_Shell_sizes, [], []⟩
def d_Yard_init : He.DefD := ⟨("Yard", some "__init__"), "__init__", "Yard.__init__", defArgs s_Yard_init, defBody s_Yard_init, defScope s_Yard_init, [], []⟩
def d_Yard_stand : He.DefD := ⟨("Yard", some "stand"), "stand", "Yard.stand", defArgs s_Yard_stand, defBody s_Yard_stand, defScope s_Yard_stand, [], []⟩
def d_Yard_judge : He.DefD := ⟨("Yard", some "judge"), "judge", "Yard.judge", defArgs s_Yard_judge, defBody s_Yard_judge, defScope s_Yard_judge, [], []⟩
def d_Yard_require_free : He.DefD := ⟨("Yard", some "require_free"), "require_free", "Yard.require_free", defArgs s_Yard_require_free, defBody s_Yard_require_free, defScope s_Yard_require_free, [], []⟩
def d_Yard_tell : He.DefD := ⟨("Yard", some "tell"), "tell", "Yard.tell", defArgs s_Yard_tell, defBody s_Yard_tell, defScope s_Yard_tell, [], []⟩
def d_Yard_do : He.DefD := ⟨("Yard", some "do"), "do", "Yard.do", defArgs s_Yard_do, defBody s_Yard_do, defScope s_Yard_do, [], []⟩
def d_Yard_edit : He.DefD := ⟨("Yard", some "edit"), "edit", "Yard.edit", defArgs s_Yard_edit, defBody s_Yard_edit, defScope s_Yard_edit, [], []⟩
def d_Yard_side : He.DefD := ⟨("Yard", some "side"), "side", "Yard.side", defArgs s_Yard_side, defBody s_Yard_side, defScope s_Yard_side, [], []⟩
def d_Yard_brick : He.DefD := ⟨("Yard", some "brick"), "brick", "Yard.brick", defArgs s_Yard_brick, defBody s_Yard_brick, defScope s_Yard_brick, [], []⟩
def d_Yard_swap : He.DefD := ⟨("Yard", some "swap"), "swap", "Yard.swap", defArgs s_Yard_swap, defBody s_Yard_swap, defScope s_Yard_swap, [], []⟩
def d_Yard_turn : He.DefD := ⟨("Yard", some "turn"), "turn", "Yard.turn", defArgs s_Yard_turn, defBody s_Yard_turn, defScope s_Yard_turn, [], []⟩
def d_Yard_stretch : He.DefD := ⟨("Yard", some "stretch"), "stretch", "Yard.stretch", defArgs s_Yard_stretch, defBody s_Yard_stretch, defScope s_Yard_stretch, [], []⟩
def d_Yard_undo : He.DefD := ⟨("Yard", some "undo"), "undo", "Yard.undo", defArgs s_Yard_undo, defBody s_Yard_undo, defScope s_Yard_undo, [], []⟩
def d_Yard_state_at : He.DefD := ⟨("Yard", some "state_at"), "state_at", "Yard.state_at", defArgs s_Yard_state_at, defBody s_Yard_state_at, defScope s_Yard_state_at, [], [("version", .non)]⟩
def d_Yard_iadd : He.DefD := ⟨("Yard", some "__iadd__"), "__iadd__", "Yard.__iadd__", defArgs s_Yard_iadd, defBody s_Yard_iadd, defScope s_Yard_iadd, [], []⟩
def d_Yard_bool : He.DefD := ⟨("Yard", some "__bool__"), "__bool__", "Yard.__bool__", defArgs s_Yard_bool, defBody s_Yard_bool, defScope s_Yard_bool, [], []⟩
def d_Yard_str : He.DefD := ⟨("Yard", some "__str__"), "__str__", "Yard.__str__", defArgs s_Yard_str, defBody s_Yard_str, defScope s_Yard_str, [], []⟩
def d_Yard_eq : He.DefD := ⟨("Yard", some "__eq__"), "__eq__", "Yard.__eq__", defArgs s_Yard_eq, defBody s_Yard_eq, defScope s_Yard_eq, [], []⟩
def fn0 : List He.DefD := [d_first_name, d_name_of, d_is_integer, d_sides_error, d_kinds_error, d_pair_error, d_box_error, d_with_side, d_common, d_joint, d_inverse, d_least_times, d_is_sum, d_floors, d_count_sums, d_rests_papers, d_bar_along, d_crossing, d_paper, d_is_filled, d_all_cuts, d_count_cuts, d_cut_at, d_sums_of, d_rests_sizes, d_along, d_count_by, d_least_with, d_sum_at, d_numbered]
def fn1 : List He.DefD := [d_next_side, d_is_number, d_fits, d_spoken, d_sides_text, d_kinds_text, d_require_axis, d_require_side, d_put_side, d_put_brick, d_swapped, d_is_order, d_turned, d_stretched, d_more, d__law_deck, d__law_draw, d__law_one, d__law_mixed, d__law_divisor, d__law_sides, d__law_pair, d__law_lcm, d__law_cut_box, d__law_plain_box, d__law_do, d__law_done, d__law_says, d__law_start, d__law_words]
def fn2 : List He.DefD := [d__law_line_edit, d__law_is_right, d_law, d_Cuts_init, d_Cuts_many, d_Cuts_spot, d_Shell_init, d_Shell_call, d_Shell_execute, d_Shell_answer, d_Shell_told, d_Shell_sizes, d_Yard_init, d_Yard_stand, d_Yard_judge, d_Yard_require_free, d_Yard_tell, d_Yard_do, d_Yard_edit, d_Yard_side, d_Yard_brick, d_Yard_swap, d_Yard_turn, d_Yard_stretch, d_Yard_undo, d_Yard_state_at, d_Yard_iadd, d_Yard_bool, d_Yard_str, d_Yard_eq]
def fn : List He.DefD := fn0 ++ fn1 ++ fn2
def fa0 : List He.Fa := [.glo "first_name", .glo "name_of", .glo "is_integer", .glo "sides_error", .glo "kinds_error", .glo "pair_error", .glo "box_error", .glo "with_side", .glo "common", .glo "joint", .glo "inverse", .glo "least_times", .glo "is_sum", .glo "floors", .glo "count_sums", .glo "rests_papers", .glo "bar_along", .glo "crossing", .glo "paper", .glo "is_filled", .glo "all_cuts", .glo "count_cuts", .glo "cut_at", .glo "sums_of", .glo "rests_sizes", .glo "along", .glo "count_by", .glo "least_with", .glo "sum_at", .glo "numbered"]
def fa1 : List He.Fa := [.glo "next_side", .glo "is_number", .glo "fits", .glo "spoken", .glo "sides_text", .glo "kinds_text", .glo "require_axis", .glo "require_side", .glo "put_side", .glo "put_brick", .glo "swapped", .glo "is_order", .glo "turned", .glo "stretched", .glo "more", .glo "_law_deck", .glo "_law_draw", .glo "_law_one", .glo "_law_mixed", .glo "_law_divisor", .glo "_law_sides", .glo "_law_pair", .glo "_law_lcm", .glo "_law_cut_box", .glo "_law_plain_box", .glo "_law_do", .glo "_law_done", .glo "_law_says", .glo "_law_start", .glo "_law_words"]
def fa2 : List He.Fa := [.glo "_law_line_edit", .glo "_law_is_right", .glo "law", .glo "Cuts", .glo "Shell", .glo "Yard", .glo "BrickError", .glo "BadBatch", .glo "BadBox", .glo "BadKinds", .glo "BadOrder", .glo "BadPaper", .glo "BadSide", .glo "BadText", .glo "Busy", .glo "NoAxis", .glo "NoKind", .glo "NoNumber", .glo "NoSeam", .glo "NoVersion", .glo "NotFilled", .glo "NothingToUndo", .glo "Rejected", .glo "TooLarge", .glo "TooManyEdits", .glo "UnlikeAxes", .glo "Unfit", .glo "paper_papers", .glo "DEEDS", .glo "SHAPES"]
def fa3 : List He.Fa := [.free "isinstance", .free "len", .free "enumerate", .free "range", .free "min", .free "max", .free "sum", .free "int", .free "str", .free "tuple", .free "list", .free "set", .free "bool", .free "abs", .free "all", .free "any", .free "zip", .free "super", .int "MAX_DIMS" 4, .int "MAX_SIDE" 1000000000000, .int "MAX_KINDS" 4, .int "HISTORY" 30, .str "CUT" "cut", .str "SIDES" "sides", .str "STEP" "step", .str "GAP" "gap", .str "NONE" "none", .str "STEPS" "steps", .str "SUMS" "sums", .str "WHAT" "what"]
def fa4 : List He.Fa := [.str "FILLED" "filled", .str "BARRED" "barred", .str "SAME" "same", .cls "Cuts", .noat "Cuts" "whole", .noat "Cuts" "at_begin", .noat "Cuts" "at_end", .noat "Cuts" "step", .noat "Cuts" "begin", .noat "Cuts" "amid", .mkr "Cuts", .meth "Cuts" "many", .meth "Cuts" "spot", .cls "Shell", .noat "Shell" "yard", .noat "Shell" "lines", .mkr "Shell", .meth "Shell" "__call__", .meth "Shell" "execute", .meth "Shell" "answer", .meth "Shell" "told", .meth "Shell" "sizes", .cls "Yard", .noat "Yard" "word", .noat "Yard" "is_busy", .noat "Yard" "pages", .noat "Yard" "look", .mkr "Yard", .meth "Yard" "stand", .meth "Yard" "judge"]
def fa5 : List He.Fa := [.meth "Yard" "require_free", .meth "Yard" "tell", .meth "Yard" "do", .meth "Yard" "edit", .meth "Yard" "side", .meth "Yard" "brick", .meth "Yard" "swap", .meth "Yard" "turn", .meth "Yard" "stretch", .meth "Yard" "undo", .meth "Yard" "state_at", .meth "Yard" "__iadd__", .meth "Yard" "__bool__", .meth "Yard" "__str__", .meth "Yard" "__eq__", .exm "NoAxis" "BrickError" true, .exm "NothingToUndo" "BrickError" true, .exm "NoAxis" "NoAxis" true, .exm "NothingToUndo" "NoAxis" false, .exm "NothingToUndo" "NoKind" false, .exm "NothingToUndo" "BadSide" false, .exm "NothingToUndo" "BadOrder" false, .exm "NothingToUndo" "TooLarge" false, .exm "NothingToUndo" "NotFilled" false, .exm "NothingToUndo" "NothingToUndo" true]
def fa : List He.Fa := fa0 ++ fa1 ++ fa2 ++ fa3 ++ fa4 ++ fa5
def exs0 : List (PySem.W.Frag → Bool) := [fun K => decide (PySem.W.findIn K (.ref (He.ga K "Shell")) "heard" = some (some (.ref (He.ma K (He.ga K "Shell") "heard")))), fun K => decide (PySem.W.specialIn K (.ref (He.ma K (He.ga K "Shell") "heard")) "__get__" = some (some (.builtin "property.__get__"))), fun K => decide (PySem.W.takesIn K (.ref (He.ma K (He.ga K "Shell") "heard")) = some true), fun K => decide ((PySem.W.recIn K (He.ma K (He.ga K "Shell") "heard") "property").bind (·.head?) = some (.ref (pg K "Shell" "heard"))), fun K => decide (PySem.W.findIn K (.ref (He.ga K "Yard")) "pair" = some (some (.ref (He.ma K (He.ga K "Yard") "pair")))), fun K => decide (PySem.W.specialIn K (.ref (He.ma K (He.ga K "Yard") "pair")) "__get__" = some (some (.builtin "property.__get__"))), fun K => decide (PySem.W.takesIn K (.ref (He.ma K (He.ga K "Yard") "pair")) = some true), fun K => decide ((PySem.W.recIn K (He.ma K (He.ga K "Yard") "pair") "property").bind (·.head?) = some (.ref (pg K "Yard" "pair"))), fun K => decide (PySem.W.findIn K (.ref (He.ga K "Yard")) "box" = some (some (.ref (He.ma K (He.ga K "Yard") "box")))), fun K => decide (PySem.W.specialIn K (.ref (He.ma K (He.ga K "Yard") "box")) "__get__" = some (some (.builtin "property.__get__"))), fun K => decide (PySem.W.takesIn K (.ref (He.ma K (He.ga K "Yard") "box")) = some true), fun K => decide ((PySem.W.recIn K (He.ma K (He.ga K "Yard") "box") "property").bind (·.head?) = some (.ref (pg K "Yard" "box"))), fun K => decide (PySem.W.findIn K (.ref (He.ga K "Yard")) "version" = some (some (.ref (He.ma K (He.ga K "Yard") "version")))), fun K => decide (PySem.W.specialIn K (.ref (He.ma K (He.ga K "Yard") "version")) "__get__" = some (some (.builtin "property.__get__"))), fun K => decide (PySem.W.takesIn K (.ref (He.ma K (He.ga K "Yard") "version")) = some true), fun K => decide ((PySem.W.recIn K (He.ma K (He.ga K "Yard") "version") "property").bind (·.head?) = some (.ref (pg K "Yard" "version"))), fun K => decide (PySem.W.findIn K (.ref (He.ga K "Yard")) "news" = some (some (.ref (He.ma K (He.ga K "Yard") "news")))), fun K => decide (PySem.W.specialIn K (.ref (He.ma K (He.ga K "Yard") "news")) "__get__" = some (some (.builtin "property.__get__"))), fun K => decide (PySem.W.takesIn K (.ref (He.ma K (He.ga K "Yard") "news")) = some true), fun K => decide ((PySem.W.recIn K (He.ma K (He.ga K "Yard") "news") "property").bind (·.head?) = some (.ref (pg K "Yard" "news"))), fun K => decide (PySem.W.findIn K (.ref (He.ga K "Yard")) "paper" = some (some (.ref (He.ma K (He.ga K "Yard") "paper")))), fun K => decide (PySem.W.specialIn K (.ref (He.ma K (He.ga K "Yard") "paper")) "__get__" = some (some (.builtin "property.__get__"))), fun K => decide (PySem.W.takesIn K (.ref (He.ma K (He.ga K "Yard") "paper")) = some true), fun K => decide ((PySem.W.recIn K (He.ma K (He.ga K "Yard") "paper") "property").bind (·.head?) = some (.ref (pg K "Yard" "paper"))), fun K => decide (PySem.W.kitOne K (.ref (He.ga K "NoAxis")) (.ref (He.ga K "NoNumber")) = some false), fun K => decide (PySem.W.kitOne K (.ref (He.ga K "NoAxis")) (.ref (He.ga K "NoSeam")) = some false), fun K => decide (PySem.W.kitOne K (.ref (He.ga K "NoAxis")) (.ref (He.ga K "NoVersion")) = some false), fun K => decide (PySem.W.kitOne K (.ref (He.ga K "NoAxis")) (.ref (He.ga K "NotFilled")) = some false), fun K => decide (PySem.W.kitOne K (.ref (He.ga K "NoAxis")) (.ref (He.ga K "NothingToUndo")) = some false), fun K => decide (PySem.W.kitOne K (.ref (He.ga K "NoAxis")) (.ref (He.ga K "Rejected")) = some false)]
def exs1 : List (PySem.W.Frag → Bool) := [fun K => decide (PySem.W.kitOne K (.ref (He.ga K "NoAxis")) (.ref (He.ga K "TooLarge")) = some false), fun K => decide (PySem.W.kitOne K (.ref (He.ga K "NoAxis")) (.ref (He.ga K "TooManyEdits")) = some false), fun K => decide (PySem.W.kitOne K (.ref (He.ga K "NoAxis")) (.ref (He.ga K "UnlikeAxes")) = some false), fun K => decide (PySem.W.kitOne K (.ref (He.ga K "NoAxis")) (.ref (He.ga K "Unfit")) = some false), fun K => decide (PySem.W.kitOne K (.ref (He.ga K "NoAxis")) (.ref (He.ga K "BadBatch")) = some false), fun K => decide (PySem.W.kitOne K (.ref (He.ga K "NoAxis")) (.ref (He.ga K "BadBox")) = some false), fun K => decide (PySem.W.kitOne K (.ref (He.ga K "NoAxis")) (.ref (He.ga K "BadKinds")) = some false), fun K => decide (PySem.W.kitOne K (.ref (He.ga K "NoAxis")) (.ref (He.ga K "BadOrder")) = some false), fun K => decide (PySem.W.kitOne K (.ref (He.ga K "NoAxis")) (.ref (He.ga K "BadPaper")) = some false), fun K => decide (PySem.W.kitOne K (.ref (He.ga K "NoAxis")) (.ref (He.ga K "BadSide")) = some false), fun K => decide (PySem.W.kitOne K (.ref (He.ga K "NoAxis")) (.ref (He.ga K "BadText")) = some false), fun K => decide (PySem.W.kitOne K (.ref (He.ga K "NoAxis")) (.ref (He.ga K "Busy")) = some false), fun K => decide (PySem.W.kitOne K (.ref (He.ga K "NoAxis")) (.ref (He.ga K "NoAxis")) = some true), fun K => decide (PySem.W.kitOne K (.ref (He.ga K "NothingToUndo")) (.ref (He.ga K "NoNumber")) = some false), fun K => decide (PySem.W.kitOne K (.ref (He.ga K "NothingToUndo")) (.ref (He.ga K "NoSeam")) = some false), fun K => decide (PySem.W.kitOne K (.ref (He.ga K "NothingToUndo")) (.ref (He.ga K "NoVersion")) = some false), fun K => decide (PySem.W.kitOne K (.ref (He.ga K "NothingToUndo")) (.ref (He.ga K "NotFilled")) = some false), fun K => decide (PySem.W.kitOne K (.ref (He.ga K "NothingToUndo")) (.ref (He.ga K "NothingToUndo")) = some true), fun K => He.valsB K (He.ga K "DEEDS") [("side", .glo "put_side"), ("brick", .glo "put_brick"), ("swap", .glo "swapped"), ("turn", .glo "turned"), ("stretch", .glo "stretched"), ("more", .glo "more")], fun K => He.valsB K (He.ga K "SHAPES") [("side", .str "dn"), ("brick", .str "ddn"), ("swap", .str ""), ("stretch", .str "dn"), ("more", .str "n"), ("undo", .str ""), ("show", .str ""), ("paper", .str ""), ("filled", .str ""), ("news", .str ""), ("along", .str "d"), ("next", .str "dn"), ("cuts", .str ""), ("cut", .str "n")], fun K => decide (He.ga K "paper_papers" = He.ga K "paper"), fun K => He.conB K "Yard" "SORT" (.str "yard"), fun K => decide (PySem.W.fnIn K (He.ma K (He.ga K "Shell") "__call__") = true), fun K => decide (PySem.W.specialIn K (.ref (He.ma K (He.ga K "Yard") "edit")) "__get__" = some (some (.builtin "function.__get__"))), fun K => decide (PySem.W.takesIn K (.ref (He.ma K (He.ga K "Yard") "edit")) = some false), fun K => decide (PySem.W.fnIn K (He.ma K (He.ga K "Yard") "edit") = true), fun K => decide (PySem.W.findIn K (.ref (He.ga K "Yard")) "__class__" = some (some (.builtin "object.__class__"))), fun K => decide (PySem.W.specialIn K (.builtin "object.__class__") "__get__" = some (some (.builtin "getset_descriptor.__get__"))), fun K => decide (PySem.W.takesIn K (.builtin "object.__class__") = some true), fun K => decide (PySem.W.mroIn K (He.ga K "Yard") (.type "object") = some true)]
def exs2 : List (PySem.W.Frag → Bool) := [fun K => decide (PySem.W.kitOne K (.ref (He.ga K "Yard")) (.ref (He.ga K "Yard")) = some true), fun K => ((PySem.W.clsIn K (He.ga K "Yard")).any fun cd => cd.mro.head? == some (.ref (He.ga K "Yard"))), fun K => decide (PySem.W.findIn K (.ref (He.ga K "NoAxis")) "__setattr__" = some (some (.builtin "object.__setattr__"))), fun K => decide (PySem.W.subIn K (.ref (He.ga K "NoAxis")) (.type "BaseException") = some true), fun K => decide (PySem.W.subIn K (.ref (He.ga K "NoAxis")) (.type "ValueError") = some true), fun K => decide (PySem.W.subIn K (.ref (He.ga K "NoAxis")) (.ref (He.ga K "NoAxis")) = some true), fun K => decide (PySem.W.typeIn K (.ref (He.ga K "NoAxis")) = some (.type "type")), fun K => PySem.W.keepIn K (.ref (He.ga K "NoAxis")), fun K => oexB K (He.ga K "NoAxis"), fun K => decide (PySem.W.findIn K (.ref (He.ga K "NoAxis")) "given" = some none), fun K => decide (PySem.W.ks_superIn K (He.ga K "NoAxis") (He.ga K "NoAxis") "__init__" = some (some (.builtin "ValueError.__init__"))), fun K => decide (PySem.W.findIn K (.ref (He.ga K "NoAxis")) "__init__" = some (some (.ref (iaN K)))), fun K => decide (PySem.W.typeIn K (.ref (iaN K)) = some (.type "function")), fun K => decide (PySem.W.nsIn K PySem.cStatics "thirdparty.any" = some none), fun K => naB K, fun K => xfB K (He.ga K "NoAxis"), fun K => decide (PySem.W.findIn K (.ref (He.ga K "NoAxis")) "__class__" = some (some (.builtin "object.__class__"))), fun K => decide (PySem.W.mroIn K (He.ga K "NoAxis") (.type "object") = some true), fun K => xfB K (He.ga K "NothingToUndo"), fun K => decide (PySem.W.findIn K (.ref (He.ga K "NothingToUndo")) "__class__" = some (some (.builtin "object.__class__"))), fun K => decide (PySem.W.mroIn K (He.ga K "NothingToUndo") (.type "object") = some true), fun K => PySem.W.excIn K (He.ga K "NothingToUndo") He.veBase "ValueError.__new__", fun K => PySem.W.keepIn K (.ref (He.ga K "NothingToUndo")), fun K => decide (PySem.W.subIn K (.ref (He.ga K "NothingToUndo")) (.type "BaseException") = some true), fun K => decide (PySem.W.typeIn K (.ref (He.ga K "NothingToUndo")) = some (.type "type"))]
def exs : List (PySem.W.Frag → Bool) := exs0 ++ exs1 ++ exs2
def ts : List He.Tab := [(fun K => He.ga K "DEEDS", ["side", "brick", "swap", "turn", "stretch", "more"]), (fun K => He.ga K "SHAPES", ["side", "brick", "swap", "stretch", "more", "undo", "show", "paper", "filled", "news", "along", "next", "cuts", "cut"])]
def tf : List He.Defn := [("sum_at", none)]
/-! ### functions at reckoned places: getters -/
def fnA (K : PySem.W.Frag) (a : Addr) : He.FnW := match K.lookup a with
  | some ⟨_, _, .func fd, _⟩ => some (fd.name, fd.qualname, fd.params, fd.body, fd.scope, fd.globals, fd.closure, fd.builtins)
  | _ => none
def fnAok (K : PySem.W.Frag) (a : Addr) (q : Str) : Bool := PySem.W.keepIn K (.ref a) && (match K.lookup a with
  | some ⟨_, _, .func fd, _⟩ => PySem.W.codeIn K fd.code q && He.dflB K fd.defaults []
  | _ => false)
/-- the same, the closure's cells forgotten -/
def fnA0 (K : PySem.W.Frag) (a : Addr) : He.FnW := match K.lookup a with
  | some ⟨_, _, .func fd, _⟩ => some (fd.name, fd.qualname, fd.params, fd.body, fd.scope, fd.globals, fd.closure.map fun p => (p.1, 0), fd.builtins)
  | _ => none
theorem fnA_ok {K : PySem.W.Frag} {a : Addr} {nm q : Str} {st : Stmt} (e : fnA K a = some (nm, q, defArgs st, .stmts (defBody st), defScope st, mainGlobals, [], builtinsNs)) (c : fnAok K a q = true) :
    ∃ fd, FunD K nm q (defArgs st) (defBody st) (defScope st) [] [] a fd := by
  obtain ⟨hk, c⟩ := Bool.and_eq_true_iff.mp c
  unfold fnA at e
  split at e
  · rename_i oc od fd osl lk
    rw [lk] at c
    obtain ⟨hc, hd⟩ := Bool.and_eq_true_iff.mp c
    obtain ⟨x1, x2, x3, x4, x5, x6, x7, x8, x9, x10, x11, x12, x13, x14⟩ := fd
    simp only [Option.some.injEq, Prod.mk.injEq] at e
    obtain ⟨rfl, rfl, rfl, rfl, rfl, rfl, rfl, rfl⟩ := e
    exact ⟨_, ⟨_, _, _, _, _, _, _, _, _, _, rfl, lk, hc, He.dflB_ok hd, .inl rfl⟩, hk⟩
  · cases e
/-- the getters: class, name, text -/
def gs : List (Str × Str × Str × Stmt) := [("Shell", "heard", "Shell.heard", s_Shell_heard), ("Yard", "pair", "Yard.pair", s_Yard_pair), ("Yard", "box", "Yard.box", s_Yard_box), ("Yard", "version", "Yard.version", s_Yard_version), ("Yard", "news", "Yard.news", s_Yard_news), ("Yard", "paper", "Yard.paper", s_Yard_paper)]
def gval (g : Str × Str × Str × Stmt) : He.FnW := some (g.2.1, g.2.2.1, defArgs g.2.2.2, .stmts (defBody g.2.2.2), defScope g.2.2.2, mainGlobals, [], builtinsNs)
def exAll (K : PySem.W.Frag) : Bool := (exs.all fun e => e K) && gs.all fun g => fnAok K (pg K g.1 g.2.1) g.2.2.1
/-- the objects that are looked at (found by EvalTop: the least part of the heap that bears all facts) -/
def asL : List Addr := [2, 3, 31, 44, 65, 86, 107, 128, 149, 170, 182, 203, 224, 245, 266, 287, 308, 320, 341, 362, 374, 386, 398, 407, 414, 421, 428, 435, 442, 449, 456, 463, 470, 477, 484, 491, 498, 505, 605, 510, 517, 522, 529, 536, 572, 581, 586, 593, 600, 612, 617, 624, 631, 636, 643, 644, 649, 654, 659, 715, 724, 729, 736, 743, 750, 757, 764, 769, 774, 779, 784, 785, 1034, 1043, 1050, 1057, 1064, 1071, 1076, 1083, 1090, 1097, 1102, 1109, 1116, 1123, 1130, 1135, 1142, 1149, 1156, 30, 202, 319, 406, 413, 420, 427, 434, 441, 448, 455, 462, 469, 476, 483, 490, 497, 504, 604, 509, 516, 521, 528, 535, 571, 580, 585, 592, 599, 611, 616, 623, 630, 635, 642, 648, 653, 658, 714, 723, 728, 735, 742, 749, 756, 763, 768, 773, 778, 783, 1033, 1042, 1049, 1056, 1063, 1070, 1075, 1082, 1089, 1096, 1101, 1108, 1115, 1122, 1129, 1134, 1141, 1148, 1155, 200, 548, 555, 562, 673, 681, 688, 695, 700, 705, 712, 807, 814, 822, 830, 838, 846, 854, 861, 868, 875, 882, 889, 896, 903, 910, 917, 924, 931, 954, 996, 1010, 1024, 1031, 199, 188, 547, 554, 561, 672, 680, 687, 694, 699, 704, 711, 806, 813, 821, 829, 837, 845, 853, 860, 867, 874, 881, 888, 895, 902, 909, 916, 923, 930, 953, 947, 995, 1009, 1023, 1030, 679, 820, 828, 836, 844, 852]
abbrev AlZ : Type := He.AlX × List He.FnW × He.FnW
abbrev s_NoAxis_init : Stmt := inClass (top 16) 0
def ival : He.FnW := some ("__init__", "NoAxis.__init__", defArgs s_NoAxis_init, .stmts (defBody s_NoAxis_init), defScope s_NoAxis_init, mainGlobals, [("__class__", 0)], builtinsNs)
def obsY (g : Addr → Option Obj) (as : List Addr) : He.AlX := (He.obsT fa fn ts (He.frT g as), exAll (He.frT g as) && He.tabsB g tf (He.frT g as))
def obsZ (g : Addr → Option Obj) : AlZ := (obsY g asL, (gs.map fun q => fnA (He.frT g asL) (pg (He.frT g asL) q.1 q.2.1)), fnA0 (He.frT g asL) (iaN (He.frT g asL)))
def valZ (w : World) : AlZ := (He.valX fn ts w, gs.map gval, ival)
structure SaysZ (w : World) (h : Heap) (K : PySem.W.Frag) : Prop where
  x : He.SaysX fa fn ts tf exAll w h K
  g : (gs.map fun q => fnA K (pg K q.1 q.2.1)) = gs.map gval
  i : fnA0 K (iaN K) = ival
theorem saysY_of {as : List Addr} {w : World} {h : Heap} (e : obsY h.get? as = He.valX fn ts w) : He.SaysX fa fn ts tf exAll w h (He.frT h.get? as) := by
  obtain ⟨c1, c2⟩ := Bool.and_eq_true_iff.mp (show (exAll (He.frT h.get? as) && He.tabsB h.get? tf (He.frT h.get? as)) = true from congrArg Prod.snd e)
  have q : ∀ p ∈ tf, PySem.W.codeHdIn (He.frT h.get? as) (He.cT (He.frT h.get? as) p).1 (He.cT (He.frT h.get? as) p).2 = true ∧ h.get? (He.cT (He.frT h.get? as) p).2 = some { cls := .none, data := .fields #[] } := fun p hp => by
    obtain ⟨a, b⟩ := Bool.and_eq_true_iff.mp (List.all_eq_true.mp c2 p hp)
    refine ⟨a, ?_⟩
    cases eo : h.get? (He.cT (He.frT h.get? as) p).2 with
    | none => rw [eo] at b; cases b
    | some o => rw [eo] at b; rw [He.emptyTab_eq b]
  exact ⟨congrArg Prod.fst e, c1, fun p hp => (q p hp).1, fun p hp => He.frT_none (q p hp).2 rfl, fun p hp => (q p hp).2⟩
def hookZ : PySem.W.Hook where
  α := AlZ
  obs := fun s => obsZ s.heap.get?
  val := fun w => valZ w
  says := fun w h => ∃ K : PySem.W.Frag, K.In h ∧ SaysZ w h K
  of := fun _ _ e => ⟨_, He.frT_in, saysY_of (congrArg Prod.fst e), congrArg (fun z : AlZ => z.2.1) e, congrArg (fun z : AlZ => z.2.2) e⟩
  keeps := fun _ _ _ ⟨K, hK, c⟩ k => ⟨K, PySem.W.Frag.In.keeps hK k, ⟨c.x.t, c.x.more, c.x.hd, c.x.out, fun p hp => k _ _ (c.x.empty p hp)⟩, c.g, c.i⟩
/-! ### what every def leans on -/
structure TX (w : World) (K : PySem.W.Frag) (mg : Str → Option Value) : Prop where
  h : ∃ h : Heap, K.In h ∧ h.Ns mainGlobals mg ∧ SaysZ w h K
section
variable {w : World} {K : PySem.W.Frag} {mg : Str → Option Value}
noncomputable def TX.hp (T : TX w K mg) : Heap := Classical.choose T.h
theorem TX.X (T : TX w K mg) : K.In T.hp := (Classical.choose_spec T.h).1
theorem TX.G (T : TX w K mg) : T.hp.Ns mainGlobals mg := (Classical.choose_spec T.h).2.1
theorem TX.c (T : TX w K mg) : SaysZ w T.hp K := (Classical.choose_spec T.h).2.2
theorem TX.fact (T : TX w K mg) (i : Nat) {f : He.Fa} (h : fa[i]? = some f) : f.ok K = true := T.c.x.t.d.fact i h
theorem TX.def_ (T : TX w K mg) (i : Nat) {d : He.DefD} (h : fn[i]? = some d) : ∃ fd, FunD K d.name d.qual d.params d.body d.scope (d.dvs K) (d.kws K) (He.fAd K d.at_) fd := T.c.x.t.d.def_ i h
theorem TX.ex (T : TX w K mg) (i : Nat) {e : PySem.W.Frag → Bool} (h : exs[i]? = some e) : e K = true := by
  have m := T.c.x.more
  unfold exAll at m
  exact List.all_eq_true.mp (Bool.and_eq_true_iff.mp m).1 e (List.mem_of_getElem? h)
theorem TX.get_ (T : TX w K mg) (i : Nat) {g : Str × Str × Str × Stmt} (h : gs[i]? = some g) : ∃ fd, FunD K g.2.1 g.2.2.1 (defArgs g.2.2.2) (defBody g.2.2.2) (defScope g.2.2.2) [] [] (pg K g.1 g.2.1) fd := by
  have m := T.c.x.more
  unfold exAll at m
  have c := List.all_eq_true.mp (Bool.and_eq_true_iff.mp m).2 g (List.mem_of_getElem? h)
  refine fnA_ok ?_ c
  have e := congrArg (fun l => l[i]?) T.c.g
  simp only [List.getElem?_map, h, Option.map_some, Option.some.injEq] at e
  exact e
theorem g_first_name (T : TX w K mg) : mg "first_name" = some (.ref (He.ga K "first_name")) := He.glo_ok T.X T.G (T.fact 0 (f := .glo "first_name") rfl)
theorem g_name_of (T : TX w K mg) : mg "name_of" = some (.ref (He.ga K "name_of")) := He.glo_ok T.X T.G (T.fact 1 (f := .glo "name_of") rfl)
theorem g_is_integer (T : TX w K mg) : mg "is_integer" = some (.ref (He.ga K "is_integer")) := He.glo_ok T.X T.G (T.fact 2 (f := .glo "is_integer") rfl)
theorem g_sides_error (T : TX w K mg) : mg "sides_error" = some (.ref (He.ga K "sides_error")) := He.glo_ok T.X T.G (T.fact 3 (f := .glo "sides_error") rfl)
theorem g_kinds_error (T : TX w K mg) : mg "kinds_error" = some (.ref (He.ga K "kinds_error")) := He.glo_ok T.X T.G (T.fact 4 (f := .glo "kinds_error") rfl)
theorem g_pair_error (T : TX w K mg) : mg "pair_error" = some (.ref (He.ga K "pair_error")) := He.glo_ok T.X T.G (T.fact 5 (f := .glo "pair_error") rfl)
theorem g_box_error (T : TX w K mg) : mg "box_error" = some (.ref (He.ga K "box_error")) := He.glo_ok T.X T.G (T.fact 6 (f := .glo "box_error") rfl)
theorem g_with_side (T : TX w K mg) : mg "with_side" = some (.ref (He.ga K "with_side")) := He.glo_ok T.X T.G (T.fact 7 (f := .glo "with_side") rfl)
theorem g_common (T : TX w K mg) : mg "common" = some (.ref (He.ga K "common")) := He.glo_ok T.X T.G (T.fact 8 (f := .glo "common") rfl)
theorem g_joint (T : TX w K mg) : mg "joint" = some (.ref (He.ga K "joint")) := He.glo_ok T.X T.G (T.fact 9 (f := .glo "joint") rfl)
theorem g_inverse (T : TX w K mg) : mg "inverse" = some (.ref (He.ga K "inverse")) := He.glo_ok T.X T.G (T.fact 10 (f := .glo "inverse") rfl)
theorem g_least_times (T : TX w K mg) : mg "least_times" = some (.ref (He.ga K "least_times")) := He.glo_ok T.X T.G (T.fact 11 (f := .glo "least_times") rfl)
theorem g_is_sum (T : TX w K mg) : mg "is_sum" = some (.ref (He.ga K "is_sum")) := He.glo_ok T.X T.G (T.fact 12 (f := .glo "is_sum") rfl)
theorem g_floors (T : TX w K mg) : mg "floors" = some (.ref (He.ga K "floors")) := He.glo_ok T.X T.G (T.fact 13 (f := .glo "floors") rfl)
theorem g_count_sums (T : TX w K mg) : mg "count_sums" = some (.ref (He.ga K "count_sums")) := He.glo_ok T.X T.G (T.fact 14 (f := .glo "count_sums") rfl)
theorem g_rests_papers (T : TX w K mg) : mg "rests_papers" = some (.ref (He.ga K "rests_papers")) := He.glo_ok T.X T.G (T.fact 15 (f := .glo "rests_papers") rfl)
theorem g_bar_along (T : TX w K mg) : mg "bar_along" = some (.ref (He.ga K "bar_along")) := He.glo_ok T.X T.G (T.fact 16 (f := .glo "bar_along") rfl)
theorem g_crossing (T : TX w K mg) : mg "crossing" = some (.ref (He.ga K "crossing")) := He.glo_ok T.X T.G (T.fact 17 (f := .glo "crossing") rfl)
theorem g_paper (T : TX w K mg) : mg "paper" = some (.ref (He.ga K "paper")) := He.glo_ok T.X T.G (T.fact 18 (f := .glo "paper") rfl)
theorem g_is_filled (T : TX w K mg) : mg "is_filled" = some (.ref (He.ga K "is_filled")) := He.glo_ok T.X T.G (T.fact 19 (f := .glo "is_filled") rfl)
theorem g_all_cuts (T : TX w K mg) : mg "all_cuts" = some (.ref (He.ga K "all_cuts")) := He.glo_ok T.X T.G (T.fact 20 (f := .glo "all_cuts") rfl)
theorem g_count_cuts (T : TX w K mg) : mg "count_cuts" = some (.ref (He.ga K "count_cuts")) := He.glo_ok T.X T.G (T.fact 21 (f := .glo "count_cuts") rfl)
theorem g_cut_at (T : TX w K mg) : mg "cut_at" = some (.ref (He.ga K "cut_at")) := He.glo_ok T.X T.G (T.fact 22 (f := .glo "cut_at") rfl)
theorem g_sums_of (T : TX w K mg) : mg "sums_of" = some (.ref (He.ga K "sums_of")) := He.glo_ok T.X T.G (T.fact 23 (f := .glo "sums_of") rfl)
theorem g_rests_sizes (T : TX w K mg) : mg "rests_sizes" = some (.ref (He.ga K "rests_sizes")) := He.glo_ok T.X T.G (T.fact 24 (f := .glo "rests_sizes") rfl)
theorem g_along (T : TX w K mg) : mg "along" = some (.ref (He.ga K "along")) := He.glo_ok T.X T.G (T.fact 25 (f := .glo "along") rfl)
theorem g_count_by (T : TX w K mg) : mg "count_by" = some (.ref (He.ga K "count_by")) := He.glo_ok T.X T.G (T.fact 26 (f := .glo "count_by") rfl)
theorem g_least_with (T : TX w K mg) : mg "least_with" = some (.ref (He.ga K "least_with")) := He.glo_ok T.X T.G (T.fact 27 (f := .glo "least_with") rfl)
theorem g_sum_at (T : TX w K mg) : mg "sum_at" = some (.ref (He.ga K "sum_at")) := He.glo_ok T.X T.G (T.fact 28 (f := .glo "sum_at") rfl)
theorem g_numbered (T : TX w K mg) : mg "numbered" = some (.ref (He.ga K "numbered")) := He.glo_ok T.X T.G (T.fact 29 (f := .glo "numbered") rfl)
theorem g_next_side (T : TX w K mg) : mg "next_side" = some (.ref (He.ga K "next_side")) := He.glo_ok T.X T.G (T.fact 30 (f := .glo "next_side") rfl)
theorem g_is_number (T : TX w K mg) : mg "is_number" = some (.ref (He.ga K "is_number")) := He.glo_ok T.X T.G (T.fact 31 (f := .glo "is_number") rfl)
theorem g_fits (T : TX w K mg) : mg "fits" = some (.ref (He.ga K "fits")) := He.glo_ok T.X T.G (T.fact 32 (f := .glo "fits") rfl)
theorem g_spoken (T : TX w K mg) : mg "spoken" = some (.ref (He.ga K "spoken")) := He.glo_ok T.X T.G (T.fact 33 (f := .glo "spoken") rfl)
theorem g_sides_text (T : TX w K mg) : mg "sides_text" = some (.ref (He.ga K "sides_text")) := He.glo_ok T.X T.G (T.fact 34 (f := .glo "sides_text") rfl)
theorem g_kinds_text (T : TX w K mg) : mg "kinds_text" = some (.ref (He.ga K "kinds_text")) := He.glo_ok T.X T.G (T.fact 35 (f := .glo "kinds_text") rfl)
theorem g_require_axis (T : TX w K mg) : mg "require_axis" = some (.ref (He.ga K "require_axis")) := He.glo_ok T.X T.G (T.fact 36 (f := .glo "require_axis") rfl)
theorem g_require_side (T : TX w K mg) : mg "require_side" = some (.ref (He.ga K "require_side")) := He.glo_ok T.X T.G (T.fact 37 (f := .glo "require_side") rfl)
theorem g_put_side (T : TX w K mg) : mg "put_side" = some (.ref (He.ga K "put_side")) := He.glo_ok T.X T.G (T.fact 38 (f := .glo "put_side") rfl)
theorem g_put_brick (T : TX w K mg) : mg "put_brick" = some (.ref (He.ga K "put_brick")) := He.glo_ok T.X T.G (T.fact 39 (f := .glo "put_brick") rfl)
theorem g_swapped (T : TX w K mg) : mg "swapped" = some (.ref (He.ga K "swapped")) := He.glo_ok T.X T.G (T.fact 40 (f := .glo "swapped") rfl)
theorem g_is_order (T : TX w K mg) : mg "is_order" = some (.ref (He.ga K "is_order")) := He.glo_ok T.X T.G (T.fact 41 (f := .glo "is_order") rfl)
theorem g_turned (T : TX w K mg) : mg "turned" = some (.ref (He.ga K "turned")) := He.glo_ok T.X T.G (T.fact 42 (f := .glo "turned") rfl)
theorem g_stretched (T : TX w K mg) : mg "stretched" = some (.ref (He.ga K "stretched")) := He.glo_ok T.X T.G (T.fact 43 (f := .glo "stretched") rfl)
theorem g_more (T : TX w K mg) : mg "more" = some (.ref (He.ga K "more")) := He.glo_ok T.X T.G (T.fact 44 (f := .glo "more") rfl)
theorem g__law_deck (T : TX w K mg) : mg "_law_deck" = some (.ref (He.ga K "_law_deck")) := He.glo_ok T.X T.G (T.fact 45 (f := .glo "_law_deck") rfl)
theorem g__law_draw (T : TX w K mg) : mg "_law_draw" = some (.ref (He.ga K "_law_draw")) := He.glo_ok T.X T.G (T.fact 46 (f := .glo "_law_draw") rfl)
theorem g__law_one (T : TX w K mg) : mg "_law_one" = some (.ref (He.ga K "_law_one")) := He.glo_ok T.X T.G (T.fact 47 (f := .glo "_law_one") rfl)
theorem g__law_mixed (T : TX w K mg) : mg "_law_mixed" = some (.ref (He.ga K "_law_mixed")) := He.glo_ok T.X T.G (T.fact 48 (f := .glo "_law_mixed") rfl)
theorem g__law_divisor (T : TX w K mg) : mg "_law_divisor" = some (.ref (He.ga K "_law_divisor")) := He.glo_ok T.X T.G (T.fact 49 (f := .glo "_law_divisor") rfl)
theorem g__law_sides (T : TX w K mg) : mg "_law_sides" = some (.ref (He.ga K "_law_sides")) := He.glo_ok T.X T.G (T.fact 50 (f := .glo "_law_sides") rfl)
theorem g__law_pair (T : TX w K mg) : mg "_law_pair" = some (.ref (He.ga K "_law_pair")) := He.glo_ok T.X T.G (T.fact 51 (f := .glo "_law_pair") rfl)
theorem g__law_lcm (T : TX w K mg) : mg "_law_lcm" = some (.ref (He.ga K "_law_lcm")) := He.glo_ok T.X T.G (T.fact 52 (f := .glo "_law_lcm") rfl)
theorem g__law_cut_box (T : TX w K mg) : mg "_law_cut_box" = some (.ref (He.ga K "_law_cut_box")) := He.glo_ok T.X T.G (T.fact 53 (f := .glo "_law_cut_box") rfl)
theorem g__law_plain_box (T : TX w K mg) : mg "_law_plain_box" = some (.ref (He.ga K "_law_plain_box")) := He.glo_ok T.X T.G (T.fact 54 (f := .glo "_law_plain_box") rfl)
theorem g__law_do (T : TX w K mg) : mg "_law_do" = some (.ref (He.ga K "_law_do")) := He.glo_ok T.X T.G (T.fact 55 (f := .glo "_law_do") rfl)
theorem g__law_done (T : TX w K mg) : mg "_law_done" = some (.ref (He.ga K "_law_done")) := He.glo_ok T.X T.G (T.fact 56 (f := .glo "_law_done") rfl)
theorem g__law_says (T : TX w K mg) : mg "_law_says" = some (.ref (He.ga K "_law_says")) := He.glo_ok T.X T.G (T.fact 57 (f := .glo "_law_says") rfl)
theorem g__law_start (T : TX w K mg) : mg "_law_start" = some (.ref (He.ga K "_law_start")) := He.glo_ok T.X T.G (T.fact 58 (f := .glo "_law_start") rfl)
theorem g__law_words (T : TX w K mg) : mg "_law_words" = some (.ref (He.ga K "_law_words")) := He.glo_ok T.X T.G (T.fact 59 (f := .glo "_law_words") rfl)
theorem g__law_line_edit (T : TX w K mg) : mg "_law_line_edit" = some (.ref (He.ga K "_law_line_edit")) := He.glo_ok T.X T.G (T.fact 60 (f := .glo "_law_line_edit") rfl)
theorem g__law_is_right (T : TX w K mg) : mg "_law_is_right" = some (.ref (He.ga K "_law_is_right")) := He.glo_ok T.X T.G (T.fact 61 (f := .glo "_law_is_right") rfl)
theorem g_law (T : TX w K mg) : mg "law" = some (.ref (He.ga K "law")) := He.glo_ok T.X T.G (T.fact 62 (f := .glo "law") rfl)
theorem g_Cuts (T : TX w K mg) : mg "Cuts" = some (.ref (He.ga K "Cuts")) := He.glo_ok T.X T.G (T.fact 63 (f := .glo "Cuts") rfl)
theorem g_Shell (T : TX w K mg) : mg "Shell" = some (.ref (He.ga K "Shell")) := He.glo_ok T.X T.G (T.fact 64 (f := .glo "Shell") rfl)
theorem g_Yard (T : TX w K mg) : mg "Yard" = some (.ref (He.ga K "Yard")) := He.glo_ok T.X T.G (T.fact 65 (f := .glo "Yard") rfl)
theorem g_BrickError (T : TX w K mg) : mg "BrickError" = some (.ref (He.ga K "BrickError")) := He.glo_ok T.X T.G (T.fact 66 (f := .glo "BrickError") rfl)
theorem g_BadBatch (T : TX w K mg) : mg "BadBatch" = some (.ref (He.ga K "BadBatch")) := He.glo_ok T.X T.G (T.fact 67 (f := .glo "BadBatch") rfl)
theorem g_BadBox (T : TX w K mg) : mg "BadBox" = some (.ref (He.ga K "BadBox")) := He.glo_ok T.X T.G (T.fact 68 (f := .glo "BadBox") rfl)
theorem g_BadKinds (T : TX w K mg) : mg "BadKinds" = some (.ref (He.ga K "BadKinds")) := He.glo_ok T.X T.G (T.fact 69 (f := .glo "BadKinds") rfl)
theorem g_BadOrder (T : TX w K mg) : mg "BadOrder" = some (.ref (He.ga K "BadOrder")) := He.glo_ok T.X T.G (T.fact 70 (f := .glo "BadOrder") rfl)
theorem g_BadPaper (T : TX w K mg) : mg "BadPaper" = some (.ref (He.ga K "BadPaper")) := He.glo_ok T.X T.G (T.fact 71 (f := .glo "BadPaper") rfl)
theorem g_BadSide (T : TX w K mg) : mg "BadSide" = some (.ref (He.ga K "BadSide")) := He.glo_ok T.X T.G (T.fact 72 (f := .glo "BadSide") rfl)
theorem g_BadText (T : TX w K mg) : mg "BadText" = some (.ref (He.ga K "BadText")) := He.glo_ok T.X T.G (T.fact 73 (f := .glo "BadText") rfl)
theorem g_Busy (T : TX w K mg) : mg "Busy" = some (.ref (He.ga K "Busy")) := He.glo_ok T.X T.G (T.fact 74 (f := .glo "Busy") rfl)
theorem g_NoAxis (T : TX w K mg) : mg "NoAxis" = some (.ref (He.ga K "NoAxis")) := He.glo_ok T.X T.G (T.fact 75 (f := .glo "NoAxis") rfl)
theorem g_NoKind (T : TX w K mg) : mg "NoKind" = some (.ref (He.ga K "NoKind")) := He.glo_ok T.X T.G (T.fact 76 (f := .glo "NoKind") rfl)
theorem g_NoNumber (T : TX w K mg) : mg "NoNumber" = some (.ref (He.ga K "NoNumber")) := He.glo_ok T.X T.G (T.fact 77 (f := .glo "NoNumber") rfl)
theorem g_NoSeam (T : TX w K mg) : mg "NoSeam" = some (.ref (He.ga K "NoSeam")) := He.glo_ok T.X T.G (T.fact 78 (f := .glo "NoSeam") rfl)
theorem g_NoVersion (T : TX w K mg) : mg "NoVersion" = some (.ref (He.ga K "NoVersion")) := He.glo_ok T.X T.G (T.fact 79 (f := .glo "NoVersion") rfl)
theorem g_NotFilled (T : TX w K mg) : mg "NotFilled" = some (.ref (He.ga K "NotFilled")) := He.glo_ok T.X T.G (T.fact 80 (f := .glo "NotFilled") rfl)
theorem g_NothingToUndo (T : TX w K mg) : mg "NothingToUndo" = some (.ref (He.ga K "NothingToUndo")) := He.glo_ok T.X T.G (T.fact 81 (f := .glo "NothingToUndo") rfl)
theorem g_Rejected (T : TX w K mg) : mg "Rejected" = some (.ref (He.ga K "Rejected")) := He.glo_ok T.X T.G (T.fact 82 (f := .glo "Rejected") rfl)
theorem g_TooLarge (T : TX w K mg) : mg "TooLarge" = some (.ref (He.ga K "TooLarge")) := He.glo_ok T.X T.G (T.fact 83 (f := .glo "TooLarge") rfl)
theorem g_TooManyEdits (T : TX w K mg) : mg "TooManyEdits" = some (.ref (He.ga K "TooManyEdits")) := He.glo_ok T.X T.G (T.fact 84 (f := .glo "TooManyEdits") rfl)
theorem g_UnlikeAxes (T : TX w K mg) : mg "UnlikeAxes" = some (.ref (He.ga K "UnlikeAxes")) := He.glo_ok T.X T.G (T.fact 85 (f := .glo "UnlikeAxes") rfl)
theorem g_Unfit (T : TX w K mg) : mg "Unfit" = some (.ref (He.ga K "Unfit")) := He.glo_ok T.X T.G (T.fact 86 (f := .glo "Unfit") rfl)
theorem g_paper_papers (T : TX w K mg) : mg "paper_papers" = some (.ref (He.ga K "paper_papers")) := He.glo_ok T.X T.G (T.fact 87 (f := .glo "paper_papers") rfl)
theorem g_DEEDS (T : TX w K mg) : mg "DEEDS" = some (.ref (He.ga K "DEEDS")) := He.glo_ok T.X T.G (T.fact 88 (f := .glo "DEEDS") rfl)
theorem g_SHAPES (T : TX w K mg) : mg "SHAPES" = some (.ref (He.ga K "SHAPES")) := He.glo_ok T.X T.G (T.fact 89 (f := .glo "SHAPES") rfl)
theorem n_isinstance (T : TX w K mg) : mg "isinstance" = none := He.free_ok T.X T.G (T.fact 90 (f := .free "isinstance") rfl)
theorem n_len (T : TX w K mg) : mg "len" = none := He.free_ok T.X T.G (T.fact 91 (f := .free "len") rfl)
theorem n_enumerate (T : TX w K mg) : mg "enumerate" = none := He.free_ok T.X T.G (T.fact 92 (f := .free "enumerate") rfl)
theorem n_range (T : TX w K mg) : mg "range" = none := He.free_ok T.X T.G (T.fact 93 (f := .free "range") rfl)
theorem n_min (T : TX w K mg) : mg "min" = none := He.free_ok T.X T.G (T.fact 94 (f := .free "min") rfl)
theorem n_max (T : TX w K mg) : mg "max" = none := He.free_ok T.X T.G (T.fact 95 (f := .free "max") rfl)
theorem n_sum (T : TX w K mg) : mg "sum" = none := He.free_ok T.X T.G (T.fact 96 (f := .free "sum") rfl)
theorem n_int (T : TX w K mg) : mg "int" = none := He.free_ok T.X T.G (T.fact 97 (f := .free "int") rfl)
theorem n_str (T : TX w K mg) : mg "str" = none := He.free_ok T.X T.G (T.fact 98 (f := .free "str") rfl)
theorem n_tuple (T : TX w K mg) : mg "tuple" = none := He.free_ok T.X T.G (T.fact 99 (f := .free "tuple") rfl)
theorem n_list (T : TX w K mg) : mg "list" = none := He.free_ok T.X T.G (T.fact 100 (f := .free "list") rfl)
theorem n_set (T : TX w K mg) : mg "set" = none := He.free_ok T.X T.G (T.fact 101 (f := .free "set") rfl)
theorem n_bool (T : TX w K mg) : mg "bool" = none := He.free_ok T.X T.G (T.fact 102 (f := .free "bool") rfl)
theorem n_abs (T : TX w K mg) : mg "abs" = none := He.free_ok T.X T.G (T.fact 103 (f := .free "abs") rfl)
theorem n_all (T : TX w K mg) : mg "all" = none := He.free_ok T.X T.G (T.fact 104 (f := .free "all") rfl)
theorem n_any (T : TX w K mg) : mg "any" = none := He.free_ok T.X T.G (T.fact 105 (f := .free "any") rfl)
theorem n_zip (T : TX w K mg) : mg "zip" = none := He.free_ok T.X T.G (T.fact 106 (f := .free "zip") rfl)
theorem n_super (T : TX w K mg) : mg "super" = none := He.free_ok T.X T.G (T.fact 107 (f := .free "super") rfl)
theorem i_MAX_DIMS (T : TX w K mg) : ∃ t, mg "MAX_DIMS" = some (.int 4 t) := He.int_ok T.X T.G (T.fact 108 (f := .int "MAX_DIMS" 4) rfl)
theorem i_MAX_SIDE (T : TX w K mg) : ∃ t, mg "MAX_SIDE" = some (.int 1000000000000 t) := He.int_ok T.X T.G (T.fact 109 (f := .int "MAX_SIDE" 1000000000000) rfl)
theorem i_MAX_KINDS (T : TX w K mg) : ∃ t, mg "MAX_KINDS" = some (.int 4 t) := He.int_ok T.X T.G (T.fact 110 (f := .int "MAX_KINDS" 4) rfl)
theorem i_HISTORY (T : TX w K mg) : ∃ t, mg "HISTORY" = some (.int 30 t) := He.int_ok T.X T.G (T.fact 111 (f := .int "HISTORY" 30) rfl)
theorem z_CUT (T : TX w K mg) : ∃ t, mg "CUT" = some (.str "cut" t) := He.str_ok T.X T.G (T.fact 112 (f := .str "CUT" "cut") rfl)
theorem z_SIDES (T : TX w K mg) : ∃ t, mg "SIDES" = some (.str "sides" t) := He.str_ok T.X T.G (T.fact 113 (f := .str "SIDES" "sides") rfl)
theorem z_STEP (T : TX w K mg) : ∃ t, mg "STEP" = some (.str "step" t) := He.str_ok T.X T.G (T.fact 114 (f := .str "STEP" "step") rfl)
theorem z_GAP (T : TX w K mg) : ∃ t, mg "GAP" = some (.str "gap" t) := He.str_ok T.X T.G (T.fact 115 (f := .str "GAP" "gap") rfl)
theorem z_NONE (T : TX w K mg) : ∃ t, mg "NONE" = some (.str "none" t) := He.str_ok T.X T.G (T.fact 116 (f := .str "NONE" "none") rfl)
theorem z_STEPS (T : TX w K mg) : ∃ t, mg "STEPS" = some (.str "steps" t) := He.str_ok T.X T.G (T.fact 117 (f := .str "STEPS" "steps") rfl)
theorem z_SUMS (T : TX w K mg) : ∃ t, mg "SUMS" = some (.str "sums" t) := He.str_ok T.X T.G (T.fact 118 (f := .str "SUMS" "sums") rfl)
theorem z_WHAT (T : TX w K mg) : ∃ t, mg "WHAT" = some (.str "what" t) := He.str_ok T.X T.G (T.fact 119 (f := .str "WHAT" "what") rfl)
theorem z_FILLED (T : TX w K mg) : ∃ t, mg "FILLED" = some (.str "filled" t) := He.str_ok T.X T.G (T.fact 120 (f := .str "FILLED" "filled") rfl)
theorem z_BARRED (T : TX w K mg) : ∃ t, mg "BARRED" = some (.str "barred" t) := He.str_ok T.X T.G (T.fact 121 (f := .str "BARRED" "barred") rfl)
theorem z_SAME (T : TX w K mg) : ∃ t, mg "SAME" = some (.str "same" t) := He.str_ok T.X T.G (T.fact 122 (f := .str "SAME" "same") rfl)
theorem cl_Cuts (T : TX w K mg) : Cls K (He.ga K "Cuts") := He.cls_ok (T.fact 123 (f := .cls "Cuts") rfl)
theorem na_Cuts_whole (T : TX w K mg) : NoAttr K (He.ga K "Cuts") "whole" := He.noat_ok (T.fact 124 (f := .noat "Cuts" "whole") rfl)
theorem na_Cuts_at_begin (T : TX w K mg) : NoAttr K (He.ga K "Cuts") "at_begin" := He.noat_ok (T.fact 125 (f := .noat "Cuts" "at_begin") rfl)
theorem na_Cuts_at_end (T : TX w K mg) : NoAttr K (He.ga K "Cuts") "at_end" := He.noat_ok (T.fact 126 (f := .noat "Cuts" "at_end") rfl)
theorem na_Cuts_step (T : TX w K mg) : NoAttr K (He.ga K "Cuts") "step" := He.noat_ok (T.fact 127 (f := .noat "Cuts" "step") rfl)
theorem na_Cuts_begin (T : TX w K mg) : NoAttr K (He.ga K "Cuts") "begin" := He.noat_ok (T.fact 128 (f := .noat "Cuts" "begin") rfl)
theorem na_Cuts_amid (T : TX w K mg) : NoAttr K (He.ga K "Cuts") "amid" := He.noat_ok (T.fact 129 (f := .noat "Cuts" "amid") rfl)
theorem mk_Cuts (T : TX w K mg) : Mk K (He.ga K "Cuts") (He.ma K (He.ga K "Cuts") "__init__") := He.mkr_ok (T.fact 130 (f := .mkr "Cuts") rfl)
theorem me_Cuts_many (T : TX w K mg) : Meth K (He.ga K "Cuts") "many" (He.ma K (He.ga K "Cuts") "many") := He.meth_ok (T.fact 131 (f := .meth "Cuts" "many") rfl)
theorem me_Cuts_spot (T : TX w K mg) : Meth K (He.ga K "Cuts") "spot" (He.ma K (He.ga K "Cuts") "spot") := He.meth_ok (T.fact 132 (f := .meth "Cuts" "spot") rfl)
theorem cl_Shell (T : TX w K mg) : Cls K (He.ga K "Shell") := He.cls_ok (T.fact 133 (f := .cls "Shell") rfl)
theorem na_Shell_yard (T : TX w K mg) : NoAttr K (He.ga K "Shell") "yard" := He.noat_ok (T.fact 134 (f := .noat "Shell" "yard") rfl)
theorem na_Shell_lines (T : TX w K mg) : NoAttr K (He.ga K "Shell") "lines" := He.noat_ok (T.fact 135 (f := .noat "Shell" "lines") rfl)
theorem mk_Shell (T : TX w K mg) : Mk K (He.ga K "Shell") (He.ma K (He.ga K "Shell") "__init__") := He.mkr_ok (T.fact 136 (f := .mkr "Shell") rfl)
theorem me_Shell_call (T : TX w K mg) : Meth K (He.ga K "Shell") "__call__" (He.ma K (He.ga K "Shell") "__call__") := He.meth_ok (T.fact 137 (f := .meth "Shell" "__call__") rfl)
theorem me_Shell_execute (T : TX w K mg) : Meth K (He.ga K "Shell") "execute" (He.ma K (He.ga K "Shell") "execute") := He.meth_ok (T.fact 138 (f := .meth "Shell" "execute") rfl)
theorem me_Shell_answer (T : TX w K mg) : Meth K (He.ga K "Shell") "answer" (He.ma K (He.ga K "Shell") "answer") := He.meth_ok (T.fact 139 (f := .meth "Shell" "answer") rfl)
theorem me_Shell_told (T : TX w K mg) : Meth K (He.ga K "Shell") "told" (He.ma K (He.ga K "Shell") "told") := He.meth_ok (T.fact 140 (f := .meth "Shell" "told") rfl)
theorem me_Shell_sizes (T : TX w K mg) : Meth K (He.ga K "Shell") "sizes" (He.ma K (He.ga K "Shell") "sizes") := He.meth_ok (T.fact 141 (f := .meth "Shell" "sizes") rfl)
theorem cl_Yard (T : TX w K mg) : Cls K (He.ga K "Yard") := He.cls_ok (T.fact 142 (f := .cls "Yard") rfl)
theorem na_Yard_word (T : TX w K mg) : NoAttr K (He.ga K "Yard") "word" := He.noat_ok (T.fact 143 (f := .noat "Yard" "word") rfl)
theorem na_Yard_is_busy (T : TX w K mg) : NoAttr K (He.ga K "Yard") "is_busy" := He.noat_ok (T.fact 144 (f := .noat "Yard" "is_busy") rfl)
theorem na_Yard_pages (T : TX w K mg) : NoAttr K (He.ga K "Yard") "pages" := He.noat_ok (T.fact 145 (f := .noat "Yard" "pages") rfl)
theorem na_Yard_look (T : TX w K mg) : NoAttr K (He.ga K "Yard") "look" := He.noat_ok (T.fact 146 (f := .noat "Yard" "look") rfl)
theorem mk_Yard (T : TX w K mg) : Mk K (He.ga K "Yard") (He.ma K (He.ga K "Yard") "__init__") := He.mkr_ok (T.fact 147 (f := .mkr "Yard") rfl)
theorem me_Yard_stand (T : TX w K mg) : Meth K (He.ga K "Yard") "stand" (He.ma K (He.ga K "Yard") "stand") := He.meth_ok (T.fact 148 (f := .meth "Yard" "stand") rfl)
theorem me_Yard_judge (T : TX w K mg) : Meth K (He.ga K "Yard") "judge" (He.ma K (He.ga K "Yard") "judge") := He.meth_ok (T.fact 149 (f := .meth "Yard" "judge") rfl)
theorem me_Yard_require_free (T : TX w K mg) : Meth K (He.ga K "Yard") "require_free" (He.ma K (He.ga K "Yard") "require_free") := He.meth_ok (T.fact 150 (f := .meth "Yard" "require_free") rfl)
theorem me_Yard_tell (T : TX w K mg) : Meth K (He.ga K "Yard") "tell" (He.ma K (He.ga K "Yard") "tell") := He.meth_ok (T.fact 151 (f := .meth "Yard" "tell") rfl)
theorem me_Yard_do (T : TX w K mg) : Meth K (He.ga K "Yard") "do" (He.ma K (He.ga K "Yard") "do") := He.meth_ok (T.fact 152 (f := .meth "Yard" "do") rfl)
theorem me_Yard_edit (T : TX w K mg) : Meth K (He.ga K "Yard") "edit" (He.ma K (He.ga K "Yard") "edit") := He.meth_ok (T.fact 153 (f := .meth "Yard" "edit") rfl)
theorem me_Yard_side (T : TX w K mg) : Meth K (He.ga K "Yard") "side" (He.ma K (He.ga K "Yard") "side") := He.meth_ok (T.fact 154 (f := .meth "Yard" "side") rfl)
theorem me_Yard_brick (T : TX w K mg) : Meth K (He.ga K "Yard") "brick" (He.ma K (He.ga K "Yard") "brick") := He.meth_ok (T.fact 155 (f := .meth "Yard" "brick") rfl)
theorem me_Yard_swap (T : TX w K mg) : Meth K (He.ga K "Yard") "swap" (He.ma K (He.ga K "Yard") "swap") := He.meth_ok (T.fact 156 (f := .meth "Yard" "swap") rfl)
theorem me_Yard_turn (T : TX w K mg) : Meth K (He.ga K "Yard") "turn" (He.ma K (He.ga K "Yard") "turn") := He.meth_ok (T.fact 157 (f := .meth "Yard" "turn") rfl)
theorem me_Yard_stretch (T : TX w K mg) : Meth K (He.ga K "Yard") "stretch" (He.ma K (He.ga K "Yard") "stretch") := He.meth_ok (T.fact 158 (f := .meth "Yard" "stretch") rfl)
theorem me_Yard_undo (T : TX w K mg) : Meth K (He.ga K "Yard") "undo" (He.ma K (He.ga K "Yard") "undo") := He.meth_ok (T.fact 159 (f := .meth "Yard" "undo") rfl)
theorem me_Yard_state_at (T : TX w K mg) : Meth K (He.ga K "Yard") "state_at" (He.ma K (He.ga K "Yard") "state_at") := He.meth_ok (T.fact 160 (f := .meth "Yard" "state_at") rfl)
theorem me_Yard_iadd (T : TX w K mg) : Meth K (He.ga K "Yard") "__iadd__" (He.ma K (He.ga K "Yard") "__iadd__") := He.meth_ok (T.fact 161 (f := .meth "Yard" "__iadd__") rfl)
theorem me_Yard_bool (T : TX w K mg) : Meth K (He.ga K "Yard") "__bool__" (He.ma K (He.ga K "Yard") "__bool__") := He.meth_ok (T.fact 162 (f := .meth "Yard" "__bool__") rfl)
theorem me_Yard_str (T : TX w K mg) : Meth K (He.ga K "Yard") "__str__" (He.ma K (He.ga K "Yard") "__str__") := He.meth_ok (T.fact 163 (f := .meth "Yard" "__str__") rfl)
theorem me_Yard_eq (T : TX w K mg) : Meth K (He.ga K "Yard") "__eq__" (He.ma K (He.ga K "Yard") "__eq__") := He.meth_ok (T.fact 164 (f := .meth "Yard" "__eq__") rfl)
theorem em_NoAxis_BrickError (T : TX w K mg) : PySem.W.exmOne K (.ref (He.ga K "NoAxis")) (.ref (He.ga K "BrickError")) = some true := He.exm_ok (T.fact 165 (f := .exm "NoAxis" "BrickError" true) rfl)
theorem em_NothingToUndo_BrickError (T : TX w K mg) : PySem.W.exmOne K (.ref (He.ga K "NothingToUndo")) (.ref (He.ga K "BrickError")) = some true := He.exm_ok (T.fact 166 (f := .exm "NothingToUndo" "BrickError" true) rfl)
theorem em_NoAxis_NoAxis (T : TX w K mg) : PySem.W.exmOne K (.ref (He.ga K "NoAxis")) (.ref (He.ga K "NoAxis")) = some true := He.exm_ok (T.fact 167 (f := .exm "NoAxis" "NoAxis" true) rfl)
theorem em_NothingToUndo_NoAxis (T : TX w K mg) : PySem.W.exmOne K (.ref (He.ga K "NothingToUndo")) (.ref (He.ga K "NoAxis")) = some false := He.exm_ok (T.fact 168 (f := .exm "NothingToUndo" "NoAxis" false) rfl)
theorem em_NothingToUndo_NoKind (T : TX w K mg) : PySem.W.exmOne K (.ref (He.ga K "NothingToUndo")) (.ref (He.ga K "NoKind")) = some false := He.exm_ok (T.fact 169 (f := .exm "NothingToUndo" "NoKind" false) rfl)
theorem em_NothingToUndo_BadSide (T : TX w K mg) : PySem.W.exmOne K (.ref (He.ga K "NothingToUndo")) (.ref (He.ga K "BadSide")) = some false := He.exm_ok (T.fact 170 (f := .exm "NothingToUndo" "BadSide" false) rfl)
theorem em_NothingToUndo_BadOrder (T : TX w K mg) : PySem.W.exmOne K (.ref (He.ga K "NothingToUndo")) (.ref (He.ga K "BadOrder")) = some false := He.exm_ok (T.fact 171 (f := .exm "NothingToUndo" "BadOrder" false) rfl)
theorem em_NothingToUndo_TooLarge (T : TX w K mg) : PySem.W.exmOne K (.ref (He.ga K "NothingToUndo")) (.ref (He.ga K "TooLarge")) = some false := He.exm_ok (T.fact 172 (f := .exm "NothingToUndo" "TooLarge" false) rfl)
theorem em_NothingToUndo_NotFilled (T : TX w K mg) : PySem.W.exmOne K (.ref (He.ga K "NothingToUndo")) (.ref (He.ga K "NotFilled")) = some false := He.exm_ok (T.fact 173 (f := .exm "NothingToUndo" "NotFilled" false) rfl)
theorem em_NothingToUndo_NothingToUndo (T : TX w K mg) : PySem.W.exmOne K (.ref (He.ga K "NothingToUndo")) (.ref (He.ga K "NothingToUndo")) = some true := He.exm_ok (T.fact 174 (f := .exm "NothingToUndo" "NothingToUndo" true) rfl)
theorem p1_Shell_heard (T : TX w K mg) : PySem.W.findIn K (.ref (He.ga K "Shell")) "heard" = some (some (.ref (He.ma K (He.ga K "Shell") "heard"))) := of_decide_eq_true (T.ex 0 rfl)
theorem p2_Shell_heard (T : TX w K mg) : PySem.W.specialIn K (.ref (He.ma K (He.ga K "Shell") "heard")) "__get__" = some (some (.builtin "property.__get__")) := of_decide_eq_true (T.ex 1 rfl)
theorem p3_Shell_heard (T : TX w K mg) : PySem.W.takesIn K (.ref (He.ma K (He.ga K "Shell") "heard")) = some true := of_decide_eq_true (T.ex 2 rfl)
theorem p4_Shell_heard (T : TX w K mg) : (PySem.W.recIn K (He.ma K (He.ga K "Shell") "heard") "property").bind (·.head?) = some (.ref (pg K "Shell" "heard")) := of_decide_eq_true (T.ex 3 rfl)
theorem p1_Yard_pair (T : TX w K mg) : PySem.W.findIn K (.ref (He.ga K "Yard")) "pair" = some (some (.ref (He.ma K (He.ga K "Yard") "pair"))) := of_decide_eq_true (T.ex 4 rfl)
theorem p2_Yard_pair (T : TX w K mg) : PySem.W.specialIn K (.ref (He.ma K (He.ga K "Yard") "pair")) "__get__" = some (some (.builtin "property.__get__")) := of_decide_eq_true (T.ex 5 rfl)
theorem p3_Yard_pair (T : TX w K mg) : PySem.W.takesIn K (.ref (He.ma K (He.ga K "Yard") "pair")) = some true := of_decide_eq_true (T.ex 6 rfl)
theorem p4_Yard_pair (T : TX w K mg) : (PySem.W.recIn K (He.ma K (He.ga K "Yard") "pair") "property").bind (·.head?) = some (.ref (pg K "Yard" "pair")) := of_decide_eq_true (T.ex 7 rfl)
theorem p1_Yard_box (T : TX w K mg) : PySem.W.findIn K (.ref (He.ga K "Yard")) "box" = some (some (.ref (He.ma K (He.ga K "Yard") "box"))) := of_decide_eq_true (T.ex 8 rfl)
theorem p2_Yard_box (T : TX w K mg) : PySem.W.specialIn K (.ref (He.ma K (He.ga K "Yard") "box")) "__get__" = some (some (.builtin "property.__get__")) := of_decide_eq_true (T.ex 9 rfl)
theorem p3_Yard_box (T : TX w K mg) : PySem.W.takesIn K (.ref (He.ma K (He.ga K "Yard") "box")) = some true := of_decide_eq_true (T.ex 10 rfl)
theorem p4_Yard_box (T : TX w K mg) : (PySem.W.recIn K (He.ma K (He.ga K "Yard") "box") "property").bind (·.head?) = some (.ref (pg K "Yard" "box")) := of_decide_eq_true (T.ex 11 rfl)
theorem p1_Yard_version (T : TX w K mg) : PySem.W.findIn K (.ref (He.ga K "Yard")) "version" = some (some (.ref (He.ma K (He.ga K "Yard") "version"))) := of_decide_eq_true (T.ex 12 rfl)
theorem p2_Yard_version (T : TX w K mg) : PySem.W.specialIn K (.ref (He.ma K (He.ga K "Yard") "version")) "__get__" = some (some (.builtin "property.__get__")) := of_decide_eq_true (T.ex 13 rfl)
theorem p3_Yard_version (T : TX w K mg) : PySem.W.takesIn K (.ref (He.ma K (He.ga K "Yard") "version")) = some true := of_decide_eq_true (T.ex 14 rfl)
theorem p4_Yard_version (T : TX w K mg) : (PySem.W.recIn K (He.ma K (He.ga K "Yard") "version") "property").bind (·.head?) = some (.ref (pg K "Yard" "version")) := of_decide_eq_true (T.ex 15 rfl)
theorem p1_Yard_news (T : TX w K mg) : PySem.W.findIn K (.ref (He.ga K "Yard")) "news" = some (some (.ref (He.ma K (He.ga K "Yard") "news"))) := of_decide_eq_true (T.ex 16 rfl)
theorem p2_Yard_news (T : TX w K mg) : PySem.W.specialIn K (.ref (He.ma K (He.ga K "Yard") "news")) "__get__" = some (some (.builtin "property.__get__")) := of_decide_eq_true (T.ex 17 rfl)
theorem p3_Yard_news (T : TX w K mg) : PySem.W.takesIn K (.ref (He.ma K (He.ga K "Yard") "news")) = some true := of_decide_eq_true (T.ex 18 rfl)
theorem p4_Yard_news (T : TX w K mg) : (PySem.W.recIn K (He.ma K (He.ga K "Yard") "news") "property").bind (·.head?) = some (.ref (pg K "Yard" "news")) := of_decide_eq_true (T.ex 19 rfl)
theorem p1_Yard_paper (T : TX w K mg) : PySem.W.findIn K (.ref (He.ga K "Yard")) "paper" = some (some (.ref (He.ma K (He.ga K "Yard") "paper"))) := of_decide_eq_true (T.ex 20 rfl)
theorem p2_Yard_paper (T : TX w K mg) : PySem.W.specialIn K (.ref (He.ma K (He.ga K "Yard") "paper")) "__get__" = some (some (.builtin "property.__get__")) := of_decide_eq_true (T.ex 21 rfl)
theorem p3_Yard_paper (T : TX w K mg) : PySem.W.takesIn K (.ref (He.ma K (He.ga K "Yard") "paper")) = some true := of_decide_eq_true (T.ex 22 rfl)
theorem p4_Yard_paper (T : TX w K mg) : (PySem.W.recIn K (He.ma K (He.ga K "Yard") "paper") "property").bind (·.head?) = some (.ref (pg K "Yard" "paper")) := of_decide_eq_true (T.ex 23 rfl)
theorem k1_NoNumber (T : TX w K mg) : PySem.W.kitOne K (.ref (He.ga K "NoAxis")) (.ref (He.ga K "NoNumber")) = some false := of_decide_eq_true (T.ex 24 rfl)
theorem k1_NoSeam (T : TX w K mg) : PySem.W.kitOne K (.ref (He.ga K "NoAxis")) (.ref (He.ga K "NoSeam")) = some false := of_decide_eq_true (T.ex 25 rfl)
theorem k1_NoVersion (T : TX w K mg) : PySem.W.kitOne K (.ref (He.ga K "NoAxis")) (.ref (He.ga K "NoVersion")) = some false := of_decide_eq_true (T.ex 26 rfl)
theorem k1_NotFilled (T : TX w K mg) : PySem.W.kitOne K (.ref (He.ga K "NoAxis")) (.ref (He.ga K "NotFilled")) = some false := of_decide_eq_true (T.ex 27 rfl)
theorem k1_NothingToUndo (T : TX w K mg) : PySem.W.kitOne K (.ref (He.ga K "NoAxis")) (.ref (He.ga K "NothingToUndo")) = some false := of_decide_eq_true (T.ex 28 rfl)
theorem k1_Rejected (T : TX w K mg) : PySem.W.kitOne K (.ref (He.ga K "NoAxis")) (.ref (He.ga K "Rejected")) = some false := of_decide_eq_true (T.ex 29 rfl)
theorem k1_TooLarge (T : TX w K mg) : PySem.W.kitOne K (.ref (He.ga K "NoAxis")) (.ref (He.ga K "TooLarge")) = some false := of_decide_eq_true (T.ex 30 rfl)
theorem k1_TooManyEdits (T : TX w K mg) : PySem.W.kitOne K (.ref (He.ga K "NoAxis")) (.ref (He.ga K "TooManyEdits")) = some false := of_decide_eq_true (T.ex 31 rfl)
theorem k1_UnlikeAxes (T : TX w K mg) : PySem.W.kitOne K (.ref (He.ga K "NoAxis")) (.ref (He.ga K "UnlikeAxes")) = some false := of_decide_eq_true (T.ex 32 rfl)
theorem k1_Unfit (T : TX w K mg) : PySem.W.kitOne K (.ref (He.ga K "NoAxis")) (.ref (He.ga K "Unfit")) = some false := of_decide_eq_true (T.ex 33 rfl)
theorem k1_BadBatch (T : TX w K mg) : PySem.W.kitOne K (.ref (He.ga K "NoAxis")) (.ref (He.ga K "BadBatch")) = some false := of_decide_eq_true (T.ex 34 rfl)
theorem k1_BadBox (T : TX w K mg) : PySem.W.kitOne K (.ref (He.ga K "NoAxis")) (.ref (He.ga K "BadBox")) = some false := of_decide_eq_true (T.ex 35 rfl)
theorem k1_BadKinds (T : TX w K mg) : PySem.W.kitOne K (.ref (He.ga K "NoAxis")) (.ref (He.ga K "BadKinds")) = some false := of_decide_eq_true (T.ex 36 rfl)
theorem k1_BadOrder (T : TX w K mg) : PySem.W.kitOne K (.ref (He.ga K "NoAxis")) (.ref (He.ga K "BadOrder")) = some false := of_decide_eq_true (T.ex 37 rfl)
theorem k1_BadPaper (T : TX w K mg) : PySem.W.kitOne K (.ref (He.ga K "NoAxis")) (.ref (He.ga K "BadPaper")) = some false := of_decide_eq_true (T.ex 38 rfl)
theorem k1_BadSide (T : TX w K mg) : PySem.W.kitOne K (.ref (He.ga K "NoAxis")) (.ref (He.ga K "BadSide")) = some false := of_decide_eq_true (T.ex 39 rfl)
theorem k1_BadText (T : TX w K mg) : PySem.W.kitOne K (.ref (He.ga K "NoAxis")) (.ref (He.ga K "BadText")) = some false := of_decide_eq_true (T.ex 40 rfl)
theorem k1_Busy (T : TX w K mg) : PySem.W.kitOne K (.ref (He.ga K "NoAxis")) (.ref (He.ga K "Busy")) = some false := of_decide_eq_true (T.ex 41 rfl)
theorem k1_NoAxis (T : TX w K mg) : PySem.W.kitOne K (.ref (He.ga K "NoAxis")) (.ref (He.ga K "NoAxis")) = some true := of_decide_eq_true (T.ex 42 rfl)
theorem k2_NoNumber (T : TX w K mg) : PySem.W.kitOne K (.ref (He.ga K "NothingToUndo")) (.ref (He.ga K "NoNumber")) = some false := of_decide_eq_true (T.ex 43 rfl)
theorem k2_NoSeam (T : TX w K mg) : PySem.W.kitOne K (.ref (He.ga K "NothingToUndo")) (.ref (He.ga K "NoSeam")) = some false := of_decide_eq_true (T.ex 44 rfl)
theorem k2_NoVersion (T : TX w K mg) : PySem.W.kitOne K (.ref (He.ga K "NothingToUndo")) (.ref (He.ga K "NoVersion")) = some false := of_decide_eq_true (T.ex 45 rfl)
theorem k2_NotFilled (T : TX w K mg) : PySem.W.kitOne K (.ref (He.ga K "NothingToUndo")) (.ref (He.ga K "NotFilled")) = some false := of_decide_eq_true (T.ex 46 rfl)
theorem k2_NothingToUndo (T : TX w K mg) : PySem.W.kitOne K (.ref (He.ga K "NothingToUndo")) (.ref (He.ga K "NothingToUndo")) = some true := of_decide_eq_true (T.ex 47 rfl)
theorem v_DEEDS (T : TX w K mg) : He.valsB K (He.ga K "DEEDS") [("side", .glo "put_side"), ("brick", .glo "put_brick"), ("swap", .glo "swapped"), ("turn", .glo "turned"), ("stretch", .glo "stretched"), ("more", .glo "more")] = true := T.ex 48 rfl
theorem v_SHAPES (T : TX w K mg) : He.valsB K (He.ga K "SHAPES") [("side", .str "dn"), ("brick", .str "ddn"), ("swap", .str ""), ("stretch", .str "dn"), ("more", .str "n"), ("undo", .str ""), ("show", .str ""), ("paper", .str ""), ("filled", .str ""), ("news", .str ""), ("along", .str "d"), ("next", .str "dn"), ("cuts", .str ""), ("cut", .str "n")] = true := T.ex 49 rfl
theorem e_paper (T : TX w K mg) : He.ga K "paper_papers" = He.ga K "paper" := of_decide_eq_true (T.ex 50 rfl)
theorem c_SORT (T : TX w K mg) : He.conB K "Yard" "SORT" (.str "yard") = true := T.ex 51 rfl
theorem w_Shell_call (T : TX w K mg) : PySem.W.fnIn K (He.ma K (He.ga K "Shell") "__call__") = true := of_decide_eq_true (T.ex 52 rfl)
theorem bm1_Yard_edit (T : TX w K mg) : PySem.W.specialIn K (.ref (He.ma K (He.ga K "Yard") "edit")) "__get__" = some (some (.builtin "function.__get__")) := of_decide_eq_true (T.ex 53 rfl)
theorem bm2_Yard_edit (T : TX w K mg) : PySem.W.takesIn K (.ref (He.ma K (He.ga K "Yard") "edit")) = some false := of_decide_eq_true (T.ex 54 rfl)
theorem bm3_Yard_edit (T : TX w K mg) : PySem.W.fnIn K (He.ma K (He.ga K "Yard") "edit") = true := of_decide_eq_true (T.ex 55 rfl)
theorem tc1_Yard (T : TX w K mg) : PySem.W.findIn K (.ref (He.ga K "Yard")) "__class__" = some (some (.builtin "object.__class__")) := of_decide_eq_true (T.ex 56 rfl)
theorem tc2_Yard (T : TX w K mg) : PySem.W.specialIn K (.builtin "object.__class__") "__get__" = some (some (.builtin "getset_descriptor.__get__")) := of_decide_eq_true (T.ex 57 rfl)
theorem tc3_Yard (T : TX w K mg) : PySem.W.takesIn K (.builtin "object.__class__") = some true := of_decide_eq_true (T.ex 58 rfl)
theorem tc4_Yard (T : TX w K mg) : PySem.W.mroIn K (He.ga K "Yard") (.type "object") = some true := of_decide_eq_true (T.ex 59 rfl)
theorem ky_Yard (T : TX w K mg) : PySem.W.kitOne K (.ref (He.ga K "Yard")) (.ref (He.ga K "Yard")) = some true := of_decide_eq_true (T.ex 60 rfl)
theorem ym_Yard (T : TX w K mg) : ((PySem.W.clsIn K (He.ga K "Yard")).any fun cd => cd.mro.head? == some (.ref (He.ga K "Yard"))) = true := T.ex 61 rfl
theorem nx_sa (T : TX w K mg) : PySem.W.findIn K (.ref (He.ga K "NoAxis")) "__setattr__" = some (some (.builtin "object.__setattr__")) := of_decide_eq_true (T.ex 62 rfl)
theorem nx_ex (T : TX w K mg) : PySem.W.subIn K (.ref (He.ga K "NoAxis")) (.type "BaseException") = some true := of_decide_eq_true (T.ex 63 rfl)
theorem nx_ve (T : TX w K mg) : PySem.W.subIn K (.ref (He.ga K "NoAxis")) (.type "ValueError") = some true := of_decide_eq_true (T.ex 64 rfl)
theorem nx_sub (T : TX w K mg) : PySem.W.subIn K (.ref (He.ga K "NoAxis")) (.ref (He.ga K "NoAxis")) = some true := of_decide_eq_true (T.ex 65 rfl)
theorem nx_ty (T : TX w K mg) : PySem.W.typeIn K (.ref (He.ga K "NoAxis")) = some (.type "type") := of_decide_eq_true (T.ex 66 rfl)
theorem nx_kp (T : TX w K mg) : PySem.W.keepIn K (.ref (He.ga K "NoAxis")) = true := T.ex 67 rfl
theorem nx_cls (T : TX w K mg) : oexB K (He.ga K "NoAxis") = true := T.ex 68 rfl
theorem nx_giv (T : TX w K mg) : PySem.W.findIn K (.ref (He.ga K "NoAxis")) "given" = some none := of_decide_eq_true (T.ex 69 rfl)
theorem nx_sup (T : TX w K mg) : PySem.W.ks_superIn K (He.ga K "NoAxis") (He.ga K "NoAxis") "__init__" = some (some (.builtin "ValueError.__init__")) := of_decide_eq_true (T.ex 70 rfl)
theorem nx_ini (T : TX w K mg) : PySem.W.findIn K (.ref (He.ga K "NoAxis")) "__init__" = some (some (.ref (iaN K))) := of_decide_eq_true (T.ex 71 rfl)
theorem nx_tyf (T : TX w K mg) : PySem.W.typeIn K (.ref (iaN K)) = some (.type "function") := of_decide_eq_true (T.ex 72 rfl)
theorem st_any (T : TX w K mg) : PySem.W.nsIn K PySem.cStatics "thirdparty.any" = some none := of_decide_eq_true (T.ex 73 rfl)
theorem nx_in (T : TX w K mg) : naB K = true := T.ex 74 rfl
theorem nx_xf (T : TX w K mg) : xfB K (He.ga K "NoAxis") = true := T.ex 75 rfl
theorem nx_cl (T : TX w K mg) : PySem.W.findIn K (.ref (He.ga K "NoAxis")) "__class__" = some (some (.builtin "object.__class__")) := of_decide_eq_true (T.ex 76 rfl)
theorem nx_ob (T : TX w K mg) : PySem.W.mroIn K (He.ga K "NoAxis") (.type "object") = some true := of_decide_eq_true (T.ex 77 rfl)
theorem nu_xf (T : TX w K mg) : xfB K (He.ga K "NothingToUndo") = true := T.ex 78 rfl
theorem nu_cl (T : TX w K mg) : PySem.W.findIn K (.ref (He.ga K "NothingToUndo")) "__class__" = some (some (.builtin "object.__class__")) := of_decide_eq_true (T.ex 79 rfl)
theorem nu_ob (T : TX w K mg) : PySem.W.mroIn K (He.ga K "NothingToUndo") (.type "object") = some true := of_decide_eq_true (T.ex 80 rfl)
theorem nu_ex (T : TX w K mg) : PySem.W.excIn K (He.ga K "NothingToUndo") He.veBase "ValueError.__new__" = true := T.ex 81 rfl
theorem nu_kp (T : TX w K mg) : PySem.W.keepIn K (.ref (He.ga K "NothingToUndo")) = true := T.ex 82 rfl
theorem nu_be (T : TX w K mg) : PySem.W.subIn K (.ref (He.ga K "NothingToUndo")) (.type "BaseException") = some true := of_decide_eq_true (T.ex 83 rfl)
theorem nu_ty (T : TX w K mg) : PySem.W.typeIn K (.ref (He.ga K "NothingToUndo")) = some (.type "type") := of_decide_eq_true (T.ex 84 rfl)
abbrev a_first_name (K : PySem.W.Frag) : Addr := He.ga K "first_name"
theorem f_first_name (T : TX w K mg) : ∃ fd, FunD K "first_name" "first_name" (defArgs s_first_name) (defBody s_first_name) (defScope s_first_name) [] [] (a_first_name K) fd := T.def_ 0 (d := d_first_name) rfl
theorem kp_first_name (T : TX w K mg) : PySem.W.keepIn K (.ref (a_first_name K)) = true := let ⟨_, F⟩ := f_first_name T; F.kp
abbrev a_name_of (K : PySem.W.Frag) : Addr := He.ga K "name_of"
theorem f_name_of (T : TX w K mg) : ∃ fd, FunD K "name_of" "name_of" (defArgs s_name_of) (defBody s_name_of) (defScope s_name_of) [] [] (a_name_of K) fd := T.def_ 1 (d := d_name_of) rfl
theorem kp_name_of (T : TX w K mg) : PySem.W.keepIn K (.ref (a_name_of K)) = true := let ⟨_, F⟩ := f_name_of T; F.kp
abbrev a_is_integer (K : PySem.W.Frag) : Addr := He.ga K "is_integer"
theorem f_is_integer (T : TX w K mg) : ∃ fd, FunD K "is_integer" "is_integer" (defArgs s_is_integer) (defBody s_is_integer) (defScope s_is_integer) [] [] (a_is_integer K) fd := T.def_ 2 (d := d_is_integer) rfl
theorem kp_is_integer (T : TX w K mg) : PySem.W.keepIn K (.ref (a_is_integer K)) = true := let ⟨_, F⟩ := f_is_integer T; F.kp
abbrev a_sides_error (K : PySem.W.Frag) : Addr := He.ga K "sides_error"
theorem f_sides_error (T : TX w K mg) : ∃ fd, FunD K "sides_error" "sides_error" (defArgs s_sides_error) (defBody s_sides_error) (defScope s_sides_error) [] [] (a_sides_error K) fd := T.def_ 3 (d := d_sides_error) rfl
theorem kp_sides_error (T : TX w K mg) : PySem.W.keepIn K (.ref (a_sides_error K)) = true := let ⟨_, F⟩ := f_sides_error T; F.kp
abbrev a_kinds_error (K : PySem.W.Frag) : Addr := He.ga K "kinds_error"
theorem f_kinds_error (T : TX w K mg) : ∃ fd, FunD K "kinds_error" "kinds_error" (defArgs s_kinds_error) (defBody s_kinds_error) (defScope s_kinds_error) [] [] (a_kinds_error K) fd := T.def_ 4 (d := d_kinds_error) rfl
theorem kp_kinds_error (T : TX w K mg) : PySem.W.keepIn K (.ref (a_kinds_error K)) = true := let ⟨_, F⟩ := f_kinds_error T; F.kp
abbrev a_pair_error (K : PySem.W.Frag) : Addr := He.ga K "pair_error"
theorem f_pair_error (T : TX w K mg) : ∃ fd, FunD K "pair_error" "pair_error" (defArgs s_pair_error) (defBody s_pair_error) (defScope s_pair_error) [] [] (a_pair_error K) fd := T.def_ 5 (d := d_pair_error) rfl
theorem kp_pair_error (T : TX w K mg) : PySem.W.keepIn K (.ref (a_pair_error K)) = true := let ⟨_, F⟩ := f_pair_error T; F.kp
abbrev a_box_error (K : PySem.W.Frag) : Addr := He.ga K "box_error"
theorem f_box_error (T : TX w K mg) : ∃ fd, FunD K "box_error" "box_error" (defArgs s_box_error) (defBody s_box_error) (defScope s_box_error) [] [] (a_box_error K) fd := T.def_ 6 (d := d_box_error) rfl
theorem kp_box_error (T : TX w K mg) : PySem.W.keepIn K (.ref (a_box_error K)) = true := let ⟨_, F⟩ := f_box_error T; F.kp
abbrev a_with_side (K : PySem.W.Frag) : Addr := He.ga K "with_side"
theorem f_with_side (T : TX w K mg) : ∃ fd, FunD K "with_side" "with_side" (defArgs s_with_side) (defBody s_with_side) (defScope s_with_side) [] [] (a_with_side K) fd := T.def_ 7 (d := d_with_side) rfl
theorem kp_with_side (T : TX w K mg) : PySem.W.keepIn K (.ref (a_with_side K)) = true := let ⟨_, F⟩ := f_with_side T; F.kp
abbrev a_common (K : PySem.W.Frag) : Addr := He.ga K "common"
theorem f_common (T : TX w K mg) : ∃ fd, FunD K "common" "common" (defArgs s_common) (defBody s_common) (defScope s_common) [] [] (a_common K) fd := T.def_ 8 (d := d_common) rfl
theorem kp_common (T : TX w K mg) : PySem.W.keepIn K (.ref (a_common K)) = true := let ⟨_, F⟩ := f_common T; F.kp
abbrev a_joint (K : PySem.W.Frag) : Addr := He.ga K "joint"
theorem f_joint (T : TX w K mg) : ∃ fd, FunD K "joint" "joint" (defArgs s_joint) (defBody s_joint) (defScope s_joint) [] [] (a_joint K) fd := T.def_ 9 (d := d_joint) rfl
theorem kp_joint (T : TX w K mg) : PySem.W.keepIn K (.ref (a_joint K)) = true := let ⟨_, F⟩ := f_joint T; F.kp
abbrev a_inverse (K : PySem.W.Frag) : Addr := He.ga K "inverse"
theorem f_inverse (T : TX w K mg) : ∃ fd, FunD K "inverse" "inverse" (defArgs s_inverse) (defBody s_inverse) (defScope s_inverse) [] [] (a_inverse K) fd := T.def_ 10 (d := d_inverse) rfl
theorem kp_inverse (T : TX w K mg) : PySem.W.keepIn K (.ref (a_inverse K)) = true := let ⟨_, F⟩ := f_inverse T; F.kp
abbrev a_least_times (K : PySem.W.Frag) : Addr := He.ga K "least_times"
theorem f_least_times (T : TX w K mg) : ∃ fd, FunD K "least_times" "least_times" (defArgs s_least_times) (defBody s_least_times) (defScope s_least_times) [] [] (a_least_times K) fd := T.def_ 11 (d := d_least_times) rfl
theorem kp_least_times (T : TX w K mg) : PySem.W.keepIn K (.ref (a_least_times K)) = true := let ⟨_, F⟩ := f_least_times T; F.kp
abbrev a_is_sum (K : PySem.W.Frag) : Addr := He.ga K "is_sum"
theorem f_is_sum (T : TX w K mg) : ∃ fd, FunD K "is_sum" "is_sum" (defArgs s_is_sum) (defBody s_is_sum) (defScope s_is_sum) [] [] (a_is_sum K) fd := T.def_ 12 (d := d_is_sum) rfl
theorem kp_is_sum (T : TX w K mg) : PySem.W.keepIn K (.ref (a_is_sum K)) = true := let ⟨_, F⟩ := f_is_sum T; F.kp
abbrev a_floors (K : PySem.W.Frag) : Addr := He.ga K "floors"
theorem f_floors (T : TX w K mg) : ∃ fd, FunD K "floors" "floors" (defArgs s_floors) (defBody s_floors) (defScope s_floors) [] [] (a_floors K) fd := T.def_ 13 (d := d_floors) rfl
theorem kp_floors (T : TX w K mg) : PySem.W.keepIn K (.ref (a_floors K)) = true := let ⟨_, F⟩ := f_floors T; F.kp
abbrev a_count_sums (K : PySem.W.Frag) : Addr := He.ga K "count_sums"
theorem f_count_sums (T : TX w K mg) : ∃ fd, FunD K "count_sums" "count_sums" (defArgs s_count_sums) (defBody s_count_sums) (defScope s_count_sums) [] [] (a_count_sums K) fd := T.def_ 14 (d := d_count_sums) rfl
theorem kp_count_sums (T : TX w K mg) : PySem.W.keepIn K (.ref (a_count_sums K)) = true := let ⟨_, F⟩ := f_count_sums T; F.kp
abbrev a_rests_papers (K : PySem.W.Frag) : Addr := He.ga K "rests_papers"
theorem f_rests_papers (T : TX w K mg) : ∃ fd, FunD K "rests" "rests" (defArgs s_rests_papers) (defBody s_rests_papers) (defScope s_rests_papers) [] [] (a_rests_papers K) fd := T.def_ 15 (d := d_rests_papers) rfl
theorem kp_rests_papers (T : TX w K mg) : PySem.W.keepIn K (.ref (a_rests_papers K)) = true := let ⟨_, F⟩ := f_rests_papers T; F.kp
abbrev a_bar_along (K : PySem.W.Frag) : Addr := He.ga K "bar_along"
theorem f_bar_along (T : TX w K mg) : ∃ fd, FunD K "bar_along" "bar_along" (defArgs s_bar_along) (defBody s_bar_along) (defScope s_bar_along) [] [] (a_bar_along K) fd := T.def_ 16 (d := d_bar_along) rfl
theorem kp_bar_along (T : TX w K mg) : PySem.W.keepIn K (.ref (a_bar_along K)) = true := let ⟨_, F⟩ := f_bar_along T; F.kp
abbrev a_crossing (K : PySem.W.Frag) : Addr := He.ga K "crossing"
theorem f_crossing (T : TX w K mg) : ∃ fd, FunD K "crossing" "crossing" (defArgs s_crossing) (defBody s_crossing) (defScope s_crossing) [] [] (a_crossing K) fd := T.def_ 17 (d := d_crossing) rfl
theorem kp_crossing (T : TX w K mg) : PySem.W.keepIn K (.ref (a_crossing K)) = true := let ⟨_, F⟩ := f_crossing T; F.kp
abbrev a_paper (K : PySem.W.Frag) : Addr := He.ga K "paper"
theorem f_paper (T : TX w K mg) : ∃ fd, FunD K "paper" "paper" (defArgs s_paper) (defBody s_paper) (defScope s_paper) [] [] (a_paper K) fd := T.def_ 18 (d := d_paper) rfl
theorem kp_paper (T : TX w K mg) : PySem.W.keepIn K (.ref (a_paper K)) = true := let ⟨_, F⟩ := f_paper T; F.kp
abbrev a_is_filled (K : PySem.W.Frag) : Addr := He.ga K "is_filled"
theorem f_is_filled (T : TX w K mg) : ∃ fd, FunD K "is_filled" "is_filled" (defArgs s_is_filled) (defBody s_is_filled) (defScope s_is_filled) [] [] (a_is_filled K) fd := T.def_ 19 (d := d_is_filled) rfl
theorem kp_is_filled (T : TX w K mg) : PySem.W.keepIn K (.ref (a_is_filled K)) = true := let ⟨_, F⟩ := f_is_filled T; F.kp
abbrev a_all_cuts (K : PySem.W.Frag) : Addr := He.ga K "all_cuts"
theorem f_all_cuts (T : TX w K mg) : ∃ fd, FunD K "all_cuts" "all_cuts" (defArgs s_all_cuts) (defBody s_all_cuts) (defScope s_all_cuts) [] [] (a_all_cuts K) fd := T.def_ 20 (d := d_all_cuts) rfl
theorem kp_all_cuts (T : TX w K mg) : PySem.W.keepIn K (.ref (a_all_cuts K)) = true := let ⟨_, F⟩ := f_all_cuts T; F.kp
abbrev a_count_cuts (K : PySem.W.Frag) : Addr := He.ga K "count_cuts"
theorem f_count_cuts (T : TX w K mg) : ∃ fd, FunD K "count_cuts" "count_cuts" (defArgs s_count_cuts) (defBody s_count_cuts) (defScope s_count_cuts) [] [] (a_count_cuts K) fd := T.def_ 21 (d := d_count_cuts) rfl
theorem kp_count_cuts (T : TX w K mg) : PySem.W.keepIn K (.ref (a_count_cuts K)) = true := let ⟨_, F⟩ := f_count_cuts T; F.kp
abbrev a_cut_at (K : PySem.W.Frag) : Addr := He.ga K "cut_at"
theorem f_cut_at (T : TX w K mg) : ∃ fd, FunD K "cut_at" "cut_at" (defArgs s_cut_at) (defBody s_cut_at) (defScope s_cut_at) [] [] (a_cut_at K) fd := T.def_ 22 (d := d_cut_at) rfl
theorem kp_cut_at (T : TX w K mg) : PySem.W.keepIn K (.ref (a_cut_at K)) = true := let ⟨_, F⟩ := f_cut_at T; F.kp
abbrev a_sums_of (K : PySem.W.Frag) : Addr := He.ga K "sums_of"
theorem f_sums_of (T : TX w K mg) : ∃ fd, FunD K "sums_of" "sums_of" (defArgs s_sums_of) (defBody s_sums_of) (defScope s_sums_of) [] [] (a_sums_of K) fd := T.def_ 23 (d := d_sums_of) rfl
theorem kp_sums_of (T : TX w K mg) : PySem.W.keepIn K (.ref (a_sums_of K)) = true := let ⟨_, F⟩ := f_sums_of T; F.kp
abbrev a_rests_sizes (K : PySem.W.Frag) : Addr := He.ga K "rests_sizes"
theorem f_rests_sizes (T : TX w K mg) : ∃ fd, FunD K "rests" "rests" (defArgs s_rests_sizes) (defBody s_rests_sizes) (defScope s_rests_sizes) [] [] (a_rests_sizes K) fd := T.def_ 24 (d := d_rests_sizes) rfl
theorem kp_rests_sizes (T : TX w K mg) : PySem.W.keepIn K (.ref (a_rests_sizes K)) = true := let ⟨_, F⟩ := f_rests_sizes T; F.kp
abbrev a_along (K : PySem.W.Frag) : Addr := He.ga K "along"
theorem f_along (T : TX w K mg) : ∃ fd, FunD K "along" "along" (defArgs s_along) (defBody s_along) (defScope s_along) [] [] (a_along K) fd := T.def_ 25 (d := d_along) rfl
theorem kp_along (T : TX w K mg) : PySem.W.keepIn K (.ref (a_along K)) = true := let ⟨_, F⟩ := f_along T; F.kp
abbrev a_count_by (K : PySem.W.Frag) : Addr := He.ga K "count_by"
theorem f_count_by (T : TX w K mg) : ∃ fd, FunD K "count_by" "count_by" (defArgs s_count_by) (defBody s_count_by) (defScope s_count_by) [] [] (a_count_by K) fd := T.def_ 26 (d := d_count_by) rfl
theorem kp_count_by (T : TX w K mg) : PySem.W.keepIn K (.ref (a_count_by K)) = true := let ⟨_, F⟩ := f_count_by T; F.kp
abbrev a_least_with (K : PySem.W.Frag) : Addr := He.ga K "least_with"
theorem f_least_with (T : TX w K mg) : ∃ fd, FunD K "least_with" "least_with" (defArgs s_least_with) (defBody s_least_with) (defScope s_least_with) [] [] (a_least_with K) fd := T.def_ 27 (d := d_least_with) rfl
theorem kp_least_with (T : TX w K mg) : PySem.W.keepIn K (.ref (a_least_with K)) = true := let ⟨_, F⟩ := f_least_with T; F.kp
abbrev a_sum_at (K : PySem.W.Frag) : Addr := He.ga K "sum_at"
theorem f_sum_at (T : TX w K mg) : ∃ fd, FunD K "sum_at" "sum_at" (defArgs s_sum_at) (defBody s_sum_at) (defScope s_sum_at) [] [] (a_sum_at K) fd := T.def_ 28 (d := d_sum_at) rfl
theorem kp_sum_at (T : TX w K mg) : PySem.W.keepIn K (.ref (a_sum_at K)) = true := let ⟨_, F⟩ := f_sum_at T; F.kp
abbrev a_numbered (K : PySem.W.Frag) : Addr := He.ga K "numbered"
theorem f_numbered (T : TX w K mg) : ∃ fd, FunD K "numbered" "numbered" (defArgs s_numbered) (defBody s_numbered) (defScope s_numbered) [] [] (a_numbered K) fd := T.def_ 29 (d := d_numbered) rfl
theorem kp_numbered (T : TX w K mg) : PySem.W.keepIn K (.ref (a_numbered K)) = true := let ⟨_, F⟩ := f_numbered T; F.kp
abbrev a_next_side (K : PySem.W.Frag) : Addr := He.ga K "next_side"
theorem f_next_side (T : TX w K mg) : ∃ fd, FunD K "next_side" "next_side" (defArgs s_next_side) (defBody s_next_side) (defScope s_next_side) [] [] (a_next_side K) fd := T.def_ 30 (d := d_next_side) rfl
theorem kp_next_side (T : TX w K mg) : PySem.W.keepIn K (.ref (a_next_side K)) = true := let ⟨_, F⟩ := f_next_side T; F.kp
abbrev a_is_number (K : PySem.W.Frag) : Addr := He.ga K "is_number"
theorem f_is_number (T : TX w K mg) : ∃ fd, FunD K "is_number" "is_number" (defArgs s_is_number) (defBody s_is_number) (defScope s_is_number) [] [] (a_is_number K) fd := T.def_ 31 (d := d_is_number) rfl
theorem kp_is_number (T : TX w K mg) : PySem.W.keepIn K (.ref (a_is_number K)) = true := let ⟨_, F⟩ := f_is_number T; F.kp
abbrev a_fits (K : PySem.W.Frag) : Addr := He.ga K "fits"
theorem f_fits (T : TX w K mg) : ∃ fd, FunD K "fits" "fits" (defArgs s_fits) (defBody s_fits) (defScope s_fits) [] [] (a_fits K) fd := T.def_ 32 (d := d_fits) rfl
theorem kp_fits (T : TX w K mg) : PySem.W.keepIn K (.ref (a_fits K)) = true := let ⟨_, F⟩ := f_fits T; F.kp
abbrev a_spoken (K : PySem.W.Frag) : Addr := He.ga K "spoken"
theorem f_spoken (T : TX w K mg) : ∃ fd, FunD K "spoken" "spoken" (defArgs s_spoken) (defBody s_spoken) (defScope s_spoken) [] [] (a_spoken K) fd := T.def_ 33 (d := d_spoken) rfl
theorem kp_spoken (T : TX w K mg) : PySem.W.keepIn K (.ref (a_spoken K)) = true := let ⟨_, F⟩ := f_spoken T; F.kp
abbrev a_sides_text (K : PySem.W.Frag) : Addr := He.ga K "sides_text"
theorem f_sides_text (T : TX w K mg) : ∃ fd, FunD K "sides_text" "sides_text" (defArgs s_sides_text) (defBody s_sides_text) (defScope s_sides_text) [] [] (a_sides_text K) fd := T.def_ 34 (d := d_sides_text) rfl
theorem kp_sides_text (T : TX w K mg) : PySem.W.keepIn K (.ref (a_sides_text K)) = true := let ⟨_, F⟩ := f_sides_text T; F.kp
abbrev a_kinds_text (K : PySem.W.Frag) : Addr := He.ga K "kinds_text"
theorem f_kinds_text (T : TX w K mg) : ∃ fd, FunD K "kinds_text" "kinds_text" (defArgs s_kinds_text) (defBody s_kinds_text) (defScope s_kinds_text) [] [] (a_kinds_text K) fd := T.def_ 35 (d := d_kinds_text) rfl
theorem kp_kinds_text (T : TX w K mg) : PySem.W.keepIn K (.ref (a_kinds_text K)) = true := let ⟨_, F⟩ := f_kinds_text T; F.kp
abbrev a_require_axis (K : PySem.W.Frag) : Addr := He.ga K "require_axis"
theorem f_require_axis (T : TX w K mg) : ∃ fd, FunD K "require_axis" "require_axis" (defArgs s_require_axis) (defBody s_require_axis) (defScope s_require_axis) [] [] (a_require_axis K) fd := T.def_ 36 (d := d_require_axis) rfl
theorem kp_require_axis (T : TX w K mg) : PySem.W.keepIn K (.ref (a_require_axis K)) = true := let ⟨_, F⟩ := f_require_axis T; F.kp
abbrev a_require_side (K : PySem.W.Frag) : Addr := He.ga K "require_side"
theorem f_require_side (T : TX w K mg) : ∃ fd, FunD K "require_side" "require_side" (defArgs s_require_side) (defBody s_require_side) (defScope s_require_side) [] [] (a_require_side K) fd := T.def_ 37 (d := d_require_side) rfl
theorem kp_require_side (T : TX w K mg) : PySem.W.keepIn K (.ref (a_require_side K)) = true := let ⟨_, F⟩ := f_require_side T; F.kp
abbrev a_put_side (K : PySem.W.Frag) : Addr := He.ga K "put_side"
theorem f_put_side (T : TX w K mg) : ∃ fd, FunD K "put_side" "put_side" (defArgs s_put_side) (defBody s_put_side) (defScope s_put_side) [] [] (a_put_side K) fd := T.def_ 38 (d := d_put_side) rfl
theorem kp_put_side (T : TX w K mg) : PySem.W.keepIn K (.ref (a_put_side K)) = true := let ⟨_, F⟩ := f_put_side T; F.kp
abbrev a_put_brick (K : PySem.W.Frag) : Addr := He.ga K "put_brick"
theorem f_put_brick (T : TX w K mg) : ∃ fd, FunD K "put_brick" "put_brick" (defArgs s_put_brick) (defBody s_put_brick) (defScope s_put_brick) [] [] (a_put_brick K) fd := T.def_ 39 (d := d_put_brick) rfl
theorem kp_put_brick (T : TX w K mg) : PySem.W.keepIn K (.ref (a_put_brick K)) = true := let ⟨_, F⟩ := f_put_brick T; F.kp
abbrev a_swapped (K : PySem.W.Frag) : Addr := He.ga K "swapped"
theorem f_swapped (T : TX w K mg) : ∃ fd, FunD K "swapped" "swapped" (defArgs s_swapped) (defBody s_swapped) (defScope s_swapped) [] [] (a_swapped K) fd := T.def_ 40 (d := d_swapped) rfl
theorem kp_swapped (T : TX w K mg) : PySem.W.keepIn K (.ref (a_swapped K)) = true := let ⟨_, F⟩ := f_swapped T; F.kp
abbrev a_is_order (K : PySem.W.Frag) : Addr := He.ga K "is_order"
theorem f_is_order (T : TX w K mg) : ∃ fd, FunD K "is_order" "is_order" (defArgs s_is_order) (defBody s_is_order) (defScope s_is_order) [] [] (a_is_order K) fd := T.def_ 41 (d := d_is_order) rfl
theorem kp_is_order (T : TX w K mg) : PySem.W.keepIn K (.ref (a_is_order K)) = true := let ⟨_, F⟩ := f_is_order T; F.kp
abbrev a_turned (K : PySem.W.Frag) : Addr := He.ga K "turned"
theorem f_turned (T : TX w K mg) : ∃ fd, FunD K "turned" "turned" (defArgs s_turned) (defBody s_turned) (defScope s_turned) [] [] (a_turned K) fd := T.def_ 42 (d := d_turned) rfl
theorem kp_turned (T : TX w K mg) : PySem.W.keepIn K (.ref (a_turned K)) = true := let ⟨_, F⟩ := f_turned T; F.kp
abbrev a_stretched (K : PySem.W.Frag) : Addr := He.ga K "stretched"
theorem f_stretched (T : TX w K mg) : ∃ fd, FunD K "stretched" "stretched" (defArgs s_stretched) (defBody s_stretched) (defScope s_stretched) [] [] (a_stretched K) fd := T.def_ 43 (d := d_stretched) rfl
theorem kp_stretched (T : TX w K mg) : PySem.W.keepIn K (.ref (a_stretched K)) = true := let ⟨_, F⟩ := f_stretched T; F.kp
abbrev a_more (K : PySem.W.Frag) : Addr := He.ga K "more"
theorem f_more (T : TX w K mg) : ∃ fd, FunD K "more" "more" (defArgs s_more) (defBody s_more) (defScope s_more) [] [] (a_more K) fd := T.def_ 44 (d := d_more) rfl
theorem kp_more (T : TX w K mg) : PySem.W.keepIn K (.ref (a_more K)) = true := let ⟨_, F⟩ := f_more T; F.kp
abbrev a__law_deck (K : PySem.W.Frag) : Addr := He.ga K "_law_deck"
theorem f__law_deck (T : TX w K mg) : ∃ fd, FunD K "_law_deck" "_law_deck" (defArgs s__law_deck) (defBody s__law_deck) (defScope s__law_deck) [] [] (a__law_deck K) fd := T.def_ 45 (d := d__law_deck) rfl
theorem kp__law_deck (T : TX w K mg) : PySem.W.keepIn K (.ref (a__law_deck K)) = true := let ⟨_, F⟩ := f__law_deck T; F.kp
abbrev a__law_draw (K : PySem.W.Frag) : Addr := He.ga K "_law_draw"
theorem f__law_draw (T : TX w K mg) : ∃ fd, FunD K "_law_draw" "_law_draw" (defArgs s__law_draw) (defBody s__law_draw) (defScope s__law_draw) [] [] (a__law_draw K) fd := T.def_ 46 (d := d__law_draw) rfl
theorem kp__law_draw (T : TX w K mg) : PySem.W.keepIn K (.ref (a__law_draw K)) = true := let ⟨_, F⟩ := f__law_draw T; F.kp
abbrev a__law_one (K : PySem.W.Frag) : Addr := He.ga K "_law_one"
theorem f__law_one (T : TX w K mg) : ∃ fd, FunD K "_law_one" "_law_one" (defArgs s__law_one) (defBody s__law_one) (defScope s__law_one) [] [] (a__law_one K) fd := T.def_ 47 (d := d__law_one) rfl
theorem kp__law_one (T : TX w K mg) : PySem.W.keepIn K (.ref (a__law_one K)) = true := let ⟨_, F⟩ := f__law_one T; F.kp
abbrev a__law_mixed (K : PySem.W.Frag) : Addr := He.ga K "_law_mixed"
theorem f__law_mixed (T : TX w K mg) : ∃ fd, FunD K "_law_mixed" "_law_mixed" (defArgs s__law_mixed) (defBody s__law_mixed) (defScope s__law_mixed) [] [] (a__law_mixed K) fd := T.def_ 48 (d := d__law_mixed) rfl
theorem kp__law_mixed (T : TX w K mg) : PySem.W.keepIn K (.ref (a__law_mixed K)) = true := let ⟨_, F⟩ := f__law_mixed T; F.kp
abbrev a__law_divisor (K : PySem.W.Frag) : Addr := He.ga K "_law_divisor"
theorem f__law_divisor (T : TX w K mg) : ∃ fd, FunD K "_law_divisor" "_law_divisor" (defArgs s__law_divisor) (defBody s__law_divisor) (defScope s__law_divisor) [] [] (a__law_divisor K) fd := T.def_ 49 (d := d__law_divisor) rfl
theorem kp__law_divisor (T : TX w K mg) : PySem.W.keepIn K (.ref (a__law_divisor K)) = true := let ⟨_, F⟩ := f__law_divisor T; F.kp
abbrev a__law_sides (K : PySem.W.Frag) : Addr := He.ga K "_law_sides"
theorem f__law_sides (T : TX w K mg) : ∃ fd, FunD K "_law_sides" "_law_sides" (defArgs s__law_sides) (defBody s__law_sides) (defScope s__law_sides) [] [] (a__law_sides K) fd := T.def_ 50 (d := d__law_sides) rfl
theorem kp__law_sides (T : TX w K mg) : PySem.W.keepIn K (.ref (a__law_sides K)) = true := let ⟨_, F⟩ := f__law_sides T; F.kp
abbrev a__law_pair (K : PySem.W.Frag) : Addr := He.ga K "_law_pair"
theorem f__law_pair (T : TX w K mg) : ∃ fd, FunD K "_law_pair" "_law_pair" (defArgs s__law_pair) (defBody s__law_pair) (defScope s__law_pair) [] [] (a__law_pair K) fd := T.def_ 51 (d := d__law_pair) rfl
theorem kp__law_pair (T : TX w K mg) : PySem.W.keepIn K (.ref (a__law_pair K)) = true := let ⟨_, F⟩ := f__law_pair T; F.kp
abbrev a__law_lcm (K : PySem.W.Frag) : Addr := He.ga K "_law_lcm"
theorem f__law_lcm (T : TX w K mg) : ∃ fd, FunD K "_law_lcm" "_law_lcm" (defArgs s__law_lcm) (defBody s__law_lcm) (defScope s__law_lcm) [] [] (a__law_lcm K) fd := T.def_ 52 (d := d__law_lcm) rfl
theorem kp__law_lcm (T : TX w K mg) : PySem.W.keepIn K (.ref (a__law_lcm K)) = true := let ⟨_, F⟩ := f__law_lcm T; F.kp
abbrev a__law_cut_box (K : PySem.W.Frag) : Addr := He.ga K "_law_cut_box"
theorem f__law_cut_box (T : TX w K mg) : ∃ fd, FunD K "_law_cut_box" "_law_cut_box" (defArgs s__law_cut_box) (defBody s__law_cut_box) (defScope s__law_cut_box) [] [] (a__law_cut_box K) fd := T.def_ 53 (d := d__law_cut_box) rfl
theorem kp__law_cut_box (T : TX w K mg) : PySem.W.keepIn K (.ref (a__law_cut_box K)) = true := let ⟨_, F⟩ := f__law_cut_box T; F.kp
abbrev a__law_plain_box (K : PySem.W.Frag) : Addr := He.ga K "_law_plain_box"
theorem f__law_plain_box (T : TX w K mg) : ∃ fd, FunD K "_law_plain_box" "_law_plain_box" (defArgs s__law_plain_box) (defBody s__law_plain_box) (defScope s__law_plain_box) [] [] (a__law_plain_box K) fd := T.def_ 54 (d := d__law_plain_box) rfl
theorem kp__law_plain_box (T : TX w K mg) : PySem.W.keepIn K (.ref (a__law_plain_box K)) = true := let ⟨_, F⟩ := f__law_plain_box T; F.kp
abbrev a__law_do (K : PySem.W.Frag) : Addr := He.ga K "_law_do"
theorem f__law_do (T : TX w K mg) : ∃ fd, FunD K "_law_do" "_law_do" (defArgs s__law_do) (defBody s__law_do) (defScope s__law_do) [] [] (a__law_do K) fd := T.def_ 55 (d := d__law_do) rfl
theorem kp__law_do (T : TX w K mg) : PySem.W.keepIn K (.ref (a__law_do K)) = true := let ⟨_, F⟩ := f__law_do T; F.kp
abbrev a__law_done (K : PySem.W.Frag) : Addr := He.ga K "_law_done"
theorem f__law_done (T : TX w K mg) : ∃ fd, FunD K "_law_done" "_law_done" (defArgs s__law_done) (defBody s__law_done) (defScope s__law_done) [] [] (a__law_done K) fd := T.def_ 56 (d := d__law_done) rfl
theorem kp__law_done (T : TX w K mg) : PySem.W.keepIn K (.ref (a__law_done K)) = true := let ⟨_, F⟩ := f__law_done T; F.kp
abbrev a__law_says (K : PySem.W.Frag) : Addr := He.ga K "_law_says"
theorem f__law_says (T : TX w K mg) : ∃ fd, FunD K "_law_says" "_law_says" (defArgs s__law_says) (defBody s__law_says) (defScope s__law_says) [] [] (a__law_says K) fd := T.def_ 57 (d := d__law_says) rfl
theorem kp__law_says (T : TX w K mg) : PySem.W.keepIn K (.ref (a__law_says K)) = true := let ⟨_, F⟩ := f__law_says T; F.kp
abbrev a__law_start (K : PySem.W.Frag) : Addr := He.ga K "_law_start"
theorem f__law_start (T : TX w K mg) : ∃ fd, FunD K "_law_start" "_law_start" (defArgs s__law_start) (defBody s__law_start) (defScope s__law_start) [] [] (a__law_start K) fd := T.def_ 58 (d := d__law_start) rfl
theorem kp__law_start (T : TX w K mg) : PySem.W.keepIn K (.ref (a__law_start K)) = true := let ⟨_, F⟩ := f__law_start T; F.kp
abbrev a__law_words (K : PySem.W.Frag) : Addr := He.ga K "_law_words"
theorem f__law_words (T : TX w K mg) : ∃ fd, FunD K "_law_words" "_law_words" (defArgs s__law_words) (defBody s__law_words) (defScope s__law_words) [] [] (a__law_words K) fd := T.def_ 59 (d := d__law_words) rfl
theorem kp__law_words (T : TX w K mg) : PySem.W.keepIn K (.ref (a__law_words K)) = true := let ⟨_, F⟩ := f__law_words T; F.kp
abbrev a__law_line_edit (K : PySem.W.Frag) : Addr := He.ga K "_law_line_edit"
theorem f__law_line_edit (T : TX w K mg) : ∃ fd, FunD K "_law_line_edit" "_law_line_edit" (defArgs s__law_line_edit) (defBody s__law_line_edit) (defScope s__law_line_edit) [] [] (a__law_line_edit K) fd := T.def_ 60 (d := d__law_line_edit) rfl
theorem kp__law_line_edit (T : TX w K mg) : PySem.W.keepIn K (.ref (a__law_line_edit K)) = true := let ⟨_, F⟩ := f__law_line_edit T; F.kp
abbrev a__law_is_right (K : PySem.W.Frag) : Addr := He.ga K "_law_is_right"
theorem f__law_is_right (T : TX w K mg) : ∃ fd, FunD K "_law_is_right" "_law_is_right" (defArgs s__law_is_right) (defBody s__law_is_right) (defScope s__law_is_right) [] [] (a__law_is_right K) fd := T.def_ 61 (d := d__law_is_right) rfl
theorem kp__law_is_right (T : TX w K mg) : PySem.W.keepIn K (.ref (a__law_is_right K)) = true := let ⟨_, F⟩ := f__law_is_right T; F.kp
abbrev a_law (K : PySem.W.Frag) : Addr := He.ga K "law"
theorem f_law (T : TX w K mg) : ∃ fd, FunD K "law" "law" (defArgs s_law) (defBody s_law) (defScope s_law) [] [] (a_law K) fd := T.def_ 62 (d := d_law) rfl
theorem kp_law (T : TX w K mg) : PySem.W.keepIn K (.ref (a_law K)) = true := let ⟨_, F⟩ := f_law T; F.kp
abbrev a_Cuts_init (K : PySem.W.Frag) : Addr := He.ma K (He.ga K "Cuts") "__init__"
theorem f_Cuts_init (T : TX w K mg) : ∃ fd, FunD K "__init__" "Cuts.__init__" (defArgs s_Cuts_init) (defBody s_Cuts_init) (defScope s_Cuts_init) [] [] (a_Cuts_init K) fd := T.def_ 63 (d := d_Cuts_init) rfl
theorem kp_Cuts_init (T : TX w K mg) : PySem.W.keepIn K (.ref (a_Cuts_init K)) = true := let ⟨_, F⟩ := f_Cuts_init T; F.kp
abbrev a_Cuts_many (K : PySem.W.Frag) : Addr := He.ma K (He.ga K "Cuts") "many"
theorem f_Cuts_many (T : TX w K mg) : ∃ fd, FunD K "many" "Cuts.many" (defArgs s_Cuts_many) (defBody s_Cuts_many) (defScope s_Cuts_many) [] [] (a_Cuts_many K) fd := T.def_ 64 (d := d_Cuts_many) rfl
theorem kp_Cuts_many (T : TX w K mg) : PySem.W.keepIn K (.ref (a_Cuts_many K)) = true := let ⟨_, F⟩ := f_Cuts_many T; F.kp
abbrev a_Cuts_spot (K : PySem.W.Frag) : Addr := He.ma K (He.ga K "Cuts") "spot"
theorem f_Cuts_spot (T : TX w K mg) : ∃ fd, FunD K "spot" "Cuts.spot" (defArgs s_Cuts_spot) (defBody s_Cuts_spot) (defScope s_Cuts_spot) [] [] (a_Cuts_spot K) fd := T.def_ 65 (d := d_Cuts_spot) rfl
theorem kp_Cuts_spot (T : TX w K mg) : PySem.W.keepIn K (.ref (a_Cuts_spot K)) = true := let ⟨_, F⟩ := f_Cuts_spot T; F.kp
abbrev a_Shell_init (K : PySem.W.Frag) : Addr := He.ma K (He.ga K "Shell") "__init__"
theorem f_Shell_init (T : TX w K mg) : ∃ fd, FunD K "__init__" "Shell.__init__" (defArgs s_Shell_init) (defBody s_Shell_init) (defScope s_Shell_init) [] [] (a_Shell_init K) fd := T.def_ 66 (d := d_Shell_init) rfl
theorem kp_Shell_init (T : TX w K mg) : PySem.W.keepIn K (.ref (a_Shell_init K)) = true := let ⟨_, F⟩ := f_Shell_init T; F.kp
abbrev a_Shell_call (K : PySem.W.Frag) : Addr := He.ma K (He.ga K "Shell") "__call__"
theorem f_Shell_call (T : TX w K mg) : ∃ fd, FunD K "__call__" "Shell.__call__" (defArgs s_Shell_call) (defBody s_Shell_call) (defScope s_Shell_call) [] [] (a_Shell_call K) fd := T.def_ 67 (d := d_Shell_call) rfl
theorem kp_Shell_call (T : TX w K mg) : PySem.W.keepIn K (.ref (a_Shell_call K)) = true := let ⟨_, F⟩ := f_Shell_call T; F.kp
abbrev a_Shell_execute (K : PySem.W.Frag) : Addr := He.ma K (He.ga K "Shell") "execute"
theorem f_Shell_execute (T : TX w K mg) : ∃ fd, FunD K "execute" "Shell.execute" (defArgs s_Shell_execute) (defBody s_Shell_execute) (defScope s_Shell_execute) [] [] (a_Shell_execute K) fd := T.def_ 68 (d := d_Shell_execute) rfl
theorem kp_Shell_execute (T : TX w K mg) : PySem.W.keepIn K (.ref (a_Shell_execute K)) = true := let ⟨_, F⟩ := f_Shell_execute T; F.kp
abbrev a_Shell_answer (K : PySem.W.Frag) : Addr := He.ma K (He.ga K "Shell") "answer"
theorem f_Shell_answer (T : TX w K mg) : ∃ fd, FunD K "answer" "Shell.answer" (defArgs s_Shell_answer) (defBody s_Shell_answer) (defScope s_Shell_answer) [] [] (a_Shell_answer K) fd := T.def_ 69 (d := d_Shell_answer) rfl
theorem kp_Shell_answer (T : TX w K mg) : PySem.W.keepIn K (.ref (a_Shell_answer K)) = true := let ⟨_, F⟩ := f_Shell_answer T; F.kp
abbrev a_Shell_told (K : PySem.W.Frag) : Addr := He.ma K (He.ga K "Shell") "told"
theorem f_Shell_told (T : TX w K mg) : ∃ fd, FunD K "told" "Shell.told" (defArgs s_Shell_told) (defBody s_Shell_told) (defScope s_Shell_told) [] [] (a_Shell_told K) fd := T.def_ 70 (d := d_Shell_told) rfl
theorem kp_Shell_told (T : TX w K mg) : PySem.W.keepIn K (.ref (a_Shell_told K)) = true := let ⟨_, F⟩ := f_Shell_told T; F.kp
abbrev a_Shell_sizes (K : PySem.W.Frag) : Addr := He.ma K (He.ga K "Shell") "sizes"
theorem f_Shell_sizes (T : TX w K mg) : ∃ fd, FunD K "sizes" "Shell.sizes" (defArgs s_Shell_sizes) (defBody s_Shell_sizes) (defScope s_Shell_sizes) [] [] (a_Shell_sizes K) fd := T.def_ 71 (d := d_Shell_sizes) rfl
theorem kp_Shell_sizes (T : TX w K mg) : PySem.W.keepIn K (.ref (a_Shell_sizes K)) = true := let ⟨_, F⟩ := f_Shell_sizes T; F.kp
abbrev a_Yard_init (K : PySem.W.Frag) : Addr := He.ma K (He.ga K "Yard") "__init__"
theorem f_Yard_init (T : TX w K mg) : ∃ fd, FunD K "__init__" "Yard.__init__" (defArgs s_Yard_init) (defBody s_Yard_init) (defScope s_Yard_init) [] [] (a_Yard_init K) fd := T.def_ 72 (d := d_Yard_init) rfl
theorem kp_Yard_init (T : TX w K mg) : PySem.W.keepIn K (.ref (a_Yard_init K)) = true := let ⟨_, F⟩ := f_Yard_init T; F.kp
abbrev a_Yard_stand (K : PySem.W.Frag) : Addr := He.ma K (He.ga K "Yard") "stand"
theorem f_Yard_stand (T : TX w K mg) : ∃ fd, FunD K "stand" "Yard.stand" (defArgs s_Yard_stand) (defBody s_Yard_stand) (defScope s_Yard_stand) [] [] (a_Yard_stand K) fd := T.def_ 73 (d := d_Yard_stand) rfl
theorem kp_Yard_stand (T : TX w K mg) : PySem.W.keepIn K (.ref (a_Yard_stand K)) = true := let ⟨_, F⟩ := f_Yard_stand T; F.kp
abbrev a_Yard_judge (K : PySem.W.Frag) : Addr := He.ma K (He.ga K "Yard") "judge"
theorem f_Yard_judge (T : TX w K mg) : ∃ fd, FunD K "judge" "Yard.judge" (defArgs s_Yard_judge) (defBody s_Yard_judge) (defScope s_Yard_judge) [] [] (a_Yard_judge K) fd := T.def_ 74 (d := d_Yard_judge) rfl
theorem kp_Yard_judge (T : TX w K mg) : PySem.W.keepIn K (.ref (a_Yard_judge K)) = true := let ⟨_, F⟩ := f_Yard_judge T; F.kp
abbrev a_Yard_require_free (K : PySem.W.Frag) : Addr := He.ma K (He.ga K "Yard") "require_free"
theorem f_Yard_require_free (T : TX w K mg) : ∃ fd, FunD K "require_free" "Yard.require_free" (defArgs s_Yard_require_free) (defBody s_Yard_require_free) (defScope s_Yard_require_free) [] [] (a_Yard_require_free K) fd := T.def_ 75 (d := d_Yard_require_free) rfl
theorem kp_Yard_require_free (T : TX w K mg) : PySem.W.keepIn K (.ref (a_Yard_require_free K)) = true := let ⟨_, F⟩ := f_Yard_require_free T; F.kp
abbrev a_Yard_tell (K : PySem.W.Frag) : Addr := He.ma K (He.ga K "Yard") "tell"
theorem f_Yard_tell (T : TX w K mg) : ∃ fd, FunD K "tell" "Yard.tell" (defArgs s_Yard_tell) (defBody s_Yard_tell) (defScope s_Yard_tell) [] [] (a_Yard_tell K) fd := T.def_ 76 (d := d_Yard_tell) rfl
theorem kp_Yard_tell (T : TX w K mg) : PySem.W.keepIn K (.ref (a_Yard_tell K)) = true := let ⟨_, F⟩ := f_Yard_tell T; F.kp
abbrev a_Yard_do (K : PySem.W.Frag) : Addr := He.ma K (He.ga K "Yard") "do"
theorem f_Yard_do (T : TX w K mg) : ∃ fd, FunD K "do" "Yard.do" (defArgs s_Yard_do) (defBody s_Yard_do) (defScope s_Yard_do) [] [] (a_Yard_do K) fd := T.def_ 77 (d := d_Yard_do) rfl
theorem kp_Yard_do (T : TX w K mg) : PySem.W.keepIn K (.ref (a_Yard_do K)) = true := let ⟨_, F⟩ := f_Yard_do T; F.kp
abbrev a_Yard_edit (K : PySem.W.Frag) : Addr := He.ma K (He.ga K "Yard") "edit"
theorem f_Yard_edit (T : TX w K mg) : ∃ fd, FunD K "edit" "Yard.edit" (defArgs s_Yard_edit) (defBody s_Yard_edit) (defScope s_Yard_edit) [] [] (a_Yard_edit K) fd := T.def_ 78 (d := d_Yard_edit) rfl
theorem kp_Yard_edit (T : TX w K mg) : PySem.W.keepIn K (.ref (a_Yard_edit K)) = true := let ⟨_, F⟩ := f_Yard_edit T; F.kp
abbrev a_Yard_side (K : PySem.W.Frag) : Addr := He.ma K (He.ga K "Yard") "side"
theorem f_Yard_side (T : TX w K mg) : ∃ fd, FunD K "side" "Yard.side" (defArgs s_Yard_side) (defBody s_Yard_side) (defScope s_Yard_side) [] [] (a_Yard_side K) fd := T.def_ 79 (d := d_Yard_side) rfl
theorem kp_Yard_side (T : TX w K mg) : PySem.W.keepIn K (.ref (a_Yard_side K)) = true := let ⟨_, F⟩ := f_Yard_side T; F.kp
abbrev a_Yard_brick (K : PySem.W.Frag) : Addr := He.ma K (He.ga K "Yard") "brick"
theorem f_Yard_brick (T : TX w K mg) : ∃ fd, FunD K "brick" "Yard.brick" (defArgs s_Yard_brick) (defBody s_Yard_brick) (defScope s_Yard_brick) [] [] (a_Yard_brick K) fd := T.def_ 80 (d := d_Yard_brick) rfl
theorem kp_Yard_brick (T : TX w K mg) : PySem.W.keepIn K (.ref (a_Yard_brick K)) = true := let ⟨_, F⟩ := f_Yard_brick T; F.kp
abbrev a_Yard_swap (K : PySem.W.Frag) : Addr := He.ma K (He.ga K "Yard") "swap"
theorem f_Yard_swap (T : TX w K mg) : ∃ fd, FunD K "swap" "Yard.swap" (defArgs s_Yard_swap) (defBody s_Yard_swap) (defScope s_Yard_swap) [] [] (a_Yard_swap K) fd := T.def_ 81 (d := d_Yard_swap) rfl
theorem kp_Yard_swap (T : TX w K mg) : PySem.W.keepIn K (.ref (a_Yard_swap K)) = true := let ⟨_, F⟩ := f_Yard_swap T; F.kp
abbrev a_Yard_turn (K : PySem.W.Frag) : Addr := He.ma K (He.ga K "Yard") "turn"
theorem f_Yard_turn (T : TX w K mg) : ∃ fd, FunD K "turn" "Yard.turn" (defArgs s_Yard_turn) (defBody s_Yard_turn) (defScope s_Yard_turn) [] [] (a_Yard_turn K) fd := T.def_ 82 (d := d_Yard_turn) rfl
theorem kp_Yard_turn (T : TX w K mg) : PySem.W.keepIn K (.ref (a_Yard_turn K)) = true := let ⟨_, F⟩ := f_Yard_turn T; F.kp
abbrev a_Yard_stretch (K : PySem.W.Frag) : Addr := He.ma K (He.ga K "Yard") "stretch"
theorem f_Yard_stretch (T : TX w K mg) : ∃ fd, FunD K "stretch" "Yard.stretch" (defArgs s_Yard_stretch) (defBody s_Yard_stretch) (defScope s_Yard_stretch) [] [] (a_Yard_stretch K) fd := T.def_ 83 (d := d_Yard_stretch) rfl
theorem kp_Yard_stretch (T : TX w K mg) : PySem.W.keepIn K (.ref (a_Yard_stretch K)) = true := let ⟨_, F⟩ := f_Yard_stretch T; F.kp
abbrev a_Yard_undo (K : PySem.W.Frag) : Addr := He.ma K (He.ga K "Yard") "undo"
theorem f_Yard_undo (T : TX w K mg) : ∃ fd, FunD K "undo" "Yard.undo" (defArgs s_Yard_undo) (defBody s_Yard_undo) (defScope s_Yard_undo) [] [] (a_Yard_undo K) fd := T.def_ 84 (d := d_Yard_undo) rfl
theorem kp_Yard_undo (T : TX w K mg) : PySem.W.keepIn K (.ref (a_Yard_undo K)) = true := let ⟨_, F⟩ := f_Yard_undo T; F.kp
abbrev a_Yard_state_at (K : PySem.W.Frag) : Addr := He.ma K (He.ga K "Yard") "state_at"
theorem f_Yard_state_at (T : TX w K mg) : ∃ fd, FunD K "state_at" "Yard.state_at" (defArgs s_Yard_state_at) (defBody s_Yard_state_at) (defScope s_Yard_state_at) [] [("version", V.non)] (a_Yard_state_at K) fd := T.def_ 85 (d := d_Yard_state_at) rfl
theorem kp_Yard_state_at (T : TX w K mg) : PySem.W.keepIn K (.ref (a_Yard_state_at K)) = true := let ⟨_, F⟩ := f_Yard_state_at T; F.kp
abbrev a_Yard_iadd (K : PySem.W.Frag) : Addr := He.ma K (He.ga K "Yard") "__iadd__"
theorem f_Yard_iadd (T : TX w K mg) : ∃ fd, FunD K "__iadd__" "Yard.__iadd__" (defArgs s_Yard_iadd) (defBody s_Yard_iadd) (defScope s_Yard_iadd) [] [] (a_Yard_iadd K) fd := T.def_ 86 (d := d_Yard_iadd) rfl
theorem kp_Yard_iadd (T : TX w K mg) : PySem.W.keepIn K (.ref (a_Yard_iadd K)) = true := let ⟨_, F⟩ := f_Yard_iadd T; F.kp
abbrev a_Yard_bool (K : PySem.W.Frag) : Addr := He.ma K (He.ga K "Yard") "__bool__"
theorem f_Yard_bool (T : TX w K mg) : ∃ fd, FunD K "__bool__" "Yard.__bool__" (defArgs s_Yard_bool) (defBody s_Yard_bool) (defScope s_Yard_bool) [] [] (a_Yard_bool K) fd := T.def_ 87 (d := d_Yard_bool) rfl
theorem kp_Yard_bool (T : TX w K mg) : PySem.W.keepIn K (.ref (a_Yard_bool K)) = true := let ⟨_, F⟩ := f_Yard_bool T; F.kp
abbrev a_Yard_str (K : PySem.W.Frag) : Addr := He.ma K (He.ga K "Yard") "__str__"
theorem f_Yard_str (T : TX w K mg) : ∃ fd, FunD K "__str__" "Yard.__str__" (defArgs s_Yard_str) (defBody s_Yard_str) (defScope s_Yard_str) [] [] (a_Yard_str K) fd := T.def_ 88 (d := d_Yard_str) rfl
theorem kp_Yard_str (T : TX w K mg) : PySem.W.keepIn K (.ref (a_Yard_str K)) = true := let ⟨_, F⟩ := f_Yard_str T; F.kp
abbrev a_Yard_eq (K : PySem.W.Frag) : Addr := He.ma K (He.ga K "Yard") "__eq__"
theorem f_Yard_eq (T : TX w K mg) : ∃ fd, FunD K "__eq__" "Yard.__eq__" (defArgs s_Yard_eq) (defBody s_Yard_eq) (defScope s_Yard_eq) [] [] (a_Yard_eq K) fd := T.def_ 89 (d := d_Yard_eq) rfl
theorem kp_Yard_eq (T : TX w K mg) : PySem.W.keepIn K (.ref (a_Yard_eq K)) = true := let ⟨_, F⟩ := f_Yard_eq T; F.kp
theorem f_Shell_heard (T : TX w K mg) : ∃ fd, FunD K "heard" "Shell.heard" (defArgs s_Shell_heard) (defBody s_Shell_heard) (defScope s_Shell_heard) [] [] (pg K "Shell" "heard") fd := T.get_ 0 (g := ("Shell", "heard", "Shell.heard", s_Shell_heard)) rfl
theorem f_Yard_pair (T : TX w K mg) : ∃ fd, FunD K "pair" "Yard.pair" (defArgs s_Yard_pair) (defBody s_Yard_pair) (defScope s_Yard_pair) [] [] (pg K "Yard" "pair") fd := T.get_ 1 (g := ("Yard", "pair", "Yard.pair", s_Yard_pair)) rfl
theorem f_Yard_box (T : TX w K mg) : ∃ fd, FunD K "box" "Yard.box" (defArgs s_Yard_box) (defBody s_Yard_box) (defScope s_Yard_box) [] [] (pg K "Yard" "box") fd := T.get_ 2 (g := ("Yard", "box", "Yard.box", s_Yard_box)) rfl
theorem f_Yard_version (T : TX w K mg) : ∃ fd, FunD K "version" "Yard.version" (defArgs s_Yard_version) (defBody s_Yard_version) (defScope s_Yard_version) [] [] (pg K "Yard" "version") fd := T.get_ 3 (g := ("Yard", "version", "Yard.version", s_Yard_version)) rfl
theorem f_Yard_news (T : TX w K mg) : ∃ fd, FunD K "news" "Yard.news" (defArgs s_Yard_news) (defBody s_Yard_news) (defScope s_Yard_news) [] [] (pg K "Yard" "news") fd := T.get_ 4 (g := ("Yard", "news", "Yard.news", s_Yard_news)) rfl
theorem f_Yard_paper (T : TX w K mg) : ∃ fd, FunD K "paper" "Yard.paper" (defArgs s_Yard_paper) (defBody s_Yard_paper) (defScope s_Yard_paper) [] [] (pg K "Yard" "paper") fd := T.get_ 5 (g := ("Yard", "paper", "Yard.paper", s_Yard_paper)) rfl
end
end TB
set_option maxHeartbeats 0
namespace TH
open PySem PySem.W PySem.Calls PyProof.Rows
abbrev R : OpenRow := OpenLaw.row PySem.Challenge.rw_twobricks_k90_whole_shells_and_methods
abbrev qv : Program := view R.prog [119]
def names0 : List PySem.Str := ["_wall", "MAX_DIMS", "MAX_SIDE", "MAX_KINDS", "HISTORY", "BATCH", "BrickError", "BadBatch", "BadBox", "BadKinds", "BadOrder", "BadPaper", "BadSide", "BadText", "Busy", "NoAxis", "NoKind", "NoNumber", "NoSeam", "NoVersion", "NotFilled", "NothingToUndo", "Rejected", "TooLarge", "TooManyEdits", "UnlikeAxes", "Unfit", "first_name", "name_of", "is_integer"]
def names1 : List PySem.Str := ["sides_error", "kinds_error", "pair_error", "box_error", "with_side", "common", "joint", "inverse", "least_times", "is_sum", "floors", "count_sums", "CUT", "SIDES", "STEP", "GAP", "rests", "rests_papers", "bar_along", "crossing", "paper", "paper_papers", "is_filled", "Cuts", "all_cuts", "count_cuts", "cut_at", "NONE", "STEPS", "SUMS"]
def names2 : List PySem.Str := ["sums_of", "rests_sizes", "along", "count_by", "least_with", "sum_at", "numbered", "next_side", "WHAT", "SHAPES", "is_number", "fits", "spoken", "Shell", "sides_text", "kinds_text", "FILLED", "BARRED", "SAME", "require_axis", "require_side", "put_side", "put_brick", "swapped", "is_order", "turned", "stretched", "more", "DEEDS", "SIZES"]
def names3 : List PySem.Str := ["is_edit", "Yard", "_law_deck", "_law_draw", "_law_one", "_law_mixed", "_law_divisor", "_law_sides", "_law_pair", "_law_lcm", "_law_cut_box", "_law_plain_box", "_law_do", "_law_done", "_law_says", "_law_start", "_law_words", "_law_line_edit", "_law_is_right"]
def names : List PySem.Str := names0 ++ names1 ++ names2 ++ names3
def ob (s : PySem.W.SharedT) : TB.AlZ := TB.obsZ (HandSHeadRun.getT s)
/-- the run's end -/
noncomputable abbrev eR (w : World) (os : OsState) : Option PySem.W.SharedT := HandSHeadRun.endF (HandSHeadRun.stepQ (HandSHeadRun.denQ HandSHeadRun.tabQ) R.prog w) 40000 R.prog w os
theorem n0 (w : World) : HandSHeadRun.RunEq R qv Hook.none (fun _ => ()) 40000 names (w.withFollow "special-get-raises" false) := by
  intro os
  kernel_rfl
theorem n1 (w : World) : HandSHeadRun.RunEq R qv Hook.none (fun _ => ()) 40000 names (w.withFollow "special-get-raises" true) := by
  intro os
  kernel_rfl
theorem z0 (w : World) (os : OsState) : (eR (w.withFollow "special-get-raises" false) os).map ob = some (TB.hookZ.val (w.withFollow "special-get-raises" false)) := by
  kernel_rfl
theorem z1 (w : World) (os : OsState) : (eR (w.withFollow "special-get-raises" true) os).map ob = some (TB.hookZ.val (w.withFollow "special-get-raises" true)) := by
  kernel_rfl
theorem both {w : World} (h1 : HandSHeadRun.RunEq R qv Hook.none (fun _ => ()) 40000 names w) (h2 : ∀ os, (eR w os).map ob = some (TB.hookZ.val w)) : HandSHeadRun.RunEq R qv (TB.hookZ) ob 40000 names w := by
  intro os
  have a := h1 os
  have b := h2 os
  unfold eR at b
  revert a b
  generalize HandSHeadRun.endF (HandSHeadRun.stepQ (HandSHeadRun.denQ HandSHeadRun.tabQ) R.prog w) 40000 R.prog w os = x
  intro a b
  cases x with
  | none => cases b
  | some s =>
    have b1 : ob s = TB.hookZ.val w := Option.some.inj b
    have a1 := Option.some.inj a
    show some (_, _, ob s) = some (_, _, TB.hookZ.val w)
    rw [b1]
    exact congrArg (fun z => some (z.1, z.2.1, TB.hookZ.val w)) a1
theorem run (w : World) : HandSHeadRun.RunEq R qv (TB.hookZ) ob 40000 names w := PySem.W.byRow2 "special-get-raises" (P := fun w => HandSHeadRun.RunEq R qv (TB.hookZ) ob 40000 names w) (fun w => both (n0 w) (z0 w)) (fun w => both (n1 w) (z1 w)) w
theorem ob_eq (s : PySem.W.SharedT) : ob s = TB.hookZ.obs s.abs := congrArg TB.obsZ (funext (HandSHeadRun.getT_eq s))
end TH
set_option maxHeartbeats 200000
namespace TB
/-! ### divisors -/
theorem gcd_step {x y : Int} (hx : 0 ≤ x) (hy : 0 < y) : Int.gcd y (x % y) = Int.gcd x y := by
  obtain ⟨m, rfl⟩ := Int.eq_ofNat_of_zero_le hx
  obtain ⟨n, rfl⟩ := Int.eq_ofNat_of_zero_le (Int.le_of_lt hy)
  have e : ((m : Int) % (n : Int)) = ((m % n : Nat) : Int) := rfl
  rw [e]
  simp only [Int.gcd, Int.natAbs_natCast]
  rw [Nat.gcd_comm n (m % n), Nat.gcd_comm m n, Nat.gcd_rec n m]
theorem gcd_zero {x : Int} (hx : 0 ≤ x) : ((Int.gcd x 0 : Nat) : Int) = x := by
  have : Int.gcd x 0 = x.natAbs := by simp
  rw [this, Int.natAbs_of_nonneg hx]
/-- the greatest common divisor as an int -/
def gI (a b : Int) : Int := (Int.gcd a b : Nat)
theorem gI_pos {a b : Int} (h : 0 < a) : 0 < gI a b := by
  unfold gI
  have := Int.gcd_pos_of_ne_zero_left b (show a ≠ 0 by omega)
  omega
theorem gI_le {a b : Int} (h : 0 < a) : gI a b ≤ a := by
  unfold gI
  have := Nat.le_of_dvd (show 0 < a.natAbs by omega) (Nat.gcd_dvd_left a.natAbs b.natAbs)
  simp only [Int.gcd]
  omega
theorem gI_dvdl {a b : Int} : gI a b ∣ a := Int.gcd_dvd_left a b
theorem gI_dvdr {a b : Int} : gI a b ∣ b := Int.gcd_dvd_right a b
theorem div_pos {a g : Int} (ha : 0 < a) (hg : 0 < g) (h : g ∣ a) : 0 < a / g := by
  obtain ⟨k, rfl⟩ := h
  rw [Int.mul_ediv_cancel_left _ (by omega)]
  exact Int.pos_of_mul_pos_right ha hg |> fun h => h
theorem div_le {a g : Int} (ha : 0 ≤ a) (hg : 0 < g) : a / g ≤ a := Int.ediv_le_self g ha
theorem div_nn {a g : Int} (ha : 0 ≤ a) (hg : 0 < g) : 0 ≤ a / g := Int.ediv_nonneg ha (by omega)
/-- the least common multiple, as joint reckons it -/
def lI (a b : Int) : Int := a / gI a b * b
theorem lI_pos {a b : Int} (ha : 0 < a) (hb : 0 < b) : 0 < lI a b := Int.mul_pos (div_pos ha (gI_pos ha) gI_dvdl) hb
theorem lI_le {a b : Int} (ha : 0 < a) (hb : 0 < b) : lI a b ≤ a * b := Int.mul_le_mul_of_nonneg_right (div_le (by omega) (gI_pos ha)) (by omega)
/-! ### inverse -/
theorem mod_sub {r l : Int} : r - r / l * l = r % l := by
  rw [Int.emod_def, Int.mul_comm]
def invL (left right now later : Int) : Int :=
  if h : 0 < left then invL (right - right / left * left) left (later - right / left * now) now else later
termination_by left.toNat
decreasing_by
  rw [mod_sub]
  have h1 := Int.emod_nonneg right (show left ≠ 0 by omega)
  have h2 := Int.emod_lt_of_pos right h
  omega
theorem invL_pos {left right now later : Int} (h : 0 < left) : invL left right now later = invL (right - right / left * left) left (later - right / left * now) now := by
  conv => lhs; rw [invL]
  rw [dif_pos h]
theorem invL_end {left right now later : Int} (h : ¬ 0 < left) : invL left right now later = later := by
  rw [invL, dif_neg h]
def invF (one other : Int) : Int := invL (one % other) other 1 0 % other
theorem invF_nn {one other : Int} (h : 0 < other) : 0 ≤ invF one other ∧ invF one other < other := ⟨Int.emod_nonneg _ (by omega), Int.emod_lt_of_pos _ h⟩
/-- least_times -/
def ltF (one other side : Int) : Option Int := if side % gI one other ≠ 0 then none else some (side / gI one other * invF (one / gI one other) (other / gI one other) % (other / gI one other))
theorem ltF_bd {one other side t : Int} (ho : 0 < one) (hb : 0 < other) (h : ltF one other side = some t) : 0 ≤ t ∧ t < other := by
  unfold ltF at h
  split at h
  · cases h
  · have hp := div_pos hb (gI_pos ho) (gI_dvdr (a := one) (b := other))
    have hl := div_le (show 0 ≤ other by omega) (gI_pos (b := other) ho)
    injection h with h
    subst h
    exact ⟨Int.emod_nonneg _ (by omega), Int.lt_of_lt_of_le (Int.emod_lt_of_pos _ hp) hl⟩
def isSumF (one other side : Int) : Bool := match ltF one other side with
  | none => false
  | some t => decide (one * t ≤ side)
/-! ### floors -/
def flL (found many by_ step begin_ : Int) : Int :=
  if h : 0 < many ∧ 0 < by_ then
    flL (found + (many * (many - 1) / 2 * (step / by_) + many * (begin_ / by_))) ((step % by_ * many + begin_ % by_) / by_) (step % by_) by_ ((step % by_ * many + begin_ % by_) % by_)
  else found
termination_by by_.toNat
decreasing_by
  have h1 := Int.emod_nonneg step (show by_ ≠ 0 by omega)
  have h2 := Int.emod_lt_of_pos step h.2
  omega
theorem flL_pos {found many by_ step begin_ : Int} (h : 0 < many) (hb : 0 < by_) : flL found many by_ step begin_ =
    flL (found + (many * (many - 1) / 2 * (step / by_) + many * (begin_ / by_))) ((step % by_ * many + begin_ % by_) / by_) (step % by_) by_ ((step % by_ * many + begin_ % by_) % by_) := by
  conv => lhs; rw [flL]
  rw [dif_pos ⟨h, hb⟩]
theorem flL_end {found many by_ step begin_ : Int} (h : ¬ 0 < many) : flL found many by_ step begin_ = found := by
  rw [flL, dif_neg (fun q => h q.1)]
/-- the next many is no greater; where it is positive, the next divisor is -/
theorem fl_next {many by_ step begin_ : Int} (hm : 0 < many) (hb : 0 < by_) :
    0 ≤ (step % by_ * many + begin_ % by_) / by_ ∧ (step % by_ * many + begin_ % by_) / by_ ≤ many ∧ (0 < (step % by_ * many + begin_ % by_) / by_ → 0 < step % by_) := by
  have s0 := Int.emod_nonneg step (show by_ ≠ 0 by omega)
  have s1 := Int.emod_lt_of_pos step hb
  have b0 := Int.emod_nonneg begin_ (show by_ ≠ 0 by omega)
  have b1 := Int.emod_lt_of_pos begin_ hb
  generalize step % by_ = s at *
  generalize begin_ % by_ = b at *
  have p0 : 0 ≤ s * many := Int.mul_nonneg s0 (by omega)
  refine ⟨Int.ediv_nonneg (by omega) (by omega), ?_, fun h => ?_⟩
  · have e : s * many + b < by_ * (many + 1) := by
      have : s * many ≤ (by_ - 1) * many := Int.mul_le_mul_of_nonneg_right (by omega) (by omega)
      have e2 : (by_ - 1) * many = by_ * many - many := by rw [Int.sub_mul, Int.one_mul]
      have e3 : by_ * (many + 1) = by_ * many + by_ := by rw [Int.mul_add, Int.mul_one]
      omega
    have := Int.ediv_lt_of_lt_mul hb (show s * many + b < (many + 1) * by_ by rw [Int.mul_comm (many + 1)]; exact e)
    omega
  · rcases Int.lt_or_le 0 s with hs | hs
    · exact hs
    · have : s = 0 := by omega
      subst this
      rw [Int.zero_mul, Int.zero_add, Int.ediv_eq_zero_of_lt b0 b1] at h
      omega
/-- a bound of what floors tells -/
theorem flL_bd (B M c : Int) (hB : 0 ≤ B) (hc : B * B * M + B * M ≤ c) (hM : B ≤ M) : ∀ (n : Nat) (found many by_ step begin_ : Int), by_.toNat = n → 0 ≤ many → many ≤ B → (0 < many → 0 < by_) → 0 ≤ step → step ≤ M → 0 ≤ begin_ → begin_ ≤ M → 0 ≤ by_ → by_ ≤ B →
    found ≤ flL found many by_ step begin_ ∧ flL found many by_ step begin_ ≤ found + by_ * c := by
  intro n
  induction n using Nat.strongRecOn with
  | ind n ih =>
    intro found many by_ step begin_ hn m0 m1 mp s0 s1 g0 g1 y0 y1
    have c0 : 0 ≤ c := by
      have h1 : 0 ≤ B * B * M := Int.mul_nonneg (Int.mul_nonneg hB hB) (by omega)
      have h2 : 0 ≤ B * M := Int.mul_nonneg hB (by omega)
      omega
    rcases Int.lt_or_le 0 many with hm | hm
    · have hb := mp hm
      have x1 := Int.emod_nonneg step (show by_ ≠ 0 by omega)
      have x2 := Int.emod_lt_of_pos step hb
      obtain ⟨k0, k1, k2⟩ := fl_next (step := step) (begin_ := begin_) hm hb
      have z0 := Int.emod_nonneg (step % by_ * many + begin_ % by_) (show by_ ≠ 0 by omega)
      have z1 := Int.emod_lt_of_pos (step % by_ * many + begin_ % by_) hb
      rw [flL_pos hm hb]
      have q := ih (step % by_).toNat (by omega) (found + (many * (many - 1) / 2 * (step / by_) + many * (begin_ / by_))) ((step % by_ * many + begin_ % by_) / by_) (step % by_) by_ ((step % by_ * many + begin_ % by_) % by_) rfl
        k0 (by omega) k2 y0 (by omega) z0 (by omega) x1 (by omega)
      have a0 : 0 ≤ many * (many - 1) / 2 := Int.ediv_nonneg (Int.mul_nonneg m0 (by omega)) (by omega)
      have a1 : many * (many - 1) / 2 ≤ B * B := by
        have h1 : many * (many - 1) ≤ B * B := Int.mul_le_mul m1 (by omega) (by omega) hB
        have h2 := Int.ediv_le_self (a := many * (many - 1)) 2 (Int.mul_nonneg m0 (by omega))
        omega
      have b0 : 0 ≤ step / by_ := Int.ediv_nonneg s0 (by omega)
      have b1 : step / by_ ≤ M := Int.le_trans (Int.ediv_le_self _ s0) s1
      have d0 : 0 ≤ begin_ / by_ := Int.ediv_nonneg g0 (by omega)
      have d1 : begin_ / by_ ≤ M := Int.le_trans (Int.ediv_le_self _ g0) g1
      have e1 : many * (many - 1) / 2 * (step / by_) ≤ B * B * M := Int.mul_le_mul a1 b1 b0 (Int.mul_nonneg hB hB)
      have e2 : many * (begin_ / by_) ≤ B * M := Int.mul_le_mul m1 d1 d0 hB
      have e3 : 0 ≤ many * (many - 1) / 2 * (step / by_) := Int.mul_nonneg a0 b0
      have e4 : 0 ≤ many * (begin_ / by_) := Int.mul_nonneg m0 d0
      have e5 : step % by_ * c ≤ (by_ - 1) * c := Int.mul_le_mul_of_nonneg_right (by omega) c0
      have e6 : (by_ - 1) * c = by_ * c - c := by rw [Int.sub_mul, Int.one_mul]
      omega
    · rw [flL_end (by omega)]
      have : 0 ≤ by_ * c := Int.mul_nonneg y0 c0
      omega
/-- count_sums -/
def csF (one other most : Int) : Int :=
  let o := one / gI one other; let u := other / gI one other; let m := most / gI one other
  let last := if m / o < u - 1 then m / o else u - 1
  flL 0 (last + 1) u o (m - o * last) + last
/-- count_sums' last -/
def lastF (o u m : Int) : Int := if m / o < u - 1 then m / o else u - 1
theorem lastF_bd {o u m : Int} (ho : 0 < o) (hu : 0 < u) (hm : 0 ≤ m) : 0 ≤ lastF o u m ∧ lastF o u m < u ∧ 0 ≤ m - o * lastF o u m ∧ m - o * lastF o u m ≤ m := by
  have d0 : 0 ≤ m / o := Int.ediv_nonneg hm (by omega)
  have d1 : o * (m / o) ≤ m := Int.mul_ediv_self_le (by omega)
  have h : 0 ≤ lastF o u m ∧ lastF o u m < u ∧ lastF o u m ≤ m / o := by
    unfold lastF; split <;> omega
  have h2 : o * lastF o u m ≤ o * (m / o) := Int.mul_le_mul_of_nonneg_left h.2.2 (by omega)
  have h3 : 0 ≤ o * lastF o u m := Int.mul_nonneg (by omega) h.1
  omega
theorem csF_eq (one other most : Int) : csF one other most = flL 0 (lastF (one / gI one other) (other / gI one other) (most / gI one other) + 1) (other / gI one other) (one / gI one other) (most / gI one other - one / gI one other * lastF (one / gI one other) (other / gI one other) (most / gI one other)) + lastF (one / gI one other) (other / gI one other) (most / gI one other) := rfl
theorem csF_bd {one other most B M : Int} (h1 : 0 < one) (h2 : 0 < other) (b1 : one ≤ B) (b2 : other ≤ B) (h3 : 0 ≤ most) (h4 : most ≤ M) (hB : B ≤ M) : 0 ≤ csF one other most ∧ csF one other most ≤ B * (B * B * M + B * M) + B := by
  have g0 := gI_pos (b := other) h1
  have o0 := div_pos h1 g0 (gI_dvdl (a := one) (b := other))
  have o1 := div_le (show 0 ≤ one by omega) g0
  have u0 := div_pos h2 g0 (gI_dvdr (a := one) (b := other))
  have u1 := div_le (show 0 ≤ other by omega) g0
  have m0 := div_nn h3 g0
  have m1 := div_le h3 g0
  rw [csF_eq]
  generalize one / gI one other = o at *
  generalize other / gI one other = u at *
  generalize most / gI one other = m at *
  obtain ⟨l0, l1, l2, l3⟩ := lastF_bd o0 u0 m0
  generalize lastF o u m = l at *
  have c0 : 0 ≤ B * B * M + B * M := by
    have q1 : 0 ≤ B * B * M := Int.mul_nonneg (Int.mul_nonneg (by omega) (by omega)) (by omega)
    have q2 : 0 ≤ B * M := Int.mul_nonneg (by omega) (by omega)
    omega
  have q := flL_bd B M (B * B * M + B * M) (by omega) (Int.le_refl _) hB _ 0 (l + 1) u o (m - o * l) rfl (by omega) (by omega) (fun _ => u0) (by omega) (by omega) l2 (by omega) (by omega) (by omega)
  have e : u * (B * B * M + B * M) ≤ B * (B * B * M + B * M) := Int.mul_le_mul_of_nonneg_right (by omega) c0
  omega
/-! ### least_with -/
def lwL (p : Int → Bool) (low high : Int) : Int :=
  if h : low < high then (if p ((low + high) / 2) then lwL p low ((low + high) / 2) else lwL p ((low + high) / 2 + 1) high) else low
termination_by (high - low).toNat
decreasing_by all_goals omega
theorem lwL_lt {p : Int → Bool} {low high : Int} (h : low < high) : lwL p low high = if p ((low + high) / 2) then lwL p low ((low + high) / 2) else lwL p ((low + high) / 2 + 1) high := by
  conv => lhs; rw [lwL]
  rw [dif_pos h]
theorem lwL_end {p : Int → Bool} {low high : Int} (h : ¬ low < high) : lwL p low high = low := by rw [lwL, dif_neg h]
theorem lwL_bd {p : Int → Bool} : ∀ (n : Nat) (low high : Int), (high - low).toNat = n → low ≤ high → low ≤ lwL p low high ∧ lwL p low high ≤ high := by
  intro n
  induction n using Nat.strongRecOn with
  | ind n ih =>
    intro low high hn hl
    rcases Int.lt_or_le low high with h | h
    · rw [lwL_lt h]
      split
      · have := ih _ (by omega) low ((low + high) / 2) rfl (by omega)
        omega
      · have := ih _ (by omega) ((low + high) / 2 + 1) high rfl (by omega)
        omega
    · rw [lwL_end (by omega)]
      omega
end TB
namespace TB
open PySem PySem.Spec PyProof.Rows L2
/-! ### iterators of pairs (enumerate over a tuple, zip of a text and a list) as walks of the layer -/
/-- n turns while G holds; each turn a new pair, told by Y -/
def ItP (G : Hp → Prop) (n : Nat) (Y : Nat → V → V → Prop) : It :=
  ⟨fun i H => i < n ∧ G H, fun i H v H' => ∃ q x y, v = .ref q ∧ H q = none ∧ H' = upd H q (.tup [x, y]) ∧ Y i x y, fun i H => i = n ∧ G H⟩
theorem walk_P {G : Hp → Prop} {n : Nat} {Y : Nat → V → V → Prop} : Walk (ItP G n Y) n G (fun i H v H' => ∃ x y, Kp [] H H' ∧ Tu H' v [x, y] ∧ Y i x y) :=
  ⟨fun _ _ hi g => ⟨hi, g⟩, fun _ g => ⟨rfl, g⟩, fun i H v H' _ _ ⟨q, x, y, e, hq, e2, hy⟩ => ⟨x, y, e2 ▸ Kp.upd hq, e ▸ e2 ▸ Tu.new, hy⟩⟩
theorem turn_wt {P : Program} {w : World} {K : PySem.W.Frag} {es : List Expr} {kk : Nat} {tpos : Pos} {it : Addr} {fp wr : List Addr} {n : Nat} {G : Hp → Prop} {Y : Nat → V → V → Prop} {S : Nat → Heap → Prop} (hm : it ∈ fp) (hs : ∀ b ∈ wr, b ∈ fp)
    (ho : ∀ i h, S i h → ∀ b ∈ fp, ∃ o, h.get? b = some o ∧ ∀ v, o.data ≠ .cell v) (hk : ∀ i h h', S i h → (∀ b ∈ fp, ∀ o, h.get? b = some o → h'.get? b = some o) → S i h')
    (get : ∀ (X : Cx) (pins : List (Addr × Obj)) (s : Shared) (σ : L2.St) (H : Hp) (i : Nat), X.prog = P → X.w = w → X.K = K → X.calm = true → Inv X pins σ H s → G H → S i s.heap → ∃ (fq : List Addr) (Pt : Nat → Array Value → Prop) (Sx : Nat → Heap → Prop) (Mid : Nat → Addr → Heap → Prop),
      WalksT P w X.A it fq wr n Pt Sx Mid ∧ Sx i s.heap ∧ (∀ j h, Sx j h → S j h) ∧ ∀ j vals, Pt j vals → ∃ x y, Y j x y ∧ Vals [x, y] vals.toList)
    (hself : ∀ (A : Around) (i : Nat) (s : Shared) (Q : Value → Shared → Prop) (E : Value → Shared → Prop), S i s.heap → Q (.ref it) s → wpAny (model P w) A (pyIter (.ref it)) Q E s) :
    Turn P w K (.Tuple es kk tpos) (ItP G n Y) fp it S where
  mem := hm
  obj := ho
  keep := hk
  item := by
    intro X hP hw hK hc i pins s σ H E I hf st hg
    obtain ⟨fq, Pt, Sx, Mid, W, hx, bk, hv⟩ := get X pins s σ H i hP hw hK hc I hg.2 st
    subst hP hw hK
    refine W.item i s _ E hg.1 hx fun q vals h' tk hPt hq hT hM hk1 => ⟨_, rfl, ?_⟩
    refine W.go es kk tpos i q _ _ _ hM fun h2 hS2 hk2 => ?_
    obtain ⟨x, y, hy, hr⟩ := hv i vals hPt
    obtain ⟨oq, hoq, hcq, nq, hdq⟩ := hT
    have hq2 : h2.get? q = some oq := hk2 q oq (W.apart i q _ hM) hoq
    have hn : H q = none := I.hok.fresh hq
    have new : ObjOk X.prog X.w (upd H q (.tup [x, y])) h2 q (.tup [x, y]) := ⟨by show 2 ≤ sizeLine; decide, vals.toList, hr, oq, hq2, hcq, nq, by rw [hdq]⟩
    have I1 : Inv X pins σ (upd H q (.tup [x, y])) { s with heap := h2, toks := tk } :=
      I.turnedNew (ch := wr) (fun b ob hb z => hk2 b ob hb (hk1 b ob hb z)) (fun b hb => hf b (hs b hb)) hq new
    refine ⟨.ref q, _, I1, rfl, ⟨q, x, y, rfl, hn, rfl, hy⟩, bk _ _ hS2, fun b hb => ?_⟩
    obtain ⟨ob, hob, _⟩ := ho i s.heap st b hb
    rw [upd_ne (Nat.ne_of_lt (Nat.lt_of_lt_of_le (Heap.lt_size hob) hq))]
    exact (hf b hb).1
  done := by
    intro X hP hw hK hc i pins s σ H E I hf st hg
    obtain ⟨e, hG⟩ := hg
    subst e
    obtain ⟨fq, Pt, Sx, Mid, W, hx, bk, hv⟩ := get X pins s σ H _ hP hw hK hc I hG st
    subst hP hw hK
    refine W.done s _ E hx fun h' tk hk1 => ⟨rfl, ?_⟩
    refine I.step (g' := s.gens) (d' := s.drawn) (ch := wr) (fun b hb => ?_) (fun b o _ _ hc e _ => hk1 b o hc e) (fun b o _ _ hc e _ => ⟨o.slots, hk1 b o hc e⟩) (fun _ _ _ _ z => z) (fun b o hc e => ⟨o, hk1 b o hc e⟩) (fun _ _ z => z) (fun _ _ _ z => z) (fun b ps z => ⟨#[], by rw [z]; simp⟩) (fun m hm => ?_) (fun b u e => ?_) I.bare
    · obtain ⟨f0, f1, f2, f3, f4, f5⟩ := hf b (hs b hb)
      exact ⟨f3, f1, f4, f5⟩
    · obtain ⟨o, es', ep, ho', r⟩ := hm
      exact ⟨o, es', ep, hk1 _ o (fun z => (hf _ (hs _ z)).2.1 rfl) ho', r⟩
    · refine (I.hok b u e).stay (fun c v hc q => hk1 c v (fun z => ?_) q) (fun _ q => q) fun _ _ q => q
      have z0 := (hf c (hs c z)).1
      rcases hc with rfl | hc
      · rw [z0] at e; cases e
      · rw [z0] at hc; cases hc
  self := fun A i s Q E st h => hself A i s Q E st h
/-! ### enumerate(t), t a tuple -/
set_option maxHeartbeats 1000000 in
theorem meets_enum1 {v : Value} {o : Obj} {G : Heap → Prop} (B : Begins v o G) : Meets (Builtin.«enumerate.__new__» ⟨[.type "enumerate", v], []⟩) (fun _ R s => G s.heap ∧
      R (.ok (.ret (.ref (s.heap.push o).objs.size))) { s with heap := (s.heap.push o).push { cls := .type "enumerate", data := .fields #[.none, .bool false, .ref s.heap.objs.size, rawInt 0, .none, .none] } }) :=
  .of_wp fun prog w A R s h => by
    obtain ⟨hp, g, d, tk, os⟩ := s
    obtain ⟨h1, h⟩ := h
    have hsub := sub_enumerate
    have q1 : ∀ {A' : Around} {E : Value → Shared → Prop} {Q : Value → Shared → Prop}, Q (.ref hp.objs.size) ⟨hp.push o, g, d, tk, os⟩ → wpAny (model prog w) A' (pyIter v) Q E ⟨hp, g, d, tk, os⟩ := fun q => B.iter prog w _ _ ⟨hp, g, d, tk, os⟩ _ h1 q
    wp_walk using q1
    refine wpAny_stack_any fun st => wpAny_pure ?_
    split
    · rename_i c _ _ _ _ _
      cases (c == Value.type "enumerate") <;> (wp_walk using q1; exact ⟨_, rfl, h⟩)
    · (wp_walk using q1; exact ⟨_, rfl, h⟩)
theorem call_enum1 {prog : Program} {w : World} {A : Around} {E : Value → Shared → Prop} {s : Shared} {v : Value} {o : Obj} {G : Heap → Prop} {Q : Value → Shared → Prop} (B : Begins v o G) (h1 : G s.heap)
    (h : ∀ h', IsEnum h' (s.heap.objs.size + 1) s.heap.objs.size 0 .none → h'.get? s.heap.objs.size = some o → (∀ b o, s.heap.get? b = some o → h'.get? b = some o) → Q (.ref (s.heap.objs.size + 1)) { s with heap := h' }) :
    wpAny (model prog w) A (call (.type "enumerate") [v]) Q E s := by
  refine callType_new F.called_enumerate (by decide) (F.typeCall_enumerate_1 _) (F.newCall_enumerate_1 _) (fun obj => F.args_object_init_2 obj _) F.entry_enumerate_new (meets_enum1 B) ⟨h1, ?_⟩
  have hz : (s.heap.push o).objs.size = s.heap.objs.size + 1 := Heap.size_push ..
  have he : IsEnum ((s.heap.push o).push { cls := .type "enumerate", data := .fields #[.none, .bool false, .ref s.heap.objs.size, rawInt 0, .none, .none] }) (s.heap.objs.size + 1) s.heap.objs.size 0 .none := by
    rw [← hz]; exact Heap.get?_push_size (s.heap.push o) rfl
  show _ ∧ _
  rw [hz]
  exact ⟨⟨_, he, rfl⟩, h _ he (Heap.get?_push_of_some _ (Heap.get?_push_size _ B.free)) fun b o x => Heap.get?_push_of_some _ (Heap.get?_push_of_some _ x)⟩
/-- the turns of enumerate over the tuple at a -/
def JeT (a : Addr) (xs : List V) : It := ItP (fun H => H a = some (.tup xs)) xs.length (fun i x y => x = .int (i : Nat) ∧ xs[i]? = some y)
theorem turn_enumT {P : Program} {w : World} {K : PySem.W.Frag} {es : List Expr} {kk : Nat} {tpos : Pos} {xs : List V} (a e it : Addr) :
    Turn P w K (.Tuple es kk tpos) (JeT a xs) [e, it] e (fun i h => (∃ old, IsEnum h e it (i : Nat) old) ∧ h.IsTupleIter it a i ∧ e ≠ it ∧ a ≠ e ∧ a ≠ it) := by
  refine turn_wt (wr := [e, it]) (List.mem_cons_self ..) (fun b hb => hb) (fun i h st b hb => ?_) (fun i h h' st k => ?_) ?_ (fun A i s Q E st h => let ⟨⟨_, he⟩, _⟩ := st; wpAny_pyIter_enum he h)
  · obtain ⟨⟨old, he⟩, ⟨o, ho, hc, hd⟩, _⟩ := st
    rcases List.mem_cons.mp hb with z | hb
    · rw [z]; exact ⟨_, he, fun v q => nomatch q⟩
    · rw [List.mem_singleton.mp hb]; exact ⟨o, ho, fun v q => by rw [hd] at q; cases q⟩
  · obtain ⟨⟨old, he⟩, hi, r⟩ := st
    exact ⟨⟨old, k e (by simp) _ he⟩, hi.at fun o q => k it (by simp) o q, r⟩
  · intro X pins s σ H i hP hw hK hc I hG st
    subst hP hw hK
    obtain ⟨⟨old, he⟩, hi, r1, r2, r3⟩ := st
    obtain ⟨its, rv, p, hz⟩ := I.tuple (SqT.of hG)
    have hl := rv.length
    have hl2 : its.toArray.size = xs.length := by simp [hl]
    have W := WalksT.enumFrom (prog := X.prog) (w := X.w) (A := X.A) 0 (Draws.tuple (A := X.A.in1) (I.ok.hd hc) it a r3 its.toArray) e r1 (by simp; exact ⟨r1, Ne.symm r2⟩) (by simp)
    rw [hl2] at W
    refine ⟨_, _, _, _, W, ⟨⟨old, by rw [Int.zero_add]; exact he⟩, hi, p⟩, fun j h ⟨⟨old, he⟩, hi, _⟩ => ⟨⟨old, by rw [Int.zero_add] at he; exact he⟩, hi, r1, r2, r3⟩, fun j vals ⟨t, x, hx, ev⟩ => ?_⟩
    subst ev
    have hx' : its[j]? = some x := by simpa using hx
    have hj : j < xs.length := by rw [hl]; exact (List.getElem?_eq_some_iff.mp hx').1
    obtain ⟨u, hu, ru⟩ := rv.get (List.getElem?_eq_getElem hj)
    rw [hx'] at hu
    cases hu
    exact ⟨_, _, ⟨rfl, List.getElem?_eq_getElem hj⟩, .cons ⟨t, by rw [Int.zero_add]⟩ (.cons ru .nil)⟩
def iEnT (ta : L2.TA) : L2.TI := fun σ H R => ta σ H fun vs H1 => ∃ a xs, vs = [.ref a] ∧ H1 a = some (.tup xs) ∧ R (JeT a xs) H1
theorem pi_enumT {X : Cx} {e : Expr} {ta : L2.TA} {p pos tpos : Pos} {es : List Expr} {kk : Nat} (hm : X.mg "enumerate" = none) (ha : PA X [e] ta) (hg : Gl X "enumerate" := by rfl) (hs : starEach [e] X.env = [(false, eval e X.env)] := by rfl) :
    PI X (.Tuple es kk tpos) (.Call (.Name "enumerate" p) [e] [] pos) (iEnT ta) := by
  refine ⟨fun pins s σ H R I h => ?_⟩
  refine Call_ (ld_blt I hg hm boot_enumerate (PyProof.Rows.callWith_type1 (thn (ha.run pos pins s σ H _ I h) fun us s1 ⟨vs, H1, I1, r1, a, xs, ex, hq, q⟩ => ?_) hs rfl))
  subst ex
  obtain ⟨u, rfl, r⟩ := vals1 r1
  cases r
  obtain ⟨its, rv, p', hz⟩ := I1.tuple (SqT.of hq)
  have hla : a < s1.heap.objs.size := p'.lt
  refine call_enum1 (begins_tuple a its.toArray) p' fun h' he hit hk => wpAny_pyIter_enum he ?_
  have I2 : Inv X pins σ H1 { s1 with heap := h' } := I1.kept (t' := s1.toks) hk
  refine ⟨s1.heap.objs.size + 1, [s1.heap.objs.size + 1, s1.heap.objs.size], _, _, H1, rfl, I2, turn_enumT a (s1.heap.objs.size + 1) s1.heap.objs.size, ⟨⟨.none, he⟩, ⟨_, hit, rfl, rfl⟩, Nat.succ_ne_self _, Nat.ne_of_lt (Nat.lt_succ_of_lt hla), Nat.ne_of_lt hla⟩, fun b hb => ?_, q⟩
  have hle : s1.heap.objs.size ≤ b := by
    rcases List.mem_cons.mp hb with z | hb
    · rw [z]; exact Nat.le_succ _
    · rw [List.mem_singleton.mp hb]; exact Nat.le_refl _
  exact I1.fpOk hle (I1.hok.fresh hle)
/-- a for over it -/
theorem for_P {J : It} {n : Nat} {G : Hp → Prop} {Y : Nat → Hp → V → Hp → Prop} (wk : Walk J n G Y) {g : TG} {tb : TS} {D : Ends} {σ : L2.St} {H : Hp} (Pv : Nat → L2.St → Hp → Prop) (h0 : Pv 0 σ H) (hG : ∀ i σ H, i ≤ n → Pv i σ H → G H)
    (hs : ∀ i x σ H H', i < n → Pv i σ H → Y i H x H' → g x σ H' fun σ2 H2 => tb { D with nx := Pv (i + 1), ct := Pv (i + 1), bk := D.nx } σ2 H2) (hd : ∀ σ H, Pv n σ H → D.nx σ H) :
    ∃ W : Nat → Nat → L2.St → Hp → Prop, (∃ m, W 0 m σ H) ∧ ∀ i m σ H, W i m σ H →
      (J.stop i H ∧ D.nx σ H) ∨ (J.go i H ∧ ∃ N : L2.St → Hp → Prop, (∀ σ' H', N σ' H' → ∃ m', m' < m ∧ W (i + 1) m' σ' H') ∧ ∀ x H', J.yld i H x H' → g x σ H' fun σ2 H2 => tb { D with nx := N, ct := N, bk := D.nx } σ2 H2) :=
  for_it wk Pv h0 hG hs hd
end TB
namespace TB
open PySem PySem.Spec PyProof.Rows L2
/-- a side -/
def Sd (i : Int) : Prop := 0 < i ∧ i ≤ 1048576
section
variable {P : Program} {w : World} {K : PySem.W.Frag} {mg : Str → Option Value} {base : Heap}
/-! ### sums -/
theorem sc_common : FnScope ["one", "other"] ["one", "other"] (defScope s_common) := ⟨rfl, rfl, rfl, by decide +kernel, rfl, by decide +kernel, by decide +kernel⟩
def sp_common : Sp := fun vs H Q _ => ∃ a b : Int, vs = [.int a, .int b] ∧ 0 ≤ a ∧ 0 ≤ b ∧ Q (.int (gI a b)) H
theorem ok_common (T : TX w K mg) : FnR P w K mg base CX0 1 (a_common K) sp_common :=
  fnr0 (f_common T) sc_common (fun vs H Q E ⟨_, _, e, _⟩ => by rw [e]; rfl) (fun _ _ _ _ _ _ us hl => match us, hl with | [_, _], _ => rfl) fun cdv A outer s H vs Q E hr h => by
    obtain ⟨a, b, rfl, ha, hb, q⟩ := h
    refine ⟨_, pss_cons (ps_while PassesOwn.never (pt_cmpR op_gt (pv 1) pe_int (nomark _)) (pss_one (ps_par (i := 0) (j := 1) rfl sc_common.nd rfl rfl (by decide) rfl rfl (pa_cons (pv 1) (pa_cons (pe_op op_mod (pv 0) (pv 1)) pa_nil)) (by rfl)))) (pss_one (ps_ret (pv 0))), ?_⟩
    refine ⟨fun m σ H' => ∃ x y : Int, σ = [some (.int x), some (.int y)] ∧ 0 ≤ x ∧ 0 ≤ y ∧ Int.gcd x y = Int.gcd a b ∧ H' = H ∧ m = y.toNat, ⟨_, a, b, rfl, ha, hb, rfl, rfl, rfl⟩, ?_⟩
    rintro m σ H' ⟨x, y, rfl, hx, hy, e, rfl, rfl⟩
    refine ⟨_, rfl, _, _, rfl, rfl, _, rfl, ?_⟩
    refine ite2 (fun c => ?_) fun c => ?_
    · have c : 0 < y := of_decide_eq_true c
      refine ⟨_, fun _ _ h => h, _, rfl, _, rfl, _, rfl, _, _, rfl, rfl, c, _, _, rfl, ?_⟩
      have h1 := Int.emod_nonneg x (show y ≠ 0 by omega)
      have h2 := Int.emod_lt_of_pos x c
      exact ⟨_, by omega, y, x % y, rfl, hy, h1, (gcd_step hx c).trans e, rfl, rfl⟩
    · have c : ¬ 0 < y := fun h => c (decide_eq_true h)
      obtain rfl : y = 0 := by omega
      refine ⟨_, rfl, ?_⟩
      show Q (.int x) H'
      unfold gI at q
      rw [← e, gcd_zero hx] at q
      exact q
theorem sc_joint : FnScope ["one", "other"] ["one", "other"] (defScope s_joint) := ⟨rfl, rfl, rfl, by decide +kernel, rfl, by decide +kernel, by decide +kernel⟩
def sp_joint : Sp := fun vs H Q _ => ∃ a b : Int, vs = [.int a, .int b] ∧ Sd a ∧ Sd b ∧ Q (.int (lI a b)) H
theorem ok_joint (T : TX w K mg) : FnR P w K mg base CX0 2 (a_joint K) sp_joint :=
  fnr0 (f_joint T) sc_joint (fun vs H Q E ⟨_, _, e, _⟩ => by rw [e]; rfl) (fun _ _ _ _ _ _ us hl => match us, hl with | [_, _], _ => rfl) fun cdv A outer s H vs Q E hr h => by
    obtain ⟨a, b, rfl, ⟨ha, ha2⟩, ⟨hb, hb2⟩, q⟩ := h
    refine ⟨_, pss_one (ps_ret (pe_op op_mul (pe_op op_fdiv (pv 0) (pe_f (ok_common T) (g_common T) (kp_common T) hr (pa_cons (pv 0) (pa_cons (pv 1) pa_nil)))) (pv 1))), ?_⟩
    have g0 := gI_pos (b := b) ha
    have g1 := gI_le (b := b) ha
    exact ⟨_, rfl, _, rfl, _, rfl, a, b, rfl, by omega, by omega, _, _, rfl, rfl, ⟨g0, by omega⟩, _, rfl, _, _, rfl, rfl, .inr ⟨by omega, by omega⟩, q⟩
theorem sc_inverse : FnScope ["one", "other", "left", "right", "now", "later", "times"] ["one", "other"] (defScope s_inverse) := ⟨rfl, rfl, rfl, by decide +kernel, rfl, by decide +kernel, by decide +kernel⟩
def sp_inverse : Sp := fun vs H Q _ => ∃ a b : Int, vs = [.int a, .int b] ∧ 0 < b ∧ b ≤ 1048576 ∧ ∀ H', Kp [] H H' → Q (.int (invF a b)) H'
theorem ok_inverse (T : TX w K mg) : FnR P w K mg base CX0 1 (a_inverse K) sp_inverse :=
  fnr0 (f_inverse T) sc_inverse (fun vs H Q E ⟨_, _, e, _⟩ => by rw [e]; rfl) (fun _ _ _ _ _ _ us hl => match us, hl with | [_, _], _ => rfl) fun cdv A outer s H vs Q E hr h => by
    obtain ⟨a, b, rfl, hb, hb2, q⟩ := h
    have nd := sc_inverse.nd
    refine ⟨_, pss_cons (ps_asg (pe_tupU (pa_cons (pe_op op_mod (pv 0) (pv 1)) (pa_cons (pv 1) (pa_cons pe_int (pa_cons pe_int pa_nil))))) (pg_tupU rfl (pgs_cons (pg_name (i := 2) nd rfl (Or.inl rfl)) (pgs_cons (pg_name (i := 3) nd rfl (Or.inl rfl)) (pgs_cons (pg_name (i := 4) nd rfl (Or.inl rfl)) (pgs_cons (pg_name (i := 5) nd rfl (Or.inl rfl)) pgs_nil))))))
      (pss_cons (ps_while PassesOwn.never (pt_cmpR op_gt (pv 2) pe_int (nomark _)) (pss_cons (ps_set (i := 6) nd rfl (Or.inl rfl) (pe_op op_fdiv (pv 3) (pv 2)))
          (pss_cons (ps_par (i := 2) (j := 3) rfl nd rfl rfl (by decide) rfl rfl (pa_cons (pe_op op_sub (pv 3) (pe_op op_mul (pv 6) (pv 2))) (pa_cons (pv 2) pa_nil)) (by rfl))
          (pss_one (ps_par (i := 4) (j := 5) rfl nd rfl rfl (by decide) rfl rfl (pa_cons (pe_op op_sub (pv 5) (pe_op op_mul (pv 6) (pv 4))) (pa_cons (pv 4) pa_nil)) (by rfl))))))
      (pss_one (ps_ret (pe_op op_mod (pv 5) (pv 1))))), ?_⟩
    refine ⟨_, rfl, _, rfl, _, _, rfl, rfl, hb, _, rfl, Nat.le_of_ble_eq_true rfl, fun v H1 k1 h1 => ?_⟩
    refine ⟨_, h1, rfl, _, _, rfl, _, _, rfl, _, _, rfl, _, _, rfl, rfl, ?_⟩
    have e0 := Int.emod_nonneg a (show b ≠ 0 by omega)
    have e1 := Int.emod_lt_of_pos a hb
    refine while_m (fun m σ H' => ∃ (l r n y : Int) (t : Option V), σ = [some (.int a), some (.int b), some (.int l), some (.int r), some (.int n), some (.int y), t] ∧ 0 ≤ l ∧ l ≤ 1048576 ∧ 0 ≤ r ∧ r ≤ 1048576 ∧ invL l r n y = invL (a % b) b 1 0 ∧ H' = H1 ∧ m = l.toNat) _ ⟨_, _, _, _, _, rfl, e0, by omega, by omega, hb2, rfl, rfl, rfl⟩ ?_
    rintro m σ H' ⟨l, r, n, y, t, rfl, l0, l1, r0, r1, e, rfl, rfl⟩
    refine ⟨_, rfl, _, _, rfl, rfl, _, rfl, ?_⟩
    refine ite2 (fun c => ?_) fun c => ?_
    · have c : 0 < l := of_decide_eq_true c
      have d0 : 0 ≤ r / l := Int.ediv_nonneg r0 l0
      have d1 : r / l ≤ r := Int.ediv_le_self _ r0
      have f0 := Int.emod_nonneg r (show l ≠ 0 by omega)
      have f1 := Int.emod_lt_of_pos r c
      refine ⟨_, fun _ _ h => h, _, rfl, _, rfl, _, _, rfl, rfl, ⟨c, by omega⟩, ?_⟩
      refine ⟨_, rfl, _, rfl, _, rfl, _, _, rfl, rfl, .inl ⟨by omega, by omega⟩, _, _, rfl, rfl, _, rfl, _, _, rfl, ?_⟩
      refine ⟨_, rfl, _, rfl, _, rfl, _, _, rfl, rfl, .inl ⟨by omega, by omega⟩, _, _, rfl, rfl, _, rfl, _, _, rfl, ?_⟩
      refine ⟨_, ?_, r - r / l * l, l, y - r / l * n, n, _, rfl, ?_, ?_, l0, l1, (invL_pos c).symm.trans e, rfl, rfl⟩
      all_goals (rw [mod_sub]; omega)
    · have c : ¬ 0 < l := fun h => c (decide_eq_true h)
      rw [invL_end c] at e
      refine ⟨_, rfl, _, rfl, _, _, rfl, rfl, hb, ?_⟩
      rw [e]
      exact q _ k1
theorem sc_least_times : FnScope ["one", "other", "side", "part"] ["one", "other", "side"] (defScope s_least_times) := ⟨rfl, rfl, rfl, by decide +kernel, rfl, by decide +kernel, by decide +kernel⟩
/-- an int or None -/
def oV : Option Int → V
  | none => .non
  | some i => .int i
def sp_least_times : Sp := fun vs H Q _ => ∃ a b c : Int, vs = [.int a, .int b, .int c] ∧ Sd a ∧ Sd b ∧ ∀ H', Kp [] H H' → Q (oV (ltF a b c)) H'
theorem ok_least_times (T : TX w K mg) : FnR P w K mg base CX0 2 (a_least_times K) sp_least_times :=
  fnr0 (f_least_times T) sc_least_times (fun vs H Q E ⟨_, _, _, e, _⟩ => by rw [e]; rfl) (fun _ _ _ _ _ _ us hl => match us, hl with | [_, _, _], _ => rfl) fun cdv A outer s H vs Q E hr h => by
    obtain ⟨a, b, c, rfl, ⟨ha, ha2⟩, ⟨hb, hb2⟩, q⟩ := h
    have nd := sc_least_times.nd
    refine ⟨_, pss_cons (ps_set (i := 3) nd rfl (Or.inl rfl) (pe_f (ok_common T) (g_common T) (kp_common T) hr (pa_cons (pv 0) (pa_cons (pv 1) pa_nil))))
      (pss_cons (ps_if (pt_cmpR op_ne (pe_op op_mod (pv 2) (pv 3)) pe_int (nomark _)) (pss_one (ps_ret pe_non)) pss_nil)
      (pss_one (ps_ret (pe_op op_mod (pe_op op_mul (pe_op op_fdiv (pv 2) (pv 3)) (pe_f (ok_inverse T) (g_inverse T) (kp_inverse T) hr (pa_cons (pe_op op_fdiv (pv 0) (pv 3)) (pa_cons (pe_op op_fdiv (pv 1) (pv 3)) pa_nil)))) (pe_op op_fdiv (pv 1) (pv 3)))))), ?_⟩
    have g0 := gI_pos (b := b) ha
    have g1 := gI_le (b := b) ha
    have u0 := div_pos hb g0 (gI_dvdr (a := a) (b := b))
    have u1 := div_le (show 0 ≤ b by omega) g0
    refine ⟨_, rfl, _, rfl, a, b, rfl, by omega, by omega, ?_⟩
    refine ⟨_, rfl, _, rfl, _, _, rfl, rfl, g0, rfl, _, rfl, ?_⟩
    unfold ltF at q
    by_cases e : c % gI a b = 0
    · rw [if_neg (fun z => z e)] at q
      refine (if_neg (show ¬ ((!decide (V.int (c % gI a b) = V.int 0)) = true) by rw [e]; decide)).mpr ?_
      have w := invF_nn (one := a / gI a b) u0
      refine ⟨_, rfl, _, rfl, _, _, rfl, rfl, ⟨g0, by omega⟩, ?_⟩
      refine ⟨_, rfl, _, rfl, _, _, rfl, rfl, ⟨g0, by omega⟩, _, rfl, _, rfl, _, _, rfl, rfl, ⟨g0, by omega⟩, _, _, rfl, u0, by omega, fun H1 k1 => ?_⟩
      exact ⟨_, _, rfl, rfl, .inr ⟨by omega, by omega⟩, _, rfl, _, rfl, _, _, rfl, rfl, ⟨g0, by omega⟩, _, _, rfl, rfl, u0, q _ k1⟩
    · rw [if_pos e] at q
      refine (if_pos (show ((!decide (V.int (c % gI a b) = V.int 0)) = true) by simp [e])).mpr ?_
      exact q _ .refl
end
end TB
namespace TB
open PySem PySem.Spec PyProof.Rows L2
theorem b_isinstance : bootBuiltins "isinstance" = some (.builtin "isinstance") := by decide +kernel
theorem b_len : bootBuiltins "len" = some (.builtin "len") := by decide +kernel
theorem b_int : bootBuiltins "int" = some (.type "int") := by decide +kernel
theorem b_bool : bootBuiltins "bool" = some (.type "bool") := by decide +kernel
theorem b_tuple : bootBuiltins "tuple" = some (.type "tuple") := by decide +kernel
theorem b_str : bootBuiltins "str" = some (.type "str") := by decide +kernel
theorem b_min : bootBuiltins "min" = some (.builtin "min") := by decide +kernel
theorem b_max : bootBuiltins "max" = some (.builtin "max") := by decide +kernel
theorem kit_int_int {K : PySem.W.Frag} : PySem.W.kitOne K (.type "int") (.type "int") = some true := kit_ty (by decide +kernel)
theorem kit_int_bool {K : PySem.W.Frag} : PySem.W.kitOne K (.type "int") (.type "bool") = some false := kit_ty (by decide +kernel)
theorem kit_tup_tup {K : PySem.W.Frag} : PySem.W.kitOne K (.type "tuple") (.type "tuple") = some true := kit_ty (by decide +kernel)
theorem pe_ty {X : Cx} {x : Str} {n : String} {pos : Pos} (hm : X.mg x = none) (hv : bootBuiltins x = some (.type n)) (hg : Gl X x := by rfl) (hn : x ≠ "__name__" := by decide) (hd : (x == ("__debug__" : Str)) = false := by decide) : PE X (.Name x pos) (tC (.ty n)) :=
  pe_bltn hg hm hv (show L2.RelV (.ty n) (.type n) from rfl) hn hd
/-- isinstance with a built-in class, x of the built-in type t -/
def rIsB2 (K : PySem.W.Frag) : List V → Hp → VK → Prop := fun xs H Q => ∃ (x : V) (n t : String) (b : Bool), xs = [x, .ty n] ∧ TyX K H x (.type t) ∧ PySem.W.kitOne K (.type t) (.type n) = some b ∧ Q (.bl b) H
theorem call_isB {X : Cx} : CallR X (.builtin "isinstance") (rIsB2 X.K) := CallR.imp call_isi fun xs H Q ⟨x, n, t, b, e, h, k, q⟩ => ⟨x, .ty n, .type t, .type n, b, e, .ty n, h, k, q⟩
def rLenU : List V → Hp → VK → Prop := fun vs H Q => ∃ x xs, vs = [x] ∧ (Tu H x xs ∨ Ls H x xs) ∧ Q (.int (xs.length : Nat)) H
theorem call_lenU {X : Cx} : CallR X (.builtin "len") rLenU := CallR.imp call_len_seq fun vs H Q ⟨x, xs, e, h, q⟩ => by
  rcases h with ⟨a, rfl, h⟩ | ⟨a, rfl, h⟩
  · exact ⟨a, xs, e, .inr (SqT.of h), q⟩
  · exact ⟨a, xs, e, .inl (SqL.of h), q⟩
section
variable {P : Program} {w : World} {K : PySem.W.Frag} {mg : Str → Option Value} {base : Heap}
theorem sc_is_sum : FnScope ["one", "other", "side", "times"] ["one", "other", "side"] (defScope s_is_sum) := ⟨rfl, rfl, rfl, by decide +kernel, rfl, by decide +kernel, by decide +kernel⟩
def sp_is_sum : Sp := fun vs H Q _ => ∃ a b c : Int, vs = [.int a, .int b, .int c] ∧ Sd a ∧ Sd b ∧ ∀ H', Kp [] H H' → Q (.bl (isSumF a b c)) H'
theorem ok_is_sum (T : TX w K mg) : FnR P w K mg base CX0 3 (a_is_sum K) sp_is_sum :=
  fnr0 (f_is_sum T) sc_is_sum (fun vs H Q E ⟨_, _, _, e, _⟩ => by rw [e]; rfl) (fun _ _ _ _ _ _ us hl => match us, hl with | [_, _, _], _ => rfl) fun cdv A outer s H vs Q E hr h => by
    obtain ⟨a, b, c, rfl, ha, hb, q⟩ := h
    have nd := sc_is_sum.nd
    refine ⟨_, pss_cons (ps_set (i := 3) nd rfl (Or.inl rfl) (pe_f (ok_least_times T) (g_least_times T) (kp_least_times T) hr (pa_cons (pv 0) (pa_cons (pv 1) (pa_cons (pv 2) pa_nil)))))
      (pss_one (ps_ret (pe_and (pe_cmpR op_notN (pv 3) pe_non (nomark _)) (pe_one (pe_cmpR op_le (pe_op op_mul (pv 0) (pv 3)) (pv 2) (nomark _)))))), ?_⟩
    refine ⟨_, rfl, _, rfl, _, rfl, a, b, c, rfl, ha, hb, fun H1 k1 => ?_⟩
    unfold isSumF at q
    cases e : ltF a b c with
    | none =>
      rw [e] at q
      exact ⟨_, rfl, rfl, _, rfl, iteF (q _ k1)⟩
    | some t =>
      rw [e] at q
      exact ⟨_, rfl, rfl, _, rfl, iteT ⟨_, rfl, _, rfl, _, _, rfl, rfl, .inl ⟨by have := ha.1; omega, by have := ha.2; omega⟩, _, rfl, _, _, rfl, rfl, q _ k1⟩⟩
theorem sc_floors : FnScope ["many", "by", "step", "begin", "found", "last"] ["many", "by", "step", "begin"] (defScope s_floors) := ⟨rfl, rfl, rfl, by decide +kernel, rfl, by decide +kernel, by decide +kernel⟩
def sp_floors : Sp := fun vs H Q _ => ∃ a b c d : Int, vs = [.int a, .int b, .int c, .int d] ∧ 0 ≤ a ∧ a ≤ 1048576 ∧ 0 < b ∧ b ≤ 1048576 ∧ 0 ≤ c ∧ 0 ≤ d ∧ Q (.int (flL 0 a b c d)) H
theorem ok_floors (T : TX w K mg) : FnR P w K mg base CX0 1 (a_floors K) sp_floors :=
  fnr0 (f_floors T) sc_floors (fun vs H Q E ⟨_, _, _, _, e, _⟩ => by rw [e]; rfl) (fun _ _ _ _ _ _ us hl => match us, hl with | [_, _, _, _], _ => rfl) fun cdv A outer s H vs Q E hr h => by
    obtain ⟨a, b, c, d, rfl, ha, ha2, hb, hb2, hc, hd, q⟩ := h
    have nd := sc_floors.nd
    refine ⟨_, pss_cons (ps_set (i := 4) nd rfl (Or.inl rfl) pe_int)
      (pss_cons (ps_while PassesOwn.never (pt_cmpR op_gt (pv 0) pe_int (nomark _))
        (pss_cons (ps_aug (i := 4) nd rfl (Or.inl rfl) (pe_op op_add (pe_op op_mul (pe_op op_fdiv (pe_op op_mul (pv 0) (pe_op op_sub (pv 0) pe_int)) pe_int) (pe_op op_fdiv (pv 2) (pv 1))) (pe_op op_mul (pv 0) (pe_op op_fdiv (pv 3) (pv 1)))) ip_add)
        (pss_cons (ps_par (i := 2) (j := 3) rfl nd rfl rfl (by decide) rfl rfl (pa_cons (pe_op op_mod (pv 2) (pv 1)) (pa_cons (pe_op op_mod (pv 3) (pv 1)) pa_nil)) (by rfl))
        (pss_cons (ps_set (i := 5) nd rfl (Or.inl rfl) (pe_op op_add (pe_op op_mul (pv 2) (pv 0)) (pv 3)))
        (pss_cons (ps_par (i := 0) (j := 3) rfl nd rfl rfl (by decide) rfl rfl (pa_cons (pe_op op_fdiv (pv 5) (pv 1)) (pa_cons (pe_op op_mod (pv 5) (pv 1)) pa_nil)) (by rfl))
        (pss_one (ps_par (i := 1) (j := 2) rfl nd rfl rfl (by decide) rfl rfl (pa_cons (pv 2) (pa_cons (pv 1) pa_nil)) (by rfl))))))))
      (pss_one (ps_ret (pv 4)))), ?_⟩
    refine while_m (fun m σ H' => ∃ (a' b' c' d' f : Int) (t : Option V), σ = [some (.int a'), some (.int b'), some (.int c'), some (.int d'), some (.int f), t] ∧ 0 ≤ a' ∧ a' ≤ 1048576 ∧ (0 < a' → 0 < b') ∧ b' ≤ 1048576 ∧ 0 ≤ c' ∧ 0 ≤ d' ∧ flL f a' b' c' d' = flL 0 a b c d ∧ H' = H ∧ m = b'.toNat) _ ⟨_, _, _, _, _, _, rfl, ha, ha2, fun _ => hb, hb2, hc, hd, rfl, rfl, rfl⟩ ?_
    rintro m σ H' ⟨x, y, z, u, f, t, rfl, x0, x1, y0, y1, z0, u0, e, rfl, rfl⟩
    refine ⟨_, rfl, _, _, rfl, rfl, _, rfl, ?_⟩
    refine ite2 (fun cc => ?_) fun cc => ?_
    · have cc : 0 < x := of_decide_eq_true cc
      have hy := y0 cc
      obtain ⟨k0, k1, k2⟩ := fl_next (step := z) (begin_ := u) cc hy
      have s0 := Int.emod_nonneg z (show y ≠ 0 by omega)
      have s1 := Int.emod_lt_of_pos z hy
      have w0 := Int.emod_nonneg (z % y * x + u % y) (show y ≠ 0 by omega)
      have D : CDiv z y := ⟨hy, by omega⟩
      have Mx : ∀ j, CMul x j := fun j => .inl ⟨by omega, by omega⟩
      have Mz : ∀ j, CMul (x * (x - 1) / 2) j := fun j => by
        have h1 : x * (x - 1) ≤ 1048576 * 1048576 := Int.mul_le_mul x1 (by omega) (by omega) (by omega)
        have h2 := Int.ediv_le_self (a := x * (x - 1)) 2 (Int.mul_nonneg x0 (by omega))
        have h3 := Int.ediv_nonneg (a := x * (x - 1)) (b := 2) (Int.mul_nonneg x0 (by omega)) (by omega)
        exact .inl ⟨by omega, by omega⟩
      refine ⟨_, fun _ _ h => h, _, rfl, ?_⟩
      refine ⟨_, rfl, _, rfl, _, _, rfl, rfl, _, _, rfl, rfl, Mx _, _, _, rfl, rfl, ⟨by decide, by decide⟩, ?_⟩
      refine ⟨_, rfl, _, rfl, _, _, rfl, rfl, D, _, _, rfl, rfl, Mz _, ?_⟩
      refine ⟨_, rfl, _, rfl, _, rfl, _, _, rfl, rfl, D, _, _, rfl, rfl, Mx _, _, _, rfl, rfl, _, _, rfl, rfl, ?_⟩
      refine ⟨_, rfl, _, rfl, _, _, rfl, rfl, hy, _, rfl, _, rfl, _, _, rfl, rfl, hy, _, _, rfl, ?_⟩
      refine ⟨_, rfl, _, rfl, _, _, rfl, rfl, .inr ⟨by omega, by omega⟩, _, rfl, _, _, rfl, rfl, ?_⟩
      refine ⟨_, rfl, _, rfl, _, _, rfl, rfl, D, _, rfl, _, rfl, _, _, rfl, rfl, hy, _, _, rfl, ?_⟩
      refine ⟨_, rfl, _, rfl, _, _, rfl, ?_⟩
      exact ⟨_, by omega, _, _, _, _, _, _, rfl, k0, by omega, k2, by omega, by omega, w0, (flL_pos cc hy).symm.trans e, rfl, rfl⟩
    · have cc : ¬ 0 < x := fun h => cc (decide_eq_true h)
      rw [flL_end cc] at e
      refine ⟨_, rfl, ?_⟩
      rw [e]
      exact q
theorem sc_count_sums : FnScope ["one", "other", "most", "part", "last"] ["one", "other", "most"] (defScope s_count_sums) := ⟨rfl, rfl, rfl, by decide +kernel, rfl, by decide +kernel, by decide +kernel⟩
def sp_count_sums : Sp := fun vs H Q _ => ∃ a b c : Int, vs = [.int a, .int b, .int c] ∧ Sd a ∧ Sd b ∧ 0 ≤ c ∧ Q (.int (csF a b c)) H
theorem ok_count_sums (T : TX w K mg) : FnR P w K mg base CX0 2 (a_count_sums K) sp_count_sums :=
  fnr0 (f_count_sums T) sc_count_sums (fun vs H Q E ⟨_, _, _, e, _⟩ => by rw [e]; rfl) (fun _ _ _ _ _ _ us hl => match us, hl with | [_, _, _], _ => rfl) fun cdv A outer s H vs Q E hr h => by
    obtain ⟨a, b, c, rfl, ⟨ha, ha2⟩, ⟨hb, hb2⟩, hc, q⟩ := h
    have nd := sc_count_sums.nd
    refine ⟨_, pss_cons (ps_set (i := 3) nd rfl (Or.inl rfl) (pe_f (ok_common T) (g_common T) (kp_common T) hr (pa_cons (pv 0) (pa_cons (pv 1) pa_nil))))
      (pss_cons (ps_par3 (i := 0) (j := 1) (l := 2) rfl nd rfl rfl rfl (by decide) (by decide) (by decide) rfl rfl rfl (pa_cons (pe_op op_fdiv (pv 0) (pv 3)) (pa_cons (pe_op op_fdiv (pv 1) (pv 3)) (pa_cons (pe_op op_fdiv (pv 2) (pv 3)) pa_nil))) (by rfl))
      (pss_cons (ps_set (i := 4) nd rfl (Or.inl rfl) (pe_callB (call_min2 rfl) (by rfl) (n_min T) b_min (pa_cons (pe_op op_sub (pv 1) pe_int) (pa_cons (pe_op op_fdiv (pv 2) (pv 0)) pa_nil))))
      (pss_one (ps_ret (pe_op op_add (pe_f (ok_floors T) (g_floors T) (kp_floors T) hr (pa_cons (pe_op op_add (pv 4) pe_int) (pa_cons (pv 1) (pa_cons (pv 0) (pa_cons (pe_op op_sub (pv 2) (pe_op op_mul (pv 0) (pv 4))) pa_nil))))) (pv 4)))))), ?_⟩
    have g0 := gI_pos (b := b) ha
    have g1 := gI_le (b := b) ha
    have o0 := div_pos ha g0 (gI_dvdl (a := a) (b := b))
    have o1 := div_le (show 0 ≤ a by omega) g0
    have u0 := div_pos hb g0 (gI_dvdr (a := a) (b := b))
    have u1 := div_le (show 0 ≤ b by omega) g0
    have m0 := div_nn hc g0
    rw [csF_eq] at q
    obtain ⟨l0, l1, l2, l3⟩ := lastF_bd o0 u0 m0
    have D : ∀ x, CDiv x (gI a b) := fun x => ⟨g0, by omega⟩
    refine ⟨_, rfl, _, rfl, a, b, rfl, by omega, by omega, ?_⟩
    refine ⟨_, rfl, _, rfl, _, _, rfl, rfl, D _, _, rfl, _, rfl, _, _, rfl, rfl, D _, _, rfl, _, rfl, _, _, rfl, rfl, D _, _, _, _, rfl, ?_⟩
    refine ⟨_, rfl, _, _, rfl, rfl, _, rfl, _, rfl, _, _, rfl, rfl, ⟨o0, by omega⟩, _, _, rfl, ?_⟩
    show tSeq _ _ _ _ _
    refine ⟨_, rfl, _, _, rfl, rfl, _, rfl, _, rfl, _, rfl, _, rfl, _, rfl, _, _, rfl, rfl, .inl ⟨by omega, by omega⟩, _, _, rfl, rfl, ?_⟩
    refine ⟨_, _, _, _, rfl, ?_, ?_, u0, by omega, by omega, ?_, _, rfl, _, _, rfl, rfl, q⟩
    · exact Int.le_add_one l0
    · exact Int.le_trans (Int.add_one_le_of_lt l1) (by omega)
    · exact l2
/-! ### forms -/
theorem sc_is_integer : FnScope ["value", "low", "high"] ["value", "low", "high"] (defScope s_is_integer) := ⟨rfl, rfl, rfl, by decide +kernel, rfl, by decide +kernel, by decide +kernel⟩
def sp_is_integer : Sp := fun vs H Q _ => ∃ a b c : Int, vs = [.int a, .int b, .int c] ∧ Q (.bl (decide (b ≤ a ∧ a ≤ c))) H
theorem ok_is_integer (T : TX w K mg) : FnR P w K mg base CX0 1 (a_is_integer K) sp_is_integer :=
  fnr0 (f_is_integer T) sc_is_integer (fun vs H Q E ⟨_, _, _, e, _⟩ => by rw [e]; rfl) (fun _ _ _ _ _ _ us hl => match us, hl with | [_, _, _], _ => rfl) fun cdv A outer s H vs Q E hr h => by
    obtain ⟨a, b, c, rfl, q⟩ := h
    refine ⟨_, pss_one (ps_ret (pe_and (pe_callB call_isB (by rfl) (n_isinstance T) b_isinstance (pa_cons (pv 0) (pa_cons (pe_ty (n_int T) b_int) pa_nil)))
      (pe_and (pe_not (pe_callB call_isB (by rfl) (n_isinstance T) b_isinstance (pa_cons (pv 0) (pa_cons (pe_ty (n_bool T) b_bool) pa_nil))))
      (pe_one (pe_chain op_le op_le (pv 1) (pv 0) (pv 2)))))), ?_⟩
    refine ⟨_, rfl, _, _, _, _, rfl, .base (.int a), kit_int_int, _, rfl, iteT ?_⟩
    refine ⟨_, rfl, _, _, _, _, rfl, .base (.int a), kit_int_bool, _, rfl, _, rfl, iteT ?_⟩
    refine ⟨_, rfl, _, rfl, _, _, rfl, rfl, _, rfl, ?_⟩
    by_cases h1 : b ≤ a
    · refine (if_pos (decide_eq_true h1)).mpr ⟨_, rfl, _, _, rfl, rfl, ?_⟩
      rw [show decide (b ≤ a ∧ a ≤ c) = decide (a ≤ c) by simp [h1]] at q
      exact q
    · refine (if_neg (fun z => h1 (of_decide_eq_true z))).mpr ?_
      rw [show decide (b ≤ a ∧ a ≤ c) = false by simp [h1]] at q
      exact q
theorem sc_sides_error : FnScope ["value", "axis", "side"] ["value"] (defScope s_sides_error) := ⟨rfl, rfl, rfl, by decide +kernel, rfl, by decide +kernel, by decide +kernel⟩
/-- sides: as many as n, each one a side -/
def Sds (n : Nat) (ns : List Int) : Prop := ns.length = n ∧ ∀ x ∈ ns, Sd x
def sp_sides_error : Sp := fun vs H Q _ => ∃ v n ns, vs = [v] ∧ Ti H v ns ∧ Sds n ns ∧ 1 ≤ n ∧ n ≤ 4 ∧ ∀ H', Kp [] H H' → Q .non H'
theorem ok_sides_error (T : TX w K mg) : FnR P w K mg base CX0 2 (a_sides_error K) sp_sides_error :=
  fnr0 (f_sides_error T) sc_sides_error (fun vs H Q E ⟨_, _, _, e, _⟩ => by rw [e]; rfl) (fun _ _ _ _ _ _ us hl => match us, hl with | [_], _ => rfl) fun cdv A outer s H vs Q E hr h => by
    obtain ⟨v, n, ns, rfl, ht, ⟨hn, hs⟩, n1, n4, q⟩ := h
    have nd := sc_sides_error.nd
    refine ⟨_, pss_cons (ps_if (PW.pt (pw_or (pt_not (pt_val (pe_callB call_isB (by rfl) (n_isinstance T) b_isinstance (pa_cons (pv 0) (pa_cons (pe_ty (n_tuple T) b_tuple) pa_nil)))))
        (pw_or1 (pt_not (pt_chain op_le op_le pe_int (pe_callB call_lenU (by rfl) (n_len T) b_len (pa_cons (pv 0) pa_nil)) (pe_gi (i_MAX_DIMS T))))))) pss_never pss_nil)
      (pss_cons (ps_for PassesOwn.never rfl (pi_enumT (n_enumerate T) (pa_cons (pv 0) pa_nil)) (pg_tupU rfl (pgs_cons (pg_name (i := 1) nd rfl (Or.inl rfl)) (pgs_cons (pg_name (i := 2) nd rfl (Or.inl rfl)) pgs_nil)))
        (pss_one (ps_if (pt_not (pt_val (pe_f (ok_is_integer T) (g_is_integer T) (kp_is_integer T) hr (pa_cons (pv 2) (pa_cons pe_int (pa_cons (pe_gi (i_MAX_SIDE T)) pa_nil)))))) pss_never pss_nil)))
      (pss_one (ps_ret pe_non))), ?_⟩
    obtain ⟨a, rfl, ha⟩ := ht
    refine ⟨_, rfl, _, _, _, _, rfl, .base (.tup ha), kit_tup_tup, _, rfl, iteF ?_⟩
    refine ⟨_, rfl, _, _, rfl, .inl ⟨a, rfl, ha⟩, _, _, rfl, rfl, _, rfl, ?_⟩
    have hl : ((ns.map V.int).length : Int) = n := by simp [hn]
    rw [hl]
    refine (if_pos (decide_eq_true (by omega : (1 : Int) ≤ n))).mpr ⟨_, _, rfl, rfl, _, rfl, ?_⟩
    rw [show decide ((n : Int) ≤ 4) = true from decide_eq_true (by omega)]
    refine iteF ?_
    refine ⟨_, rfl, a, _, rfl, ha, ?_⟩
    refine for_P walk_P (fun i σ H' => Kp [] H H' ∧ ∃ t u, σ = [some (.ref a), t, u]) ⟨.refl, _, _, rfl⟩ (fun i σ H' _ p => p.1.tup a _ ha) (fun i x σ H1 H2 hi p y => ?_) fun σ H' p => q _ p.1
    obtain ⟨k1, t, u, rfl⟩ := p
    obtain ⟨x', y', k2, hx, rfl, hy⟩ := y
    rw [List.getElem?_map] at hy
    obtain ⟨z, hz, rfl⟩ := Option.map_eq_some_iff.mp hy
    obtain ⟨s1, s2⟩ := hs z (List.mem_of_getElem? hz)
    refine ⟨_, hx, rfl, _, _, rfl, _, _, rfl, rfl, _, rfl, z, 1, 1000000000000, rfl, _, rfl, ?_⟩
    rw [show decide ((1 : Int) ≤ z ∧ z ≤ 1000000000000) = true from decide_eq_true ⟨by omega, by omega⟩]
    exact iteF ⟨k1.trans k2, _, _, rfl⟩
end
end TB
namespace TB
open PySem PySem.Spec PyProof.Rows L2
theorem cutV_take {xs : List V} {k : Nat} (h : k ≤ xs.length) : cutV xs none (some (k : Int)) = xs.take k := by
  unfold cutV
  rw [HT.sIx_none, HT.sIx_nat, Nat.min_eq_left h]
  simp
theorem cutV_drop {xs : List V} {k : Nat} (h : k ≤ xs.length) : cutV xs (some (k : Int)) none = xs.drop k := by
  unfold cutV
  rw [HT.sIx_none, HT.sIx_nat, Nat.min_eq_left h]
  rw [List.take_of_length_le (by simp)]
theorem set_cut {xs : List V} {k : Nat} {y : V} (h : k < xs.length) : xs.take k ++ [y] ++ xs.drop (k + 1) = xs.set k y := by
  rw [List.set_eq_take_append_cons_drop, if_pos h]
  simp
theorem atI_n {xs : List V} {i : Int} {v : V} (j : Nat) (hi : i = (j : Int)) (h : xs[j]? = some v) : atI xs i = some v := by rw [hi]; exact atI_nat h
theorem Tu.ne {H : Hp} {v : V} {xs : List V} (h : Tu H v xs) : v ≠ .non := by obtain ⟨a, rfl, _⟩ := h; intro e; cases e
section
variable {P : Program} {w : World} {K : PySem.W.Frag} {mg : Str → Option Value} {base : Heap}
theorem sc_with_side : FnScope ["sides", "axis", "side"] ["sides", "axis", "side"] (defScope s_with_side) := ⟨rfl, rfl, rfl, by decide +kernel, rfl, by decide +kernel, by decide +kernel⟩
def sp_with_side : Sp := fun vs H Q _ => ∃ (v : V) (n : Nat) (ns : List Int) (k : Nat) (x : Int), vs = [v, .int k, .int x] ∧ Ti H v ns ∧ Sds n ns ∧ n ≤ 4 ∧ k < n ∧ ∀ v' H', Kp [] H H' → Ti H' v' (ns.set k x) → Q v' H'
theorem ok_with_side (T : TX w K mg) : FnR P w K mg base CX0 1 (a_with_side K) sp_with_side :=
  fnr0 (f_with_side T) sc_with_side (fun vs H Q E ⟨_, _, _, _, _, e, _⟩ => by rw [e]; rfl) (fun _ _ _ _ _ _ us hl => match us, hl with | [_, _, _], _ => rfl) fun cdv A outer s H vs Q E hr h => by
    obtain ⟨v, n, ns, k, x, rfl, ht, ⟨hn, hs⟩, n4, hk, q⟩ := h
    refine ⟨_, pss_one (ps_ret (pe_op op_catU (pe_op op_catU (pe_slice sl_tupU (pv 0) po_none (po_some (pv 1))) (pe_tupU (pa_cons (pv 2) pa_nil))) (pe_slice sl_tupU (pv 0) (po_some (pe_op op_add (pv 1) pe_int)) po_none))), ?_⟩
    have hl : (ns.map V.int).length = n := by simp [hn]
    refine ⟨_, rfl, _, rfl, _, rfl, _, ht, fun v1 H1 k1 h1 => ?_⟩
    rw [cutV_take (by omega)] at h1
    refine ⟨_, rfl, Nat.le_of_ble_eq_true rfl, fun v2 H2 k2 h2 => ?_⟩
    refine ⟨_, _, h1.kp k2, h2, by simp; omega, fun v3 H3 k3 h3 => ?_⟩
    refine ⟨_, rfl, _, rfl, _, _, rfl, rfl, _, rfl, _, ((ht.kp k1).kp k2).kp k3, fun v4 H4 k4 h4 => ?_⟩
    rw [show ((k : Int) + 1) = ((k + 1 : Nat) : Int) by omega, cutV_drop (by omega)] at h4
    refine ⟨_, _, h3.kp k4, h4, by simp; omega, fun v5 H5 k5 h5 => ?_⟩
    refine q v5 H5 ((((k1.trans k2).trans k3).trans k4).trans k5) ?_
    rw [set_cut (by omega)] at h5
    unfold Ti
    rw [List.map_set]
    exact h5
theorem sc_kinds_error : FnScope ["value", "kind", "sides"] ["value"] (defScope s_kinds_error) := ⟨rfl, rfl, rfl, by decide +kernel, rfl, by decide +kernel, by decide +kernel⟩
def sp_kinds_error : Sp := fun vs H Q _ => ∃ v n one other, vs = [v] ∧ TP2 H v one other ∧ Sds n one ∧ Sds n other ∧ 1 ≤ n ∧ n ≤ 4 ∧ ∀ H', Kp [] H H' → Q .non H'
theorem ok_kinds_error (T : TX w K mg) : FnR P w K mg base CX0 3 (a_kinds_error K) sp_kinds_error :=
  fnr0 (f_kinds_error T) sc_kinds_error (fun vs H Q E ⟨_, _, _, _, e, _⟩ => by rw [e]; rfl) (fun _ _ _ _ _ _ us hl => match us, hl with | [_], _ => rfl) fun cdv A outer s H vs Q E hr h => by
    obtain ⟨v, n, one, other, rfl, ht, h1, h2, n1, n4, q⟩ := h
    have nd := sc_kinds_error.nd
    refine ⟨_, pss_cons (ps_if (PW.pt (pw_or (pt_not (pt_val (pe_callB call_isB (by rfl) (n_isinstance T) b_isinstance (pa_cons (pv 0) (pa_cons (pe_ty (n_tuple T) b_tuple) pa_nil)))))
        (pw_or1 (pt_not (pt_chain op_le op_le pe_int (pe_callB call_lenU (by rfl) (n_len T) b_len (pa_cons (pv 0) pa_nil)) (pe_gi (i_MAX_KINDS T))))))) pss_never pss_nil)
      (pss_cons (ps_for PassesOwn.never rfl (pi_enumT (n_enumerate T) (pa_cons (pv 0) pa_nil)) (pg_tupU rfl (pgs_cons (pg_name (i := 1) nd rfl (Or.inl rfl)) (pgs_cons (pg_name (i := 2) nd rfl (Or.inl rfl)) pgs_nil)))
        (pss_cons (ps_if (pt_cmpR op_notN (pe_f (ok_sides_error T) (g_sides_error T) (kp_sides_error T) hr (pa_cons (pv 2) pa_nil)) pe_non (nomark _)) pss_never pss_nil)
        (pss_one (ps_if (pt_cmpR op_ne (pe_callB call_lenU (by rfl) (n_len T) b_len (pa_cons (pv 2) pa_nil)) (pe_callB call_lenU (by rfl) (n_len T) b_len (pa_cons (pe_ix ix_tupU (pv 0) pe_int (fun _ _ => rfl)) pa_nil)) (nomark _)) pss_never pss_nil))))
      (pss_one (ps_ret pe_non))), ?_⟩
    obtain ⟨x, y, ⟨a, rfl, ha⟩, hx, hy⟩ := ht
    refine ⟨_, rfl, _, _, _, _, rfl, .base (.tup ha), kit_tup_tup, _, rfl, iteF ?_⟩
    refine ⟨_, rfl, _, _, rfl, .inl ⟨a, rfl, ha⟩, _, _, rfl, rfl, _, rfl, ?_⟩
    refine (if_pos (by rfl)).mpr ⟨_, _, rfl, rfl, _, rfl, ?_⟩
    refine iteF ?_
    refine ⟨_, rfl, a, _, rfl, ha, ?_⟩
    refine for_P walk_P (fun i σ H' => Kp [] H H' ∧ ∃ t u, σ = [some (.ref a), t, u]) ⟨.refl, _, _, rfl⟩ (fun i σ H' _ p => p.1.tup a _ ha) (fun i x' σ H1 H2 hi p z => ?_) fun σ H' p => q _ p.1
    obtain ⟨k1, t, u, rfl⟩ := p
    obtain ⟨x0, z0, k2, hz, rfl, hz0⟩ := z
    have hz1 : ∃ ns, Ti H z0 ns ∧ Sds n ns := by
      match i, hz0 with
      | 0, e => cases e; exact ⟨_, hx, h1⟩
      | 1, e => cases e; exact ⟨_, hy, h2⟩
    obtain ⟨ns, hns, sn⟩ := hz1
    refine ⟨_, hz, rfl, _, _, rfl, _, _, rfl, rfl, _, rfl, _, n, ns, rfl, (hns.kp k1).kp k2, sn, n1, n4, fun H3 k3 => ⟨rfl, _, rfl, iteF ?_⟩⟩
    have k := (k1.trans k2).trans k3
    refine ⟨_, rfl, _, _, rfl, .inl (hns.kp k), _, rfl, _, _, _, ⟨a, rfl, k.tup a _ ha⟩, rfl, atI_n 0 rfl rfl, _, _, rfl, .inl (hx.kp k), rfl, _, rfl, ?_⟩
    rw [show (ns.map V.int).length = (one.map V.int).length by rw [List.length_map, List.length_map, sn.1, h1.1], decide_eq_true rfl]
    exact iteF ⟨k, _, _, rfl⟩
theorem sc_pair_error : FnScope ["value", "error"] ["value"] (defScope s_pair_error) := ⟨rfl, rfl, rfl, by decide +kernel, rfl, by decide +kernel, by decide +kernel⟩
theorem ok_pair_error (T : TX w K mg) : FnR P w K mg base CX0 4 (a_pair_error K) sp_kinds_error :=
  fnr0 (f_pair_error T) sc_pair_error (fun vs H Q E ⟨_, _, _, _, e, _⟩ => by rw [e]; rfl) (fun _ _ _ _ _ _ us hl => match us, hl with | [_], _ => rfl) fun cdv A outer s H vs Q E hr h => by
    obtain ⟨v, n, one, other, rfl, ht, h1, h2, n1, n4, q⟩ := h
    have nd := sc_pair_error.nd
    refine ⟨_, pss_cons (ps_set (i := 1) nd rfl (Or.inl rfl) (pe_f (ok_kinds_error T) (g_kinds_error T) (kp_kinds_error T) hr (pa_cons (pv 0) pa_nil)))
      (pss_cons (ps_if (PW.pt (pw_and (pt_cmpR op_isN (pv 1) pe_non (nomark _)) (pw_and1 (pt_cmpR op_ne (pe_callB call_lenU (by rfl) (n_len T) b_len (pa_cons (pv 0) pa_nil)) pe_int (nomark _))))) pss_never pss_nil)
      (pss_one (ps_ret (pv 1)))), ?_⟩
    refine ⟨_, rfl, v, n, one, other, rfl, ht, h1, h2, n1, n4, fun H1 k1 => ?_⟩
    obtain ⟨x, y, hv, hx, hy⟩ := ht
    exact ⟨_, rfl, rfl, _, rfl, iteT ⟨_, rfl, _, _, rfl, .inl (hv.kp k1), rfl, _, rfl, iteF ⟨_, rfl, q _ k1⟩⟩⟩
theorem sc_box_error : FnScope ["kinds", "value", "error"] ["kinds", "value"] (defScope s_box_error) := ⟨rfl, rfl, rfl, by decide +kernel, rfl, by decide +kernel, by decide +kernel⟩
def sp_box_error : Sp := fun vs H Q _ => ∃ v b n one other box, vs = [v, b] ∧ TP2 H v one other ∧ Ti H b box ∧ Sds n one ∧ Sds n other ∧ Sds n box ∧ 1 ≤ n ∧ n ≤ 4 ∧ ∀ H', Kp [] H H' → Q .non H'
theorem ok_box_error (T : TX w K mg) : FnR P w K mg base CX0 3 (a_box_error K) sp_box_error :=
  fnr0 (f_box_error T) sc_box_error (fun vs H Q E ⟨_, _, _, _, _, _, e, _⟩ => by rw [e]; rfl) (fun _ _ _ _ _ _ us hl => match us, hl with | [_, _], _ => rfl) fun cdv A outer s H vs Q E hr h => by
    obtain ⟨v, b, n, one, other, box, rfl, ht, hb, h1, h2, h3, n1, n4, q⟩ := h
    have nd := sc_box_error.nd
    refine ⟨_, pss_cons (ps_set (i := 2) nd rfl (Or.inl rfl) (pe_f (ok_sides_error T) (g_sides_error T) (kp_sides_error T) hr (pa_cons (pv 1) pa_nil)))
      (pss_cons (ps_if (PW.pt (pw_and (pt_cmpR op_isN (pv 2) pe_non (nomark _)) (pw_and1 (pt_cmpR op_ne (pe_callB call_lenU (by rfl) (n_len T) b_len (pa_cons (pv 1) pa_nil)) (pe_callB call_lenU (by rfl) (n_len T) b_len (pa_cons (pe_ix ix_tupU (pv 0) pe_int (fun _ _ => rfl)) pa_nil)) (nomark _))))) pss_never pss_nil)
      (pss_one (ps_ret (pv 2)))), ?_⟩
    refine ⟨_, rfl, b, n, box, rfl, hb, h3, n1, n4, fun H1 k1 => ?_⟩
    obtain ⟨x, y, hv, hx, hy⟩ := ht
    refine ⟨_, rfl, rfl, _, rfl, iteT ⟨_, rfl, _, _, rfl, .inl (hb.kp k1), _, rfl, _, _, _, hv.kp k1, rfl, atI_n 0 rfl rfl, _, _, rfl, .inl (hx.kp k1), rfl, _, rfl, ?_⟩⟩
    rw [show (box.map V.int).length = (one.map V.int).length by rw [List.length_map, List.length_map, h3.1, h1.1], decide_eq_true rfl]
    exact iteF ⟨_, rfl, q _ k1⟩
end
end TB
namespace TB
open PySem PySem.Spec PyProof.Rows L2
theorem Kp.updn {S : List Addr} {H H' : Hp} {p : Addr} {o : HO} (k : Kp S H H') (h : H p = none) (ht : ∀ xs, H' p ≠ some (.tup xs)) : Kp S H (L2.upd H' p o) :=
  ⟨fun a u e n => by rw [upd_ne (ne_of_none e h)]; exact k.old a u e n, fun a u e => by rw [upd_ne (ne_of_none e h)]; exact k.tup a u e⟩
/-! ### comprehensions: the list at D grows, all else but S is kept -/
def PvL (S : List Addr) (H1 : Hp) (D : Addr) (acc : Nat → List V) : Nat → Hp → Prop := fun i H' => Kp S H1 H' ∧ H' D = some (.lst (acc i))
theorem lcP {J : It} {n : Nat} {G : Hp → Prop} {Y : Nat → Hp → V → Hp → Prop} (wk : Walk J n G Y) {g : TG} {tt : TT} {te : TE} {vs : List Nat} {σ : L2.St} {H1 : Hp} {D : Addr} {Qd : Hp → Prop} (S : List Addr) (acc : Nat → List V) (hD : H1 D = none) (h0 : acc 0 = [])
    (hG : ∀ i H, PvL S H1 D acc i H → G H)
    (hs : ∀ i x H H', i < n → PvL S H1 D acc i H → Y i H x H' → g x (wipe σ vs) H' fun σ2 H2 => wipe σ2 vs = wipe σ vs ∧ tt σ2 H2 fun b H3 =>
      if b = true then te σ2 H3 fun y H4 => ∃ ac, H4 D = some (.lst ac) ∧ ac.length < sizeLine ∧ PvL S H1 D acc (i + 1) (upd H4 D (.lst (ac ++ [y]))) else PvL S H1 D acc (i + 1) H3) (hd : ∀ H, PvL S H1 D acc n H → Qd H) :
    ∃ W : Nat → Nat → Hp → Prop, (∃ m, W 0 m (upd H1 D (.lst []))) ∧ ∀ i m H, W i m H →
      (J.stop i H ∧ Qd H) ∨ (J.go i H ∧ ∃ Nx : Hp → Prop, (∀ H', Nx H' → ∃ m', m' < m ∧ W (i + 1) m' H') ∧ ∀ x H', J.yld i H x H' → g x (wipe σ vs) H' fun σ2 H2 => wipe σ2 vs = wipe σ vs ∧ tt σ2 H2 fun b H3 =>
        if b = true then te σ2 H3 fun y H4 => ∃ acc, H4 D = some (.lst acc) ∧ acc.length < sizeLine ∧ Nx (upd H4 D (.lst (acc ++ [y]))) else Nx H3) :=
  lc_it wk (PvL S H1 D acc) ⟨.upd hD, by rw [upd_same, h0]⟩ (fun i H _ p => hG i H p) hs hd
theorem lcAdd {S : List Addr} {H1 H4 : Hp} {D : Addr} {acc : Nat → List V} {i : Nat} {y : V} (hD : H1 D = none) (k : Kp S H1 H4) (h : H4 D = some (.lst (acc i))) (hl : (acc i).length < 1000) (e : acc (i + 1) = acc i ++ [y]) :
    ∃ ac, H4 D = some (.lst ac) ∧ ac.length < sizeLine ∧ PvL S H1 D acc (i + 1) (upd H4 D (.lst (ac ++ [y]))) :=
  ⟨acc i, h, small1000 (by omega), k.updn hD (fun xs z => by rw [h] at z; cases z), by rw [upd_same, e]⟩
/-- without an if -/
theorem Kp.get {H H' : Hp} (k : Kp [] H H') {a : Addr} {o : HO} (h : H a = some o) : H' a = some o := k.old a o h (fun q => nomatch q)
/-! ### fields of instances -/
theorem lk_same {f : Str} {v : V} {fs : List (Str × V)} : (putF f v fs).lookup f = some v := by rw [lookup_putF, if_pos rfl]
theorem lk_ne {f g : Str} {v : V} {fs : List (Str × V)} (h : g ≠ f) : (putF f v fs).lookup g = fs.lookup g := by rw [lookup_putF, if_neg h]
theorem ln_put {f : Str} {v : V} {fs : List (Str × V)} {n : Nat} (h : fs.length ≤ n) : (putF f v fs).length ≤ n + 1 := Nat.le_trans (length_putF f v fs) (Nat.succ_le_succ h)
def sFldU (K : PySem.W.Frag) (ta tv : TE) (f : Str) : TS := fun D σ H => tv σ H fun y H1 => ta σ H1 fun x H2 => ∃ a C dx fs, x = .ref a ∧ H2 a = some (.ins C dx fs) ∧ Cls K C ∧ NoAttr K C f ∧ fs.length < 1000 ∧
  ∀ H3, Kp [a] H2 H3 → H3 a = some (.ins C dx (putF f y fs)) → D.nx σ H3
def gFldU (K : PySem.W.Frag) (ta : TE) (f : Str) : TG := fun y σ H Q => ta σ H fun x H2 => ∃ a C dx fs, x = .ref a ∧ H2 a = some (.ins C dx fs) ∧ Cls K C ∧ NoAttr K C f ∧ fs.length < 1000 ∧
  ∀ H3, Kp [a] H2 H3 → H3 a = some (.ins C dx (putF f y fs)) → Q σ H3
theorem kp_ins {H : Hp} {a C dx : Addr} {fs : List (Str × V)} {o : HO} (h : H a = some (.ins C dx fs)) : Kp [a] H (upd H a o) := Kp.wr h (fun xs z => by cases z) (List.mem_cons_self ..)
section
variable {X : Cx} {o value : Expr} {f : Str} {pos pos' : Pos} {ta tv : TE}
theorem ps_fldU (ha : PE X o ta) (hv : PE X value tv) (hs : swapsWith value (some (.Attribute o f pos')) pos.line X.env = pure false := by rfl) : PS X (.Assign [.Attribute o f pos'] value pos) (sFldU X.K ta tv f) := by
  refine ⟨fun pins s σ H D I h => ?_⟩
  refine plainObj_wpAny_Assign_Attribute (thn (hv.run pins s σ H _ I h) fun u s1 ⟨y, H1, I1, ry, q⟩ => thn (ha.run pins s1 σ H1 _ I1 q) fun ov s2 ⟨x, H2, I2, rx, a, C, dx, fs, ex, ea, c, n, l, q2⟩ => ?_) hs
  subst ex
  obtain rfl : ov = Value.ref a := rx
  exact setattr_ok I2 ea c n l ry fun s3 I3 => ⟨σ, _, I3, q2 _ (kp_ins ea) upd_same⟩
theorem pg_fldU (ho : PE X o ta) : PG X (.Attribute o f pos) (gFldU X.K ta f) := by
  refine ⟨fun pins s σ H v u Q I r h => ?_⟩
  show wpAny _ _ (do
    let ov ← holding [u] (eval o X.env)
    standAt pos.atName
    holding [u, ov] (setAttr ov f u)
    release [u, ov] []) _ _ _
  refine wpAny_bind (wpAny_holding (thn (ho.run pins s σ H _ I h) fun ov s1 ⟨x, H1, I1, r1, a, C, dx, fs, ex, ea, c, n, l, q2⟩ => ?_))
  subst ex
  obtain rfl : ov = Value.ref a := r1
  exact wpAny_bind (wpAny_standAt (wpAny_bind (wpAny_holding (setattr_ok I1 ea c n l r fun s3 I3 => wpAny_release ⟨σ, _, I3, q2 _ (kp_ins ea) upd_same⟩))))
end
end TB
namespace TB
open PySem PySem.Spec PyProof.Rows L2
theorem b_sum : bootBuiltins "sum" = some (.builtin "sum") := by decide +kernel
/-- the i-th side -/
def at_ (ns : List Int) (i : Nat) : Int := ns.getD i 1
theorem at_get {ns : List Int} {n i : Nat} (h : Sds n ns) (hi : i < n) : ns[i]? = some (at_ ns i) := by
  unfold at_
  rw [List.getD_eq_getElem?_getD, List.getElem?_eq_getElem (by rw [h.1]; exact hi)]
  rfl
theorem at_V {ns : List Int} {n i : Nat} (h : Sds n ns) (hi : i < n) : (ns.map V.int)[i]? = some (.int (at_ ns i)) := by
  rw [List.getElem?_map, at_get h hi]; rfl
theorem at_Sd {ns : List Int} {n i : Nat} (h : Sds n ns) (hi : i < n) : Sd (at_ ns i) := h.2 _ (List.mem_of_getElem? (at_get h hi))
/-! ### rests -/
def resP (brick box : List Int) (i : Nat) : Bool := decide (at_ box i % at_ brick i ≠ 0)
def resU (brick box : List Int) (n : Nat) : List Nat := (List.range n).filter (resP brick box)
def RV (xs : List Nat) : List V := xs.map fun i => V.int (i : Nat)
theorem resU_succ (brick box : List Int) (n : Nat) : resU brick box (n + 1) = resU brick box n ++ (if resP brick box n then [n] else []) := by
  unfold resU
  rw [List.range_succ, List.filter_append]
  simp [List.filter_cons]
theorem resU_len (brick box : List Int) (n : Nat) : (resU brick box n).length ≤ n := by
  have := List.length_filter_le (resP brick box) (List.range n)
  simpa [resU] using this
theorem resU_lt {brick box : List Int} {n i : Nat} (h : i ∈ resU brick box n) : i < n := List.mem_range.mp (List.mem_filter.mp h).1
section
variable {P : Program} {w : World} {K : PySem.W.Frag} {mg : Str → Option Value} {base : Heap}
theorem sc_rests : FnScope ["brick", "box", "axis", "side"] ["brick", "box"] (defScope s_rests_papers) := ⟨rfl, rfl, rfl, by decide +kernel, rfl, by decide +kernel, by decide +kernel⟩
def sp_rests : Sp := fun vs H Q _ => ∃ u v n brick box, vs = [u, v] ∧ Ti H u brick ∧ Ti H v box ∧ Sds n brick ∧ Sds n box ∧ n ≤ 4 ∧ ∀ p H', H p = none → Kp [] H H' → H' p = some (.lst (RV (resU brick box n))) → Q (.ref p) H'
theorem ok_rests_papers (T : TX w K mg) : FnR P w K mg base CX0 1 (a_rests_papers K) sp_rests :=
  fnr0 (f_rests_papers T) sc_rests (fun vs H Q E ⟨_, _, _, _, _, e, _⟩ => by rw [e]; rfl) (fun _ _ _ _ _ _ us hl => match us, hl with | [_, _], _ => rfl) fun cdv A outer s H vs Q E hr h => by
    obtain ⟨u, v, n, brick, box, rfl, hu, hv, h1, h2, n4, q⟩ := h
    have nd := sc_rests.nd
    refine ⟨_, pss_one (ps_ret (pe_lc (own := [("axis", 2), ("side", 3)]) rfl nd (pi_enumT (n_enumerate T) (pa_cons (pv 1) pa_nil)) (blkOk_by (N := ["brick", "box", "axis", "side"]) (sc := defScope s_rests_papers) (by decide +kernel))
      (fun _ _ _ _ _ => pg_tupU (n := 2) rfl (pgs_cons (pg_name (i := 2) nd rfl (Or.inl rfl)) (pgs_cons (pg_name (i := 3) nd rfl (Or.inl rfl)) pgs_nil)))
      (fun _ _ _ _ _ => pts_one (pt_cmpR op_ne (pe_op op_mod (pv 3) (pe_ix ix_tupU (pv 0) (pv 2) (fun _ _ => rfl))) pe_int (nomark _)))
      (fun _ _ _ _ _ => pv 2))), ?_⟩
    obtain ⟨a, rfl, ha⟩ := hv
    refine ⟨_, rfl, a, _, rfl, ha, fun D hD => ?_⟩
    have hl : (box.map V.int).length = n := by simp [h2.1]
    refine lcP walk_P [] (fun i => RV (resU brick box i)) hD rfl (fun i H' p => p.1.tup a _ ha) (fun i x H1 H2 hi p y => ?_) fun H' p => ?_
    · rw [hl] at hi
      obtain ⟨x', y', k2, hx, rfl, hy⟩ := y
      rw [at_V h2 hi] at hy
      cases hy
      obtain ⟨s1, s2⟩ := at_Sd h1 hi
      have k := p.1.trans k2
      have hDD := k2.get p.2
      refine ⟨_, hx, rfl, _, _, rfl, _, _, rfl, rfl, rfl, _, rfl, _, rfl, _, rfl, _, _, _, hu.kp k, rfl, atI_n i rfl (at_V h1 hi), _, _, rfl, rfl, s1, rfl, _, rfl, ?_⟩
      have e : ∀ c : Bool, (!decide (V.int (at_ box i % at_ brick i) = V.int 0)) = resP brick box i := fun _ => by
        unfold resP
        by_cases z : at_ box i % at_ brick i = 0 <;> simp [z]
      rw [e true]
      cases c : resP brick box i with
      | true =>
        refine iteT ⟨_, rfl, lcAdd hD k hDD ?_ ?_⟩
        · have := resU_len brick box i
          simp only [RV, List.length_map]
          omega
        · simp only [RV, resU_succ, c, if_true, List.map_append]; rfl
      | false =>
        refine iteF ⟨k, ?_⟩
        rw [hDD]
        simp only [resU_succ, c, Bool.false_eq_true, if_false, List.append_nil]
    · rw [hl] at p
      exact q D H' hD p.1 p.2
theorem sc_bar_along : FnScope ["pair", "box", "axis", "one", "other", "side", "times", "more"] ["pair", "box", "axis"] (defScope s_bar_along) := ⟨rfl, rfl, rfl, by decide +kernel, rfl, by decide +kernel, by decide +kernel⟩
/-- None, or a tuple -/
def OTu (H : Hp) (v : V) : Option (List V) → Prop
  | none => v = .non
  | some xs => Tu H v xs
def barF (one other side : Int) (k : Nat) : Option (List V) := match ltF one other side with
  | none => some [.str "step", .int (k : Nat)]
  | some t => if 0 < one * t - side then some [.str "gap", .int (k : Nat), .int t, .int ((one * t - side) / other)] else none
def sp_bar_along : Sp := fun vs H Q _ => ∃ (u v : V) (n k : Nat) (one other box : List Int), vs = [u, v, .int (k : Nat)] ∧ TP2 H u one other ∧ Ti H v box ∧ Sds n one ∧ Sds n other ∧ Sds n box ∧ k < n ∧ ∀ r H', Kp [] H H' → OTu H' r (barF (at_ one k) (at_ other k) (at_ box k) k) → Q r H'
theorem ok_bar_along (T : TX w K mg) : FnR P w K mg base CX0 3 (a_bar_along K) sp_bar_along :=
  fnr0 (f_bar_along T) sc_bar_along (fun vs H Q E ⟨_, _, _, _, _, _, _, e, _⟩ => by rw [e]; rfl) (fun _ _ _ _ _ _ us hl => match us, hl with | [_, _, _], _ => rfl) fun cdv A outer s H vs Q E hr h => by
    obtain ⟨u, v, n, k, one, other, box, rfl, ⟨x, y, hu, hx, hy⟩, hv, h1, h2, h3, hk, q⟩ := h
    have nd := sc_bar_along.nd
    refine ⟨_, pss_cons (ps_par3 (i := 3) (j := 4) (l := 5) rfl nd rfl rfl rfl (by decide) (by decide) (by decide) rfl rfl rfl (pa_cons (pe_ix ix_tupU (pe_ix ix_tupU (pv 0) pe_int (fun _ _ => rfl)) (pv 2) (fun _ _ => rfl)) (pa_cons (pe_ix ix_tupU (pe_ix ix_tupU (pv 0) pe_int (fun _ _ => rfl)) (pv 2) (fun _ _ => rfl)) (pa_cons (pe_ix ix_tupU (pv 1) (pv 2) (fun _ _ => rfl)) pa_nil))) (by rfl))
      (pss_cons (ps_set (i := 6) nd rfl (Or.inl rfl) (pe_f (ok_least_times T) (g_least_times T) (kp_least_times T) hr (pa_cons (pv 3) (pa_cons (pv 4) (pa_cons (pv 5) pa_nil)))))
      (pss_cons (ps_if (pt_cmpR op_isN (pv 6) pe_non (nomark _)) (pss_one (ps_ret (pe_tupU (pa_cons (pe_gs (z_STEP T)) (pa_cons (pv 2) pa_nil))))) pss_nil)
      (pss_cons (ps_set (i := 7) nd rfl (Or.inl rfl) (pe_op op_sub (pe_op op_mul (pv 3) (pv 6)) (pv 5)))
      (pss_one (ps_ret (pe_ifExp (pt_cmpR op_gt (pv 7) pe_int (nomark _)) (pe_tupU (pa_cons (pe_gs (z_GAP T)) (pa_cons (pv 2) (pa_cons (pv 6) (pa_cons (pe_op op_fdiv (pv 7) (pv 4)) pa_nil))))) pe_non)))))), ?_⟩
    obtain ⟨a1, a2⟩ := at_Sd h1 hk
    obtain ⟨b1, b2⟩ := at_Sd h2 hk
    obtain ⟨c1, c2⟩ := at_Sd h3 hk
    refine ⟨_, rfl, _, _, _, hu, rfl, atI_n 0 rfl rfl, _, rfl, _, _, _, hx, rfl, atI_n k rfl (at_V h1 hk), ?_⟩
    refine ⟨_, rfl, _, _, _, hu, rfl, atI_n 1 rfl rfl, _, rfl, _, _, _, hy, rfl, atI_n k rfl (at_V h2 hk), ?_⟩
    refine ⟨_, rfl, _, rfl, _, _, _, hv, rfl, atI_n k rfl (at_V h3 hk), _, _, _, rfl, ?_⟩
    refine ⟨_, rfl, _, rfl, _, rfl, _, _, _, rfl, ⟨a1, a2⟩, ⟨b1, b2⟩, fun H1 k1 => ?_⟩
    unfold barF at q
    cases e : ltF (at_ one k) (at_ other k) (at_ box k) with
    | none =>
      rw [e] at q
      refine ⟨_, rfl, rfl, _, rfl, iteT ⟨_, rfl, Nat.le_of_ble_eq_true rfl, fun r H2 k2 h2 => q r H2 (k1.trans k2) h2⟩⟩
    | some t =>
      rw [e] at q
      obtain ⟨t0, t1⟩ := ltF_bd a1 b1 e
      refine ⟨_, rfl, rfl, _, rfl, iteF ⟨_, rfl, _, rfl, _, _, rfl, rfl, .inl ⟨by omega, by omega⟩, _, rfl, _, _, rfl, rfl, ?_⟩⟩
      refine ⟨_, rfl, _, _, rfl, rfl, _, rfl, ?_⟩
      refine ite2 (fun c => ?_) fun c => ?_
      · have c : 0 < at_ one k * t - at_ box k := of_decide_eq_true c
        simp only [if_pos c] at q
        refine ⟨_, rfl, _, rfl, _, rfl, _, rfl, _, _, rfl, rfl, ⟨b1, by omega⟩, Nat.le_of_ble_eq_true rfl, fun r H2 k2 h2 => q r H2 (k1.trans k2) h2⟩
      · have c : ¬ 0 < at_ one k * t - at_ box k := fun z => c (decide_eq_true z)
        simp only [if_neg c] at q
        exact q _ H1 k1 rfl
end
end TB
namespace TB
open PySem PySem.Spec PyProof.Rows L2
/-! ### data: shapes, equality -/
def Sh (k : Nat) (d : PyData) : Prop := d.canLay0 = true ∧ d.depth ≤ k
theorem Sh.shaped {k : Nat} {d : PyData} (h : Sh k d) (hk : k ≤ 64 := by decide) : SeqAt.shaped d = true := by
  unfold SeqAt.shaped
  rw [h.1, Bool.true_and]
  exact decide_eq_true (Nat.le_trans h.2 hk)
theorem Sh.mono {j k : Nat} {d : PyData} (h : Sh j d) (hk : j ≤ k) : Sh k d := ⟨h.1, Nat.le_trans h.2 hk⟩
theorem sh_non : Sh 0 .none := ⟨by simp [PyData.canLay0], by simp [PyData.depth]⟩
theorem sh_int {i : Int} : Sh 0 (.int i) := ⟨by simp [PyData.canLay0], by simp [PyData.depth]⟩
theorem sh_bool {b : Bool} : Sh 0 (.bool b) := ⟨by simp [PyData.canLay0], by simp [PyData.depth]⟩
theorem sh_all {k : Nat} : ∀ {ds : List PyData}, (∀ d ∈ ds, Sh k d) → PyData.canLayAll0 ds = true ∧ PyData.depthAll ds ≤ k
  | [], _ => ⟨by simp [PyData.canLayAll0], by simp [PyData.depthAll]⟩
  | d :: ds, h => by
    obtain ⟨h1, h2⟩ := h d (List.mem_cons_self ..)
    obtain ⟨h3, h4⟩ := sh_all (ds := ds) fun x hx => h x (List.mem_cons_of_mem _ hx)
    refine ⟨by simp [PyData.canLayAll0, h1, h3], ?_⟩
    simp only [PyData.depthAll]
    omega
theorem sh_lst {k : Nat} {ds : List PyData} (h : ∀ d ∈ ds, Sh k d) : Sh (k + 1) (.list ds) := by
  obtain ⟨h1, h2⟩ := sh_all h
  exact ⟨by simp only [PyData.canLay0]; exact h1, by simp only [PyData.depth]; omega⟩
theorem sh_tup {k : Nat} {ds : List PyData} (h : ∀ d ∈ ds, Sh k d) : Sh (k + 1) (.tuple ds) := by
  obtain ⟨h1, h2⟩ := sh_all h
  exact ⟨by simp only [PyData.canLay0]; exact h1, by simp only [PyData.depth]; omega⟩
theorem eqv_self {k : Nat} {d : PyData} (h : Sh k d) : PyData.eqv d d = true := SeqAt.eqv_refl d h.1
/-- lists of ints -/
def dInts (xs : List Int) : PyData := .list (xs.map PyData.int)
theorem sh_ints {xs : List Int} : Sh 1 (dInts xs) := sh_lst fun d hd => by
  obtain ⟨i, _, rfl⟩ := List.mem_map.mp hd
  exact sh_int
theorem eqv_ints : ∀ {xs ys : List Int}, PyData.eqv (dInts xs) (dInts ys) = decide (xs = ys)
  | [], [] => by simp [dInts, PyData.eqv, PyData.eqvAll]
  | [], y :: ys => by simp [dInts, PyData.eqv, PyData.eqvAll]
  | x :: xs, [] => by simp [dInts, PyData.eqv, PyData.eqvAll]
  | x :: xs, y :: ys => by
    have ih := eqv_ints (xs := xs) (ys := ys)
    simp only [dInts, PyData.eqv] at ih
    simp only [dInts, List.map_cons, PyData.eqv, PyData.eqvAll, ih]
    by_cases h : x = y <;> simp [h]
theorem dpAll_ints {K : PySem.W.Frag} {H : Hp} : ∀ {xs : List Int}, DpAll K H (xs.map V.int) (xs.map PyData.int)
  | [] => .nil
  | x :: xs => .cons (.int x) dpAll_ints
theorem dp_ints {K : PySem.W.Frag} {H : Hp} {p : Addr} {xs : List Int} (h : H p = some (.lst (xs.map V.int))) : Dp K H (.ref p) (dInts xs) := .lst (SqL.of h) dpAll_ints
/-- == and != of two lists of ints -/
def rEqI (f : Bool → Bool) : R2 := fun x y H Q => ∃ xs ys : List Int, Ls H x (xs.map V.int) ∧ Ls H y (ys.map V.int) ∧ Q (.bl (f (decide (xs = ys)))) H
theorem op_eqI {X : Cx} (hu : X.A.units + 64 < cLine) : OpR X (compareOp .Eq) (rEqI id) := OpR.imp (op_eqD hu) fun x y H Q ⟨xs, ys, ⟨a, e1, h1⟩, ⟨b, e2, h2⟩, q⟩ =>
  ⟨dInts xs, dInts ys, e1 ▸ dp_ints h1, e2 ▸ dp_ints h2, sh_ints.shaped, sh_ints.shaped, by rw [eqv_ints]; exact q⟩
theorem op_neI {X : Cx} (hu : X.A.units + 64 < cLine) : OpR X (compareOp .NotEq) (rEqI not) := OpR.imp (op_neD hu) fun x y H Q ⟨xs, ys, ⟨a, e1, h1⟩, ⟨b, e2, h2⟩, q⟩ =>
  ⟨dInts xs, dInts ys, e1 ▸ dp_ints h1, e2 ▸ dp_ints h2, sh_ints.shaped, sh_ints.shaped, by rw [eqv_ints]; exact q⟩
/-! ### lists of tuples -/
inductive Tus (H : Hp) : List V → List (List V) → Prop
  | nil : Tus H [] []
  | cons {v : V} {vs : List V} {xs : List V} {xss : List (List V)} (h : Tu H v xs) (t : Tus H vs xss) : Tus H (v :: vs) (xs :: xss)
theorem Tus.kp {S : List Addr} {H H' : Hp} {vs : List V} {xss : List (List V)} (h : Tus H vs xss) (k : Kp S H H') : Tus H' vs xss := by
  induction h with
  | nil => exact .nil
  | cons h _ ih => exact .cons (h.kp k) ih
theorem Tus.len {H : Hp} {vs : List V} {xss : List (List V)} (h : Tus H vs xss) : vs.length = xss.length := by
  induction h with
  | nil => rfl
  | cons _ _ ih => simp [ih]
theorem Tus.app {H : Hp} {vs ws : List V} {xss yss : List (List V)} (h : Tus H vs xss) (t : Tus H ws yss) : Tus H (vs ++ ws) (xss ++ yss) := by
  induction h with
  | nil => exact t
  | cons h _ ih => exact .cons h ih
theorem Tus.get {H : Hp} {vs : List V} {xss : List (List V)} (h : Tus H vs xss) : ∀ {i : Nat} {xs : List V}, xss[i]? = some xs → ∃ v, vs[i]? = some v ∧ Tu H v xs := by
  induction h with
  | nil => intro i xs e; simp at e
  | cons h _ ih =>
    intro i xs e
    match i, e with
    | 0, e => cases e; exact ⟨_, rfl, h⟩
    | i + 1, e => exact ih (i := i) (by simpa using e)
def fD : V → PyData
  | .int i => .int i
  | .str s => .str s
  | .bl b => .bool b
  | _ => .none
theorem dp_flat {K : PySem.W.Frag} {H : Hp} : ∀ {v : V}, flatV v = true → Dp K H v (fD v)
  | .non, _ => .non
  | .bl b, _ => .bl b
  | .int i, _ => .int i
  | .str s, _ => .str s
theorem dpAll_flat {K : PySem.W.Frag} {H : Hp} : ∀ {xs : List V}, xs.all flatV = true → DpAll K H xs (xs.map fD)
  | [], _ => .nil
  | x :: xs, h => by
    simp only [List.all_cons, Bool.and_eq_true] at h
    exact .cons (dp_flat h.1) (dpAll_flat h.2)
theorem Tus.dp {K : PySem.W.Frag} {H : Hp} {vs : List V} {xss : List (List V)} (h : Tus H vs xss) (hf : ∀ xs ∈ xss, xs.all flatV = true) : DpAll K H vs (xss.map fun xs => .tuple (xs.map fD)) := by
  induction h with
  | nil => exact .nil
  | cons h _ ih =>
    obtain ⟨a, rfl, ha⟩ := h
    exact .cons (.tup (SqT.of ha) (dpAll_flat (hf _ (List.mem_cons_self ..)))) (ih fun xs hx => hf xs (List.mem_cons_of_mem _ hx))
end TB
namespace TB
open PySem PySem.Spec PyProof.Rows L2
/-! ### comprehensions that lay tuples -/
def PvT (S : List Addr) (H1 : Hp) (D : Addr) (acc : Nat → List (List V)) : Nat → Hp → Prop := fun i H' => Kp S H1 H' ∧ ∃ vs, H' D = some (.lst vs) ∧ Tus H' vs (acc i)
theorem lcT {J : It} {n : Nat} {G : Hp → Prop} {Y : Nat → Hp → V → Hp → Prop} (wk : Walk J n G Y) {g : TG} {tt : TT} {te : TE} {vs : List Nat} {σ : L2.St} {H1 : Hp} {D : Addr} {Qd : Hp → Prop} (S : List Addr) (acc : Nat → List (List V)) (hD : H1 D = none) (h0 : acc 0 = [])
    (hG : ∀ i H, PvT S H1 D acc i H → G H)
    (hs : ∀ i x H H', i < n → PvT S H1 D acc i H → Y i H x H' → g x (wipe σ vs) H' fun σ2 H2 => wipe σ2 vs = wipe σ vs ∧ tt σ2 H2 fun b H3 =>
      if b = true then te σ2 H3 fun y H4 => ∃ ac, H4 D = some (.lst ac) ∧ ac.length < sizeLine ∧ PvT S H1 D acc (i + 1) (upd H4 D (.lst (ac ++ [y]))) else PvT S H1 D acc (i + 1) H3) (hd : ∀ H, PvT S H1 D acc n H → Qd H) :
    ∃ W : Nat → Nat → Hp → Prop, (∃ m, W 0 m (upd H1 D (.lst []))) ∧ ∀ i m H, W i m H →
      (J.stop i H ∧ Qd H) ∨ (J.go i H ∧ ∃ Nx : Hp → Prop, (∀ H', Nx H' → ∃ m', m' < m ∧ W (i + 1) m' H') ∧ ∀ x H', J.yld i H x H' → g x (wipe σ vs) H' fun σ2 H2 => wipe σ2 vs = wipe σ vs ∧ tt σ2 H2 fun b H3 =>
        if b = true then te σ2 H3 fun y H4 => ∃ acc, H4 D = some (.lst acc) ∧ acc.length < sizeLine ∧ Nx (upd H4 D (.lst (acc ++ [y]))) else Nx H3) :=
  lc_it wk (PvT S H1 D acc) ⟨.upd hD, [], upd_same, by rw [h0]; exact .nil⟩ (fun i H _ p => hG i H p) hs hd
theorem lcTAdd {S : List Addr} {H1 H4 : Hp} {D : Addr} {acc : Nat → List (List V)} {i : Nat} {y : V} {vs xs : List V} (hD : H1 D = none) (k : Kp S H1 H4) (h : H4 D = some (.lst vs)) (ht : Tus H4 vs (acc i)) (hy : Tu H4 y xs) (hl : (acc i).length < 1000) (e : acc (i + 1) = acc i ++ [xs]) :
    ∃ ac, H4 D = some (.lst ac) ∧ ac.length < sizeLine ∧ PvT S H1 D acc (i + 1) (upd H4 D (.lst (ac ++ [y]))) := by
  have hll := ht.len
  have kk : Kp [D] H4 (upd H4 D (.lst (vs ++ [y]))) := Kp.wr h (fun xs z => by cases z) (List.mem_cons_self ..)
  refine ⟨vs, h, small1000 (by omega), k.updn hD (fun xs z => by rw [h] at z; cases z), vs ++ [y], upd_same, ?_⟩
  rw [e]
  exact (ht.kp kk).app (.cons (hy.kp kk) .nil)
theorem lst_kp {H H' : Hp} {p : Addr} {vs : List V} (k : Kp [] H H') (h : H p = some (.lst vs)) : H' p = some (.lst vs) := k.get h
/-! ### crossing -/
def XT (i j : Nat) : List V := [.str "sides", .int (i : Nat), .int (j : Nat)]
def rowF (i : Nat) (js : List Nat) : List (List V) := (js.filter fun j => decide (i ≠ j)).map (XT i)
def crossT (one other box : List Int) (n : Nat) (m : Nat) : List (List V) := ((resU one box n).take m).flatMap fun i => rowF i (resU other box n)
def crossF (one other box : List Int) (n : Nat) : List (List V) := (resU one box n).flatMap fun i => rowF i (resU other box n)
theorem take_succ' {α : Type} {l : List α} {m : Nat} {x : α} (h : l[m]? = some x) : l.take (m + 1) = l.take m ++ [x] := by
  rw [List.take_add_one, h]; rfl
theorem rowF_take {i m j : Nat} {js : List Nat} (h : js[m]? = some j) : rowF i (js.take (m + 1)) = rowF i (js.take m) ++ (if i ≠ j then [XT i j] else []) := by
  unfold rowF
  rw [take_succ' h, List.filter_append, List.map_append]
  by_cases e : i = j <;> simp [List.filter_cons, e]
theorem rowF_len {i : Nat} {js : List Nat} : (rowF i js).length ≤ js.length := by
  unfold rowF
  rw [List.length_map]
  exact List.length_filter_le _ _
theorem RV_get {l : List Nat} {m : Nat} {x : V} (h : (RV l)[m]? = some x) : ∃ j, l[m]? = some j ∧ x = .int (j : Nat) := by
  unfold RV at h
  rw [List.getElem?_map] at h
  obtain ⟨j, hj, e⟩ := Option.map_eq_some_iff.mp h
  exact ⟨j, hj, e.symm⟩
theorem flat_len {one other box : List Int} {n m : Nat} : (crossT one other box n m).length ≤ n * n := by
  unfold crossT
  rw [List.length_flatMap]
  have h1 : ∀ l : List Nat, (l.map fun i => (rowF i (resU other box n)).length).sum ≤ l.length * n := by
    intro l
    induction l with
    | nil => simp
    | cons x l ih =>
      have := rowF_len (i := x) (js := resU other box n)
      have := resU_len other box n
      simp only [List.map_cons, List.sum_cons, List.length_cons, Nat.add_mul, Nat.one_mul]
      omega
  have h2 : ((resU one box n).take m).length ≤ n := by
    have := resU_len one box n
    simp only [List.length_take]
    omega
  exact Nat.le_trans (h1 _) (Nat.mul_le_mul_right n h2)
section
variable {P : Program} {w : World} {K : PySem.W.Frag} {mg : Str → Option Value} {base : Heap}
theorem sc_crossing : FnScope ["pair", "box", "found", "i", "j"] ["pair", "box"] (defScope s_crossing) := ⟨rfl, rfl, rfl, by decide +kernel, rfl, by decide +kernel, by decide +kernel⟩
def sp_crossing : Sp := fun vs H Q _ => ∃ (u v : V) (n : Nat) (one other box : List Int), vs = [u, v] ∧ TP2 H u one other ∧ Ti H v box ∧ Sds n one ∧ Sds n other ∧ Sds n box ∧ n ≤ 4 ∧ ∀ p H' vs, H p = none → Kp [] H H' → H' p = some (.lst vs) → Tus H' vs (crossF one other box n) → Q (.ref p) H'
theorem ok_crossing (T : TX w K mg) : FnR P w K mg base CX0 2 (a_crossing K) sp_crossing :=
  fnr0 (f_crossing T) sc_crossing (fun vs H Q E ⟨_, _, _, _, _, _, e, _⟩ => by rw [e]; rfl) (fun _ _ _ _ _ _ us hl => match us, hl with | [_, _], _ => rfl) fun cdv A outer s H vs Q E hr h => by
    obtain ⟨u, v, n, one, other, box, rfl, ⟨x, y, hu, hx, hy⟩, hv, h1, h2, h3, n4, q⟩ := h
    have nd := sc_crossing.nd
    refine ⟨_, pss_cons (ps_set (i := 2) nd rfl (Or.inl rfl) (pe_lstU pa_nil))
      (pss_cons (ps_for PassesOwn.never rfl (pi_list (pe_f (ok_rests_papers T) (g_rests_papers T) (kp_rests_papers T) hr (pa_cons (pe_ix ix_tupU (pv 0) pe_int (fun _ _ => rfl)) (pa_cons (pv 1) pa_nil)))) (pg_name (i := 3) nd rfl (Or.inr rfl))
        (pss_one (ps_expr (pe_bm PySem.F.plainAttrs_list PySem.F.slot_list_extend PySem.F.type_list_extend mt_extend (pv 2) (pa_cons
          (pe_lc (own := [("j", 4)]) rfl nd (pi_list (pe_f (ok_rests_papers T) (g_rests_papers T) (kp_rests_papers T) hr (pa_cons (pe_ix ix_tupU (pv 0) pe_int (fun _ _ => rfl)) (pa_cons (pv 1) pa_nil)))) (blkOk_by (N := ["pair", "box", "found", "i", "j"]) (sc := defScope s_crossing) (by decide +kernel))
            (fun _ _ _ _ _ => pg_name (i := 4) nd rfl (Or.inl rfl)) (fun _ _ _ _ _ => pts_one (pt_cmpR op_ne (pv 3) (pv 4) (nomark _))) (fun _ _ _ _ _ => pe_tupU (pa_cons (pe_gs (z_SIDES T)) (pa_cons (pv 3) (pa_cons (pv 4) pa_nil))))) pa_nil)))))
      (pss_one (ps_ret (pv 2)))), ?_⟩
    refine ⟨Nat.zero_le _, fun f H1 nf k1 hf => ?_⟩
    refine ⟨_, rfl, _, _, _, hu.kp k1, rfl, atI_n 0 rfl rfl, _, rfl, _, _, n, one, box, rfl, hx.kp k1, hv.kp k1, h1, h3, n4, fun r H2 nr k2 hr2 => ?_⟩
    refine ⟨r, rfl, ⟨_, SqL.of hr2⟩, ?_⟩
    have nfr : f ≠ r := ne_of_none hf nr
    refine for_P walk_list (fun m σ H' => Kp [] H H' ∧ H' r = some (.lst (RV (resU one box n))) ∧ (∃ t, σ = [some u, some v, some (.ref f), t, none]) ∧ ∃ vs, H' f = some (.lst vs) ∧ Tus H' vs (crossT one other box n m))
      ⟨k1.trans k2, hr2, ⟨_, rfl⟩, [], k2.get hf, by unfold crossT; exact .nil⟩ (fun m σ H' _ p => SqL.of p.2.1) (fun m z σ H3 H3' hm p yy => ?_) fun σ H' p => ?_
    · obtain ⟨k3, hr3, ⟨t, rfl⟩, vs, hf3, ht⟩ := p
      obtain ⟨rfl, hz⟩ := yy
      obtain ⟨i, hi, rfl⟩ := RV_get hz
      refine ⟨_, rfl, Or.inl ⟨rfl, _, SqL.of hf3⟩, ?_⟩
      refine ⟨_, rfl, _, _, _, hu.kp k3, rfl, atI_n 1 rfl rfl, _, rfl, _, _, n, other, box, rfl, hy.kp k3, hv.kp k3, h2, h3, n4, fun r2 H4 nr2 k4 hr4 => ?_⟩
      refine ⟨r2, rfl, ⟨_, SqL.of hr4⟩, fun D hD => ?_⟩
      have hlr : ((RV (resU other box n)).length) = (resU other box n).length := by simp [RV]
      refine lcT walk_list [] (fun m => rowF i ((resU other box n).take m)) hD rfl (fun m H' p => SqL.of (p.1.get hr4)) (fun m2 z2 H5 H5' hm2 p yy => ?_) fun H' p => ?_
      · obtain ⟨k5, ws, hD5, ht5⟩ := p
        obtain ⟨rfl, hz2⟩ := yy
        obtain ⟨j, hj, rfl⟩ := RV_get hz2
        refine ⟨rfl, _, rfl, _, rfl, rfl, _, rfl, ?_⟩
        have e := rowF_take (i := i) hj
        by_cases c : i = j
        · subst c
          refine (if_neg (by simp)).mpr ⟨k5, ws, hD5, ?_⟩
          simp only [e, ne_eq, not_true, if_false, List.append_nil]
          exact ht5
        · refine (if_pos (by simp; omega)).mpr ⟨_, rfl, _, rfl, Nat.le_of_ble_eq_true rfl, fun v6 H6 k6 h6 => ?_⟩
          refine lcTAdd hD (k5.trans k6) (k6.get hD5) (ht5.kp k6) h6 ?_ ?_
          · have := rowF_len (i := i) (js := (resU other box n).take m2)
            have := resU_len other box n
            simp only [List.length_take] at *
            omega
          · simp only [e, ne_eq, c, not_false_iff, if_true]; rfl
      · obtain ⟨k5, ws, hD5, ht5⟩ := p
        rw [hlr] at ht5
        have ht5 : Tus H' ws (rowF i ((resU other box n).take (resU other box n).length)) := ht5
        rw [List.take_length] at ht5
        have nfD : f ≠ D := ne_of_none (k4.get hf3) hD
        have hf5 : H' f = some (.lst vs) := k5.get (k4.get hf3)
        have tl := ht.len
        have wl := ht5.len
        have b1 := flat_len (one := one) (other := other) (box := box) (n := n) (m := m)
        have b2 := rowF_len (i := i) (js := resU other box n)
        have b3 := resU_len other box n
        have b4 : n * n ≤ 4 * 4 := Nat.mul_le_mul n4 n4
        refine ⟨f, D, vs, ws, rfl, rfl, hf5, hD5, small (by omega), ?_⟩
        have kk : Kp [f] H' (upd H' f (.lst (vs ++ ws))) := Kp.wr hf5 (fun xs z => by cases z) (List.mem_cons_self ..)
        have k7 : Kp [] H (upd H' f (.lst (vs ++ ws))) := ((k3.trans k4).trans k5).updn nf (fun xs z => by rw [hf5] at z; cases z)
        refine ⟨k7, ?_, ⟨_, rfl⟩, vs ++ ws, upd_same, ?_⟩
        · rw [upd_ne nfr.symm]; exact k5.get (k4.get hr3)
        · have e : crossT one other box n (m + 1) = crossT one other box n m ++ rowF i (resU other box n) := by
            unfold crossT
            rw [take_succ' hi, List.flatMap_append]
            simp
          rw [e]
          exact (((ht.kp k4).kp k5).kp kk).app (ht5.kp kk)
    · obtain ⟨k3, hr3, ⟨t, rfl⟩, vs, hf3, ht⟩ := p
      refine ⟨_, rfl, ?_⟩
      refine q f H' vs nf k3 hf3 ?_
      have e : crossT one other box n (RV (resU one box n)).length = crossF one other box n := by
        unfold crossT crossF RV
        rw [List.length_map, List.take_length]
      rw [← e]
      exact ht
end
end TB
namespace TB
open PySem PySem.Spec PyProof.Rows L2
theorem RV_ints (l : List Nat) : RV l = (l.map fun i => ((i : Nat) : Int)).map V.int := by
  unfold RV
  rw [List.map_map]; rfl
theorem cross_mem {one other box : List Int} {n : Nat} {xs : List V} (h : xs ∈ crossF one other box n) : ∃ i j, xs = XT i j := by
  unfold crossF at h
  obtain ⟨i, _, h⟩ := List.mem_flatMap.mp h
  unfold rowF at h
  obtain ⟨j, _, rfl⟩ := List.mem_map.mp h
  exact ⟨i, j, rfl⟩
theorem sh_str {x : Str} (h : PyData.strOk x = true) : Sh 0 (.str x) := ⟨by simp only [PyData.canLay0]; exact h, by simp [PyData.depth]⟩
theorem sh_XT (i j : Nat) : Sh 1 (.tuple ((XT i j).map fD)) := sh_tup fun d hd => by
  simp only [XT, List.map_cons, List.map_nil, List.mem_cons, List.not_mem_nil, or_false] at hd
  rcases hd with rfl | rfl | rfl
  · exact sh_str (by decide +kernel)
  · exact sh_int
  · exact sh_int
theorem flat_XT (i j : Nat) : (XT i j).all flatV = true := rfl
/-- the list of crossings against [] -/
def rNeT : R2 := fun x y H Q => ∃ (p r : Addr) (vs : List V) (one other box : List Int) (n : Nat), x = .ref p ∧ y = .ref r ∧ H p = some (.lst vs) ∧ Tus H vs (crossF one other box n) ∧ H r = some (.lst []) ∧ Q (.bl (!decide (crossF one other box n = []))) H
theorem op_neT {X : Cx} (hu : X.A.units + 64 < cLine) : OpR X (compareOp .NotEq) rNeT := OpR.imp (op_neD hu) fun x y H Q ⟨p, r, vs, one, other, box, n, ex, ey, hp, ht, hr, q⟩ => by
  have hf : ∀ xs ∈ crossF one other box n, xs.all flatV = true := fun xs hx => by obtain ⟨i, j, rfl⟩ := cross_mem hx; exact flat_XT i j
  have hs : Sh 2 (.list ((crossF one other box n).map fun xs => .tuple (xs.map fD))) := sh_lst fun d hd => by
    obtain ⟨xs, hx, rfl⟩ := List.mem_map.mp hd
    obtain ⟨i, j, rfl⟩ := cross_mem hx
    exact sh_XT i j
  refine ⟨_, .list [], ex ▸ .lst (SqL.of hp) (ht.dp hf), ey ▸ .lst (SqL.of hr) .nil, hs.shaped, (sh_lst (k := 0) (fun d hd => absurd hd List.not_mem_nil)).shaped, ?_⟩
  have e : PyData.eqv (.list ((crossF one other box n).map fun xs => .tuple (xs.map fD))) (.list []) = decide (crossF one other box n = []) := by
    cases crossF one other box n with
    | nil => simp [PyData.eqv, PyData.eqvAll]
    | cons x l => simp [PyData.eqv, PyData.eqvAll]
  rw [e]
  exact q
def kF (one box : List Int) (n : Nat) : Nat := (resU one box n).headD 0
def paperF (one other box : List Int) (n : Nat) : List V :=
  if resU one box n = [] then [.str "cut", .int 0, .int 0, .int (at_ box 0)]
  else if resU other box n = [] then [.str "cut", .int 1, .int 0, .int (at_ box 0)]
  else match crossF one other box n with
    | xs :: _ => xs
    | [] => match barF (at_ one (kF one box n)) (at_ other (kF one box n)) (at_ box (kF one box n)) (kF one box n) with
      | some xs => xs
      | none => [.str "cut", .int 0, .int (kF one box n : Nat), .int (at_ one (kF one box n) * (ltF (at_ one (kF one box n)) (at_ other (kF one box n)) (at_ box (kF one box n))).getD 0)]
theorem paperF_1 {one other box : List Int} {n : Nat} (h : resU one box n = []) : paperF one other box n = [.str "cut", .int 0, .int 0, .int (at_ box 0)] := if_pos h
theorem paperF_2 {one other box : List Int} {n : Nat} (h1 : ¬ resU one box n = []) (h : resU other box n = []) : paperF one other box n = [.str "cut", .int 1, .int 0, .int (at_ box 0)] := by
  unfold paperF; rw [if_neg h1, if_pos h]
theorem paperF_3 {one other box : List Int} {n : Nat} (h1 : ¬ resU one box n = []) (h2 : ¬ resU other box n = []) {xs : List V} {l : List (List V)} (h : crossF one other box n = xs :: l) : paperF one other box n = xs := by
  unfold paperF; rw [if_neg h1, if_neg h2, h]
theorem paperF_4 {one other box : List Int} {n : Nat} (h1 : ¬ resU one box n = []) (h2 : ¬ resU other box n = []) (h : crossF one other box n = []) : paperF one other box n = match barF (at_ one (kF one box n)) (at_ other (kF one box n)) (at_ box (kF one box n)) (kF one box n) with
      | some xs => xs
      | none => [.str "cut", .int 0, .int (kF one box n : Nat), .int (at_ one (kF one box n) * (ltF (at_ one (kF one box n)) (at_ other (kF one box n)) (at_ box (kF one box n))).getD 0)] := by
  unfold paperF; rw [if_neg h1, if_neg h2, h]
section
variable {P : Program} {w : World} {K : PySem.W.Frag} {mg : Str → Option Value} {base : Heap}
theorem sc_paper : FnScope ["pair", "box", "kind", "brick", "crossed", "axis", "bar"] ["pair", "box"] (defScope s_paper) := ⟨rfl, rfl, rfl, by decide +kernel, rfl, by decide +kernel, by decide +kernel⟩
def sp_paper : Sp := fun vs H Q _ => ∃ (u v : V) (n : Nat) (one other box : List Int), vs = [u, v] ∧ TP2 H u one other ∧ Ti H v box ∧ Sds n one ∧ Sds n other ∧ Sds n box ∧ 1 ≤ n ∧ n ≤ 4 ∧ ∀ r H', Kp [] H H' → Tu H' r (paperF one other box n) → Q r H'
theorem ok_paper (T : TX w K mg) : FnR P w K mg base CX0 4 (a_paper K) sp_paper :=
  fnr0 (f_paper T) sc_paper (fun vs H Q E ⟨_, _, _, _, _, _, e, _⟩ => by rw [e]; rfl) (fun _ _ _ _ _ _ us hl => match us, hl with | [_, _], _ => rfl) fun cdv A outer s H vs Q E hr h => by
    obtain ⟨u, v, n, one, other, box, rfl, ⟨x, y, hu, hx, hy⟩, hv, h1, h2, h3, n1, n4, q⟩ := h
    have nd := sc_paper.nd
    refine ⟨_, pss_cons (ps_for PassesOwn.never rfl (pi_enumT (n_enumerate T) (pa_cons (pv 0) pa_nil)) (pg_tupU rfl (pgs_cons (pg_name (i := 2) nd rfl (Or.inl rfl)) (pgs_cons (pg_name (i := 3) nd rfl (Or.inl rfl)) pgs_nil)))
        (pss_one (ps_if (pt_cmpR (op_eqI hr.units) (pe_f (ok_rests_papers T) (g_rests_papers T) (kp_rests_papers T) hr (pa_cons (pv 3) (pa_cons (pv 1) pa_nil))) (pe_lstU pa_nil) (nomark _))
          (pss_one (ps_ret (pe_tupU (pa_cons (pe_gs (z_CUT T)) (pa_cons (pv 2) (pa_cons pe_int (pa_cons (pe_ix ix_tupU (pv 1) pe_int (fun _ _ => rfl)) pa_nil))))))) pss_nil)))
      (pss_cons (ps_set (i := 4) nd rfl (Or.inl rfl) (pe_f (ok_crossing T) (g_crossing T) (kp_crossing T) hr (pa_cons (pv 0) (pa_cons (pv 1) pa_nil))))
      (pss_cons (ps_if (pt_cmpR (op_neT hr.units) (pv 4) (pe_lstU pa_nil) (nomark _)) (pss_one (ps_ret (pe_ix ix_listU (pv 4) pe_int (fun _ _ => rfl)))) pss_nil)
      (pss_cons (ps_set (i := 5) nd rfl (Or.inl rfl) (pe_ix ix_listU (pe_f (ok_rests_papers T) (g_rests_papers T) (kp_rests_papers T) hr (pa_cons (pe_ix ix_tupU (pv 0) pe_int (fun _ _ => rfl)) (pa_cons (pv 1) pa_nil))) pe_int (fun _ _ => rfl)))
      (pss_cons (ps_set (i := 6) nd rfl (Or.inl rfl) (pe_f (ok_bar_along T) (g_bar_along T) (kp_bar_along T) hr (pa_cons (pv 0) (pa_cons (pv 1) (pa_cons (pv 5) pa_nil)))))
      (pss_cons (ps_if (pt_cmpR op_notN (pv 6) pe_non (nomark _)) (pss_one (ps_ret (pv 6))) pss_nil)
      (pss_one (ps_ret (pe_tupU (pa_cons (pe_gs (z_CUT T)) (pa_cons pe_int (pa_cons (pv 5) (pa_cons
        (pe_op op_mul (pe_ix ix_tupU (pe_ix ix_tupU (pv 0) pe_int (fun _ _ => rfl)) (pv 5) (fun _ _ => rfl))
          (pe_f (ok_least_times T) (g_least_times T) (kp_least_times T) hr (pa_cons (pe_ix ix_tupU (pe_ix ix_tupU (pv 0) pe_int (fun _ _ => rfl)) (pv 5) (fun _ _ => rfl)) (pa_cons (pe_ix ix_tupU (pe_ix ix_tupU (pv 0) pe_int (fun _ _ => rfl)) (pv 5) (fun _ _ => rfl)) (pa_cons (pe_ix ix_tupU (pv 1) (pv 5) (fun _ _ => rfl)) pa_nil))))) pa_nil)))))))))))), ?_⟩
    obtain ⟨a, rfl, ha⟩ := id hu
    refine ⟨_, rfl, a, _, rfl, ha, ?_⟩
    refine for_P walk_P (fun i σ H' => Kp [] H H' ∧ (0 < i → resU one box n ≠ []) ∧ (1 < i → resU other box n ≠ []) ∧ ∃ t1 t2, σ = [some (.ref a), some v, t1, t2, none, none, none]) ⟨.refl, fun h => absurd h (Nat.lt_irrefl _), fun h => absurd h (by omega), _, _, rfl⟩ (fun i σ H' _ p => p.1.tup a _ ha) (fun i z σ H1 H2 hi p yy => ?_) fun σ H' p => ?_
    · obtain ⟨k1, r1, r2, t1, t2, rfl⟩ := p
      obtain ⟨i', br, k2, hz, rfl, hbr⟩ := yy
      have hi' : i < 2 := hi
      have hbr1 : ∃ b, Ti H br b ∧ Sds n b ∧ ((i = 0 ∧ b = one) ∨ (i = 1 ∧ b = other)) := by
        match i, hbr with
        | 0, e => cases e; exact ⟨one, hx, h1, .inl ⟨rfl, rfl⟩⟩
        | 1, e => cases e; exact ⟨other, hy, h2, .inr ⟨rfl, rfl⟩⟩
      obtain ⟨b, hb, sb, hib⟩ := hbr1
      have k := k1.trans k2
      refine ⟨_, hz, rfl, _, _, rfl, _, _, rfl, rfl, _, rfl, _, rfl, _, _, n, b, box, rfl, hb.kp k, hv.kp k, sb, h3, n4, fun p H3 np k3 hp3 => ?_⟩
      refine ⟨Nat.zero_le _, fun p2 H4 np2 k4 hp4 => ?_⟩
      rw [RV_ints] at hp3
      refine ⟨_, [], ⟨p, rfl, k4.get hp3⟩, ⟨p2, rfl, hp4⟩, _, rfl, ?_⟩
      have kk := (k.trans k3).trans k4
      have hv0 : ∀ H5, Kp [] H H5 → atI (box.map V.int) 0 = some (.int (at_ box 0)) := fun _ _ => atI_n 0 rfl (at_V h3 (by omega))
      by_cases c : resU b box n = []
      · refine (if_pos (by simp [c])).mpr ?_
        refine ⟨_, rfl, _, rfl, _, _, _, hv.kp kk, rfl, hv0 _ kk, Nat.le_of_ble_eq_true rfl, fun r H5 k5 h5 => ?_⟩
        refine q r H5 (kk.trans k5) ?_
        rcases hib with ⟨rfl, rfl⟩ | ⟨rfl, rfl⟩
        · rw [paperF_1 c]; exact h5
        · rw [paperF_2 (r1 (by omega)) c]; exact h5
      · refine (if_neg (by simp [c])).mpr ⟨kk, fun h => ?_, fun h => ?_, _, _, rfl⟩
        · rcases hib with ⟨rfl, rfl⟩ | ⟨rfl, rfl⟩
          · exact c
          · exact r1 (by omega)
        · rcases hib with ⟨rfl, rfl⟩ | ⟨rfl, rfl⟩
          · omega
          · exact c
    · obtain ⟨k1, r1, r2, t1, t2, rfl⟩ := p
      have r1 : resU one box n ≠ [] := r1 (by show 0 < 2; decide)
      have r2 : resU other box n ≠ [] := r2 (by show 1 < 2; decide)
      refine ⟨_, rfl, _, rfl, _, _, n, one, other, box, rfl, ⟨x, y, hu.kp k1, hx.kp k1, hy.kp k1⟩, hv.kp k1, h1, h2, h3, n4, fun p H2 vs np k2 hp2 ht => ?_⟩
      refine ⟨_, rfl, Nat.zero_le _, fun p2 H3 np2 k3 hp3 => ?_⟩
      refine ⟨p, p2, vs, one, other, box, n, rfl, rfl, k3.get hp2, ht.kp k3, hp3, _, rfl, ?_⟩
      have kk := (k1.trans k2).trans k3
      cases ec : crossF one other box n with
      | cons xs l =>
        rw [ec] at ht
        cases ht with
        | cons h0 ht =>
          refine (if_pos (by simp)).mpr ⟨_, rfl, _, _, _, ⟨p, rfl, k3.get hp2⟩, rfl, atI_n 0 rfl rfl, q _ _ kk ?_⟩
          rw [paperF_3 r1 r2 ec]
          exact h0.kp k3
      | nil =>
        refine (if_neg (by simp)).mpr ?_
        have hk : (resU one box n)[0]? = some (kF one box n) := by
          unfold kF
          cases e : resU one box n with
          | nil => exact absurd e r1
          | cons z l => rfl
        have hkn : kF one box n < n := resU_lt (List.mem_of_getElem? hk)
        rw [paperF_4 r1 r2 ec] at q
        generalize kF one box n = k at *
        obtain ⟨o1, o2⟩ := at_Sd h1 hkn
        obtain ⟨b1, b2⟩ := at_Sd h2 hkn
        refine ⟨_, rfl, _, _, _, hu.kp kk, rfl, atI_n 0 rfl rfl, _, rfl, _, _, n, one, box, rfl, hx.kp kk, hv.kp kk, h1, h3, n4, fun p4 H4 np4 k4 hp4 => ?_⟩
        have kk := kk.trans k4
        refine ⟨_, _, _, ⟨p4, rfl, hp4⟩, rfl, atI_n 0 rfl (by unfold RV; rw [List.getElem?_map, hk]; rfl), ?_⟩
        refine ⟨_, rfl, _, rfl, _, rfl, _, _, n, k, one, other, box, rfl, ⟨x, y, hu.kp kk, hx.kp kk, hy.kp kk⟩, hv.kp kk, h1, h2, h3, hkn, fun r H5 k5 h5 => ?_⟩
        have kk := kk.trans k5
        refine ⟨_, rfl, rfl, _, rfl, ?_⟩
        cases eb : barF (at_ one k) (at_ other k) (at_ box k) k with
        | some xs =>
          rw [eb] at h5 q
          have h5 : Tu H5 r xs := h5
          refine (if_pos (by simp [h5.ne])).mpr ⟨_, rfl, q _ _ kk h5⟩
        | none =>
          rw [eb] at h5 q
          obtain rfl : r = .non := h5
          refine (if_neg (by simp)).mpr ?_
          unfold barF at eb
          cases el : ltF (at_ one k) (at_ other k) (at_ box k) with
          | none => rw [el] at eb; cases eb
          | some t =>
            rw [el] at q
            refine ⟨_, rfl, ?_⟩
            refine ⟨_, rfl, _, _, _, hu.kp kk, rfl, atI_n 0 rfl rfl, _, rfl, _, _, _, hx.kp kk, rfl, atI_n k rfl (at_V h1 hkn), ?_⟩
            refine ⟨_, rfl, _, _, _, hu.kp kk, rfl, atI_n 0 rfl rfl, _, rfl, _, _, _, hx.kp kk, rfl, atI_n k rfl (at_V h1 hkn), ?_⟩
            refine ⟨_, rfl, _, _, _, hu.kp kk, rfl, atI_n 1 rfl rfl, _, rfl, _, _, _, hy.kp kk, rfl, atI_n k rfl (at_V h2 hkn), ?_⟩
            refine ⟨_, rfl, _, rfl, _, _, _, hv.kp kk, rfl, atI_n k rfl (at_V h3 hkn), _, _, _, rfl, ⟨o1, o2⟩, ⟨b1, b2⟩, fun H6 k6 => ?_⟩
            rw [el]
            exact ⟨_, _, rfl, rfl, .inl ⟨by omega, by omega⟩, Nat.le_of_ble_eq_true rfl, fun r H7 k7 h7 => q r H7 ((kk.trans k6).trans k7) h7⟩
theorem sc_is_filled : FnScope ["pair", "box"] ["pair", "box"] (defScope s_is_filled) := ⟨rfl, rfl, rfl, by decide +kernel, rfl, by decide +kernel, by decide +kernel⟩
def filledF (one other box : List Int) (n : Nat) : Bool := decide ((paperF one other box n).head? = some (.str "cut"))
/-- a paper's form: its first item a text -/
theorem paperF_form (one other box : List Int) (n : Nat) : ∃ z l, paperF one other box n = .str z :: l := by
  unfold paperF
  split
  · exact ⟨_, _, rfl⟩
  split
  · exact ⟨_, _, rfl⟩
  split
  · rename_i xs l e
    obtain ⟨i, j, rfl⟩ := cross_mem (e ▸ List.mem_cons_self ..)
    exact ⟨_, _, rfl⟩
  · split
    · rename_i xs e
      unfold barF at e
      split at e
      · cases e; exact ⟨_, _, rfl⟩
      · split at e
        · cases e; exact ⟨_, _, rfl⟩
        · cases e
    · exact ⟨_, _, rfl⟩
def sp_is_filled : Sp := fun vs H Q _ => ∃ (u v : V) (n : Nat) (one other box : List Int), vs = [u, v] ∧ TP2 H u one other ∧ Ti H v box ∧ Sds n one ∧ Sds n other ∧ Sds n box ∧ 1 ≤ n ∧ n ≤ 4 ∧ ∀ H', Kp [] H H' → Q (.bl (filledF one other box n)) H'
theorem ok_is_filled (T : TX w K mg) : FnR P w K mg base CX0 5 (a_is_filled K) sp_is_filled :=
  fnr0 (f_is_filled T) sc_is_filled (fun vs H Q E ⟨_, _, _, _, _, _, e, _⟩ => by rw [e]; rfl) (fun _ _ _ _ _ _ us hl => match us, hl with | [_, _], _ => rfl) fun cdv A outer s H vs Q E hr h => by
    obtain ⟨u, v, n, one, other, box, rfl, hu, hv, h1, h2, h3, n1, n4, q⟩ := h
    refine ⟨_, pss_one (ps_ret (pe_cmpR op_eq (pe_ix ix_tupU (pe_f (ok_paper T) ((g_paper_papers T).trans (congrArg (fun a => some (Value.ref a)) (e_paper T))) (kp_paper T) hr (pa_cons (pv 0) (pa_cons (pv 1) pa_nil))) pe_int (fun _ _ => rfl)) (pe_gs (z_CUT T)) (nomark _))), ?_⟩
    obtain ⟨z, l, e⟩ := paperF_form one other box n
    refine ⟨_, rfl, _, rfl, u, v, n, one, other, box, rfl, hu, hv, h1, h2, h3, n1, n4, fun r H1 k1 hr1 => ?_⟩
    rw [e] at hr1
    refine ⟨_, _, _, hr1, rfl, atI_n 0 rfl rfl, rfl, ?_⟩
    unfold filledF at q
    rw [e] at q
    have := q _ k1
    simpa using this
end
end TB
namespace TB
open PySem PySem.Spec PyProof.Rows L2
/-! ### new instances -/
def tMakeU (C : Addr) (sp : Sp) (E : XK) (t : L2.TA) : TE := fun σ H Q => t σ H fun vs H1 => ∀ x dx H2, H1 x = none → Kp [] H1 H2 → H2 x = some (.ins C dx []) → sp (.ref x :: vs) H2 (fun v H3 => v = .non ∧ Q (.ref x) H3) E
theorem pe_makeU {X : Cx} {CX : CXT} {k j : Nat} {f C : Addr} {sp : Sp} {E : XK} {x : Str} {e : Expr} {es : List Expr} {t : L2.TA} {p pos : Pos} (M : Mk X.K C f) (F : FnR X.prog X.w X.K X.mg X.base CX k f sp) (hm : X.mg x = some (.ref C)) (hr : Room j X.A) (ha : PA X (e :: es) t) (hx : Passes CX X E := by first | exact pass0 | exact passL) (hkj : k + 1 ≤ j := by decide)
    (hg : Gl X x := by rfl) (hdb : (x == ("__debug__" : Str)) = false := by decide) (he : starEach (e :: es) X.env = (false, eval e X.env) :: starEach es X.env := by rfl) (hpl : (backTo pos (starEach es X.env)).any (·.1) = false := by rfl) : PE X (.Call (.Name x p) (e :: es) [] pos) (tMakeU C sp E t) := by
  refine ⟨fun pins s σ H Q I h => ?_⟩
  refine wpAny_Call_Name_kw (ld_glob I hg hm ?_ hdb)
  refine PySem.W.callWith_K (h₀ := X.base) I.ok.mod.kin M.kp (thn (ha.run pos pins s σ H _ I h) fun us s1 ⟨vs, H1, I1, r, q⟩ => ⟨I1.kIn, ?_⟩) he hpl
  refine StX.run_makeR M F (hr.mono hkj) hx I1 r fun a dx ha hd hne => q a dx _ ha ?_ upd_same
  exact (Kp.upd hd).trans (Kp.upd (by rw [upd_ne (Ne.symm hne)]; exact ha))
/-- a field -/
abbrev lk (fs : List (Str × V)) (f : Str) : Option V := fs.lookup f
/-! ### cuts -/
structure CutR where
  whole : Int
  ab : Int
  ae : Int
  step : Int
  begin_ : Int
  amid : Int
structure CutsAt (K : PySem.W.Frag) (H : Hp) (a : Addr) (c : CutR) : Prop where
  ex : ∃ dx fs, H a = some (.ins (He.ga K "Cuts") dx fs) ∧ fs.length ≤ 20 ∧ lk fs "whole" = some (.int c.whole) ∧ lk fs "at_begin" = some (.int c.ab) ∧ lk fs "at_end" = some (.int c.ae) ∧ lk fs "step" = some (.int c.step) ∧ lk fs "begin" = some (.int c.begin_) ∧ lk fs "amid" = some (.int c.amid)
    ∧ lk fs "many" = none ∧ lk fs "spot" = none
theorem CutsAt.kp {K : PySem.W.Frag} {S : List Addr} {H H' : Hp} {a : Addr} {c : CutR} (h : CutsAt K H a c) (k : Kp S H H') (n : a ∉ S) : CutsAt K H' a c :=
  let ⟨dx, fs, h1, r⟩ := h.ex; ⟨dx, fs, k.old a _ h1 n, r⟩
def sel (f : Nat) (one other : List Int) : List Int := if f = 0 then one else other
def unsel (f : Nat) (one other : List Int) : List Int := if f = 0 then other else one
def gapL (low high box : List Int) (n k : Nat) : List Nat := (resU low box n ++ resU high box n).filter fun i => decide (i ≠ k)
/-- the begin and the number of the cuts amid -/
def amidF (l h rest step : Int) : Int × Int := match ltF l h rest with
  | none => (0, 0)
  | some t => if l * t ≤ rest then (l * (t + 1), 1 + (rest - l * t) / step) else (0, 0)
def cutsR (one other box : List Int) (n f k : Nat) : CutR :=
  let low := sel f one other
  let high := unsel f one other
  let rest := at_ box k - at_ low k - at_ high k
  let m := if rest < 0 ∨ gapL low high box n k ≠ [] then (0, 0) else amidF (at_ low k) (at_ high k) rest (lI (at_ low k) (at_ high k))
  { whole := at_ box k, ab := if resU high box n = [] then 1 else 0, ae := if resU low box n = [] then 1 else 0, step := lI (at_ low k) (at_ high k), begin_ := m.1, amid := m.2 }
def manyR (c : CutR) : Int := c.ab + c.amid + c.ae
def spotR (c : CutR) (i : Int) : Int := if i < c.ab then 0 else if i - c.ab < c.amid then c.begin_ + c.step * (i - c.ab) else c.whole
theorem sel_sds {n f : Nat} {one other : List Int} (h1 : Sds n one) (h2 : Sds n other) : Sds n (sel f one other) ∧ Sds n (unsel f one other) := by
  unfold sel unsel; split <;> exact ⟨by assumption, by assumption⟩
theorem amidF_bd {l h rest : Int} (hl : Sd l) (hh : Sd h) (hr : 0 ≤ rest) (hr2 : rest ≤ 1048576) : 0 ≤ (amidF l h rest (lI l h)).1 ∧ (amidF l h rest (lI l h)).1 ≤ 1048576 * 1048577 ∧ 0 ≤ (amidF l h rest (lI l h)).2 ∧ (amidF l h rest (lI l h)).2 ≤ 1048577 := by
  unfold amidF
  have hs := lI_pos hl.1 hh.1
  cases e : ltF l h rest with
  | none => exact (by decide : (0 : Int) ≤ 0 ∧ (0 : Int) ≤ 1048576 * 1048577 ∧ (0 : Int) ≤ 0 ∧ (0 : Int) ≤ 1048577)
  | some t =>
    obtain ⟨t0, t1⟩ := ltF_bd hl.1 hh.1 e
    obtain ⟨l1, l2⟩ := hl
    obtain ⟨b1, b2⟩ := hh
    dsimp only
    split
    · rename_i c
      have a1 : 0 ≤ l * (t + 1) := Int.mul_nonneg (by omega) (by omega)
      have a2 : l * (t + 1) ≤ 1048576 * 1048577 := Int.mul_le_mul l2 (by omega) (by omega) (by omega)
      have a3 : 0 ≤ (rest - l * t) / lI l h := Int.ediv_nonneg (by omega) (by omega)
      have a4 : (rest - l * t) / lI l h ≤ rest - l * t := Int.ediv_le_self _ (by omega)
      have a5 : 0 ≤ l * t := Int.mul_nonneg (by omega) t0
      exact ⟨a1, a2, by dsimp only; omega, by dsimp only; omega⟩
    · exact ⟨by decide, by decide, by decide, by decide⟩
theorem cutsR_bd {one other box : List Int} {n f k : Nat} (h1 : Sds n one) (h2 : Sds n other) (h3 : Sds n box) (hk : k < n) :
    let c := cutsR one other box n f k
    0 ≤ c.ab ∧ c.ab ≤ 1 ∧ 0 ≤ c.ae ∧ c.ae ≤ 1 ∧ 0 < c.step ∧ c.step ≤ 1048576 * 1048576 ∧ 0 ≤ c.begin_ ∧ c.begin_ ≤ 1048576 * 1048577 ∧ 0 ≤ c.amid ∧ c.amid ≤ 1048577 ∧ 0 < c.whole ∧ c.whole ≤ 1048576 := by
  obtain ⟨s1, s2⟩ := sel_sds (f := f) h1 h2
  have l1 := at_Sd s1 hk
  have l2 := at_Sd s2 hk
  have l3 := at_Sd h3 hk
  have st := lI_pos l1.1 l2.1
  have st2 : lI (at_ (sel f one other) k) (at_ (unsel f one other) k) ≤ 1048576 * 1048576 := Int.le_trans (lI_le l1.1 l2.1) (Int.mul_le_mul l1.2 l2.2 (Int.le_of_lt l2.1) (by decide))
  have m : 0 ≤ (cutsR one other box n f k).begin_ ∧ (cutsR one other box n f k).begin_ ≤ 1048576 * 1048577 ∧ 0 ≤ (cutsR one other box n f k).amid ∧ (cutsR one other box n f k).amid ≤ 1048577 := by
    unfold cutsR
    dsimp only
    split
    · exact ⟨by decide, by decide, by decide, by decide⟩
    · rename_i c
      have : ¬ at_ box k - at_ (sel f one other) k - at_ (unsel f one other) k < 0 := fun z => c (.inl z)
      exact amidF_bd l1 l2 (by omega) (by have := l1.1; have := l2.1; have := l3.2; omega)
  refine ⟨?_, ?_, ?_, ?_, st, st2, m.1, m.2.1, m.2.2.1, m.2.2.2, l3.1, l3.2⟩
  all_goals (unfold cutsR; dsimp only; split <;> decide)
theorem b01 (l : List Nat) : (if id (decide ((l.map fun i => ((i : Nat) : Int)) = [])) = true then (1 : Int) else 0) = if l = [] then 1 else 0 := by
  cases l with
  | nil => rfl
  | cons x l => simp
theorem cutsR_zero {one other box : List Int} {n f k : Nat} (h : at_ box k - at_ (sel f one other) k - at_ (unsel f one other) k < 0 ∨ gapL (sel f one other) (unsel f one other) box n k ≠ []) :
    (cutsR one other box n f k).begin_ = 0 ∧ (cutsR one other box n f k).amid = 0 := by
  unfold cutsR
  dsimp only
  rw [if_pos h]
  exact ⟨rfl, rfl⟩
theorem cutsR_some {one other box : List Int} {n f k : Nat} (h : ¬ at_ box k - at_ (sel f one other) k - at_ (unsel f one other) k < 0) (h2 : gapL (sel f one other) (unsel f one other) box n k = []) :
    ((cutsR one other box n f k).begin_, (cutsR one other box n f k).amid) = amidF (at_ (sel f one other) k) (at_ (unsel f one other) k) (at_ box k - at_ (sel f one other) k - at_ (unsel f one other) k) (lI (at_ (sel f one other) k) (at_ (unsel f one other) k)) := by
  unfold cutsR
  dsimp only
  rw [if_neg (fun z => z.elim h (fun q => q h2))]
local macro_rules | `(tactic| walk_at "lk") => `(tactic| repeat (first | exact lk_same | refine (lk_ne (by decide +kernel)).trans ?_ | rfl))
section
variable {P : Program} {w : World} {K : PySem.W.Frag} {mg : Str → Option Value} {base : Heap}
theorem sc_Cinit : FnScope ["self", "pair", "box", "first", "axis", "low", "high", "side", "rest", "times", "k"] ["self", "pair", "box", "first", "axis"] (defScope s_Cuts_init) := ⟨rfl, rfl, rfl, by decide +kernel, rfl, by decide +kernel, by decide +kernel⟩
def sp_Cinit (K : PySem.W.Frag) : Sp := fun vs H Q _ => ∃ (a dx : Addr) (u v : V) (n f k : Nat) (one other box : List Int), vs = [.ref a, u, v, .int (f : Nat), .int (k : Nat)] ∧ H a = some (.ins (He.ga K "Cuts") dx []) ∧ TP2 H u one other ∧ Ti H v box ∧ Sds n one ∧ Sds n other ∧ Sds n box ∧ n ≤ 4 ∧ f < 2 ∧ k < n ∧
  ∀ H', Kp [a] H H' → CutsAt K H' a (cutsR one other box n f k) → Q .non H'
theorem ok_Cinit (T : TX w K mg) : FnR P w K mg base CX0 3 (a_Cuts_init K) (sp_Cinit K) :=
  fnr0 (f_Cuts_init T) sc_Cinit (fun vs H Q E ⟨_, _, _, _, _, _, _, _, _, _, e, _⟩ => by rw [e]; rfl) (fun _ _ _ _ _ _ us hl => match us, hl with | [_, _, _, _, _], _ => rfl) fun cdv A outer s H vs Q E hr h => by
    obtain ⟨a, dx, u, v, n, f, k, one, other, box, rfl, ha, ⟨x, y, hu, hx, hy⟩, hv, h1, h2, h3, n4, hf, hk, q⟩ := h
    have nd := sc_Cinit.nd
    have cl := cl_Cuts T
    refine ⟨_, pss_cons (ps_par3 (i := 5) (j := 6) (l := 7) rfl nd rfl rfl rfl (by decide) (by decide) (by decide) rfl rfl rfl (pa_cons (pe_ix ix_tupU (pv 1) (pv 3) (fun _ _ => rfl)) (pa_cons (pe_ix ix_tupU (pv 1) (pe_op op_sub pe_int (pv 3)) (fun _ _ => rfl)) (pa_cons (pe_ix ix_tupU (pv 2) (pv 4) (fun _ _ => rfl)) pa_nil))) (by rfl))
      (pss_cons (ps_fldU (pv 0) (pv 7))
      (pss_cons (ps_fldU (pv 0) (pe_callTy call_int1 (by rfl) (n_int T) b_int (pa_cons (pe_cmpR (op_eqI hr.units) (pe_f (ok_rests_papers T) (g_rests_papers T) (kp_rests_papers T) hr (pa_cons (pv 6) (pa_cons (pv 2) pa_nil))) (pe_lstU pa_nil) (nomark _)) pa_nil)))
      (pss_cons (ps_fldU (pv 0) (pe_callTy call_int1 (by rfl) (n_int T) b_int (pa_cons (pe_cmpR (op_eqI hr.units) (pe_f (ok_rests_papers T) (g_rests_papers T) (kp_rests_papers T) hr (pa_cons (pv 5) (pa_cons (pv 2) pa_nil))) (pe_lstU pa_nil) (nomark _)) pa_nil)))
      (pss_cons (ps_asg (pe_tupU (pa_cons (pe_f (ok_joint T) (g_joint T) (kp_joint T) hr (pa_cons (pe_ix ix_tupU (pv 5) (pv 4) (fun _ _ => rfl)) (pa_cons (pe_ix ix_tupU (pv 6) (pv 4) (fun _ _ => rfl)) pa_nil))) (pa_cons pe_int (pa_cons pe_int pa_nil)))) (pg_tupU (n := 3) rfl (pgs_cons (pg_fldU (pv 0)) (pgs_cons (pg_fldU (pv 0)) (pgs_cons (pg_fldU (pv 0)) pgs_nil)))))
      (pss_cons (ps_set (i := 8) nd rfl (Or.inl rfl) (pe_op op_sub (pe_op op_sub (pv 7) (pe_ix ix_tupU (pv 5) (pv 4) (fun _ _ => rfl))) (pe_ix ix_tupU (pv 6) (pv 4) (fun _ _ => rfl))))
      (pss_cons (ps_if (PW.pt (pw_or (pt_cmpR op_lt (pv 8) pe_int (nomark _)) (pw_or1 (pt_cmpR (op_neI hr.units)
          (pe_lc (own := [("k", 10)]) rfl nd (pi_list (pe_op op_cat (pe_f (ok_rests_papers T) (g_rests_papers T) (kp_rests_papers T) hr (pa_cons (pv 5) (pa_cons (pv 2) pa_nil))) (pe_f (ok_rests_papers T) (g_rests_papers T) (kp_rests_papers T) hr (pa_cons (pv 6) (pa_cons (pv 2) pa_nil))))) (blkOk_by (N := ["self", "pair", "box", "first", "axis", "low", "high", "side", "rest", "times", "k"]) (sc := defScope s_Cuts_init) (by decide +kernel))
            (fun _ _ _ _ _ => pg_name (i := 10) nd rfl (Or.inl rfl)) (fun _ _ _ _ _ => pts_one (pt_cmpR op_ne (pv 10) (pv 4) (nomark _))) (fun _ _ _ _ _ => pv 10)) (pe_lstU pa_nil) (nomark _))))) (pss_one ps_retN) pss_nil)
      (pss_cons (ps_set (i := 9) nd rfl (Or.inl rfl) (pe_f (ok_least_times T) (g_least_times T) (kp_least_times T) hr (pa_cons (pe_ix ix_tupU (pv 5) (pv 4) (fun _ _ => rfl)) (pa_cons (pe_ix ix_tupU (pv 6) (pv 4) (fun _ _ => rfl)) (pa_cons (pv 8) pa_nil)))))
      (pss_one (ps_if (PW.pt (pw_and (pt_cmpR op_notN (pv 9) pe_non (nomark _)) (pw_and1 (pt_cmpR op_le (pe_op op_mul (pe_ix ix_tupU (pv 5) (pv 4) (fun _ _ => rfl)) (pv 9)) (pv 8) (nomark _)))))
        (pss_cons (ps_fldU (pv 0) (pe_op op_mul (pe_ix ix_tupU (pv 5) (pv 4) (fun _ _ => rfl)) (pe_op op_add (pv 9) pe_int)))
        (pss_one (ps_fldU (pv 0) (pe_op op_add pe_int (pe_op op_fdivW (pe_op op_sub (pv 8) (pe_op op_mul (pe_ix ix_tupU (pv 5) (pv 4) (fun _ _ => rfl)) (pv 9))) (pe_fld (pv 0) rfl)))))) pss_nil))))))))), ?_⟩
    obtain ⟨lv, hv', il, ih, tl, th⟩ : ∃ lv hv', [x, y][f]? = some lv ∧ [x, y][1 - f]? = some hv' ∧ Ti H lv (sel f one other) ∧ Ti H hv' (unsel f one other) := by
      match f, hf with
      | 0, _ => exact ⟨x, y, rfl, rfl, hx, hy⟩
      | 1, _ => exact ⟨y, x, rfl, rfl, hy, hx⟩
    obtain ⟨s1, s2⟩ := sel_sds (f := f) h1 h2
    have bd := cutsR_bd (f := f) h1 h2 h3 hk
    have st2 : lI (at_ (sel f one other) k) (at_ (unsel f one other) k) ≤ 1048576 * 1048576 := bd.2.2.2.2.2.1
    have l1 := at_Sd s1 hk
    have l2 := at_Sd s2 hk
    have cz := @cutsR_zero one other box n f k
    have cs := @cutsR_some one other box n f k
    have ew : (cutsR one other box n f k).whole = at_ box k := rfl
    have eb : (cutsR one other box n f k).ab = if resU (unsel f one other) box n = [] then 1 else 0 := rfl
    have ee : (cutsR one other box n f k).ae = if resU (sel f one other) box n = [] then 1 else 0 := rfl
    have es : (cutsR one other box n f k).step = lI (at_ (sel f one other) k) (at_ (unsel f one other) k) := rfl
    generalize cutsR one other box n f k = c at *
    generalize sel f one other = low at *
    generalize unsel f one other = high at *
    -- low, high, side
    refine ⟨_, rfl, _, rfl, _, _, _, hu, rfl, atI_n f rfl il, ?_⟩
    refine ⟨_, rfl, _, rfl, _, _, rfl, rfl, _, _, _, hu, rfl, atI_n (1 - f) (by omega) ih, ?_⟩
    refine ⟨_, rfl, _, rfl, _, _, _, hv, rfl, atI_n k rfl (at_V h3 hk), _, _, _, rfl, ?_⟩
    -- whole
    refine ⟨_, rfl, _, rfl, a, _, dx, _, rfl, ha, cl, na_Cuts_whole T, by show 0 < 1000; decide, fun H1 k1 ha1 => ?_⟩
    have n1 : (putF "whole" (V.int (at_ box k)) []).length ≤ 1 := ln_put (Nat.le_refl 0)
    -- at_begin
    refine ⟨_, rfl, _, rfl, _, _, n, high, box, rfl, th.kp k1, hv.kp k1, s2, h3, n4, fun p H2 np k2 hp => ⟨Nat.zero_le _, fun p2 H3 np2 k3 hp2 => ?_⟩⟩
    rw [RV_ints] at hp
    refine ⟨_, [], ⟨p, rfl, k3.get hp⟩, ⟨p2, rfl, hp2⟩, .inr ⟨_, rfl, ?_⟩⟩
    have k3' := (k1.trans k2.nil).trans k3.nil
    rw [b01]
    refine ⟨_, rfl, a, _, dx, _, rfl, k3.get (k2.get ha1), cl, na_Cuts_at_begin T, Nat.lt_of_le_of_lt n1 (by decide), fun H4 k4 ha4 => ?_⟩
    have n2 := ln_put (f := "at_begin") (v := V.int (if resU high box n = [] then 1 else 0)) n1
    have k4' := k3'.trans k4
    -- at_end
    refine ⟨_, rfl, _, rfl, _, _, n, low, box, rfl, tl.kp k4', hv.kp k4', s1, h3, n4, fun p H5 np k5 hp => ⟨Nat.zero_le _, fun p2 H6 np2 k6 hp2 => ?_⟩⟩
    rw [RV_ints] at hp
    refine ⟨_, [], ⟨p, rfl, k6.get hp⟩, ⟨p2, rfl, hp2⟩, .inr ⟨_, rfl, ?_⟩⟩
    have k6' := (k4'.trans k5.nil).trans k6.nil
    rw [b01]
    refine ⟨_, rfl, a, _, dx, _, rfl, k6.get (k5.get ha4), cl, na_Cuts_at_end T, Nat.lt_of_le_of_lt n2 (by decide), fun H7 k7 ha7 => ?_⟩
    have n3 := ln_put (f := "at_end") (v := V.int (if resU low box n = [] then 1 else 0)) n2
    have k7' := k6'.trans k7
    -- step, begin, amid
    refine ⟨_, rfl, _, rfl, _, _, _, tl.kp k7', rfl, atI_n k rfl (at_V s1 hk), _, rfl, _, rfl, _, _, _, th.kp k7', rfl, atI_n k rfl (at_V s2 hk), _, _, rfl, l1, l2, ?_⟩
    refine ⟨Nat.le_of_ble_eq_true rfl, fun v8 H8 k8 h8 => ⟨_, h8, rfl, ?_⟩⟩
    have ha8 := k8.get ha7
    have k8' := k7'.trans k8.nil
    refine ⟨_, _, rfl, _, rfl, a, _, dx, _, rfl, ha8, cl, na_Cuts_step T, Nat.lt_of_le_of_lt n3 (by decide), fun H9 k9 ha9 => ?_⟩
    have n4' := ln_put (f := "step") (v := V.int (lI (at_ low k) (at_ high k))) n3
    refine ⟨_, _, rfl, _, rfl, a, _, dx, _, rfl, ha9, cl, na_Cuts_begin T, Nat.lt_of_le_of_lt n4' (by decide), fun H10 k10 ha10 => ?_⟩
    have n5 := ln_put (f := "begin") (v := V.int 0) n4'
    refine ⟨_, _, rfl, _, rfl, a, _, dx, _, rfl, ha10, cl, na_Cuts_amid T, Nat.lt_of_le_of_lt n5 (by decide), fun H11 k11 ha11 => ⟨rfl, ?_⟩⟩
    have n6 := ln_put (f := "amid") (v := V.int 0) n5
    have kz := ((k8'.trans k9).trans k10).trans k11
    have fin0 : ∀ H', Kp [] H11 H' → c.begin_ = 0 → c.amid = 0 → Q .non H' := fun H' k' e1 e2 => by
      refine q H' (kz.trans k'.nil) ⟨dx, _, k'.get ha11, Nat.le_trans n6 (by decide), ?_, ?_, ?_, ?_, ?_, ?_, ?_, ?_⟩
      · rw [ew]; walk_at "lk"
      · rw [eb]; walk_at "lk"
      · rw [ee]; walk_at "lk"
      · rw [es]; walk_at "lk"
      · rw [e1]; walk_at "lk"
      · rw [e2]; walk_at "lk"
      · walk_at "lk"
      · walk_at "lk"
    -- rest
    refine ⟨_, rfl, _, rfl, _, rfl, _, _, _, tl.kp kz, rfl, atI_n k rfl (at_V s1 hk), _, _, rfl, rfl, ?_⟩
    refine ⟨_, rfl, _, rfl, _, _, _, th.kp kz, rfl, atI_n k rfl (at_V s2 hk), _, _, rfl, rfl, ?_⟩
    -- if
    refine ⟨_, rfl, _, _, rfl, rfl, _, rfl, ?_⟩
    refine ite2 (fun cc => iteT ?_) fun cc => ?_
    · have e := cz (.inl (of_decide_eq_true cc))
      exact fin0 _ .refl e.1 e.2
    have cc : ¬ at_ box k - at_ low k - at_ high k < 0 := fun z => cc (decide_eq_true z)
    refine ⟨_, rfl, _, rfl, _, _, n, low, box, rfl, tl.kp kz, hv.kp kz, s1, h3, n4, fun p H12 np k12 hp => ?_⟩
    have kz2 := kz.trans k12.nil
    refine ⟨_, rfl, _, rfl, _, _, n, high, box, rfl, th.kp kz2, hv.kp kz2, s2, h3, n4, fun p2 H13 np2 k13 hp2 => ?_⟩
    refine ⟨p, p2, _, _, rfl, rfl, k13.get hp, hp2, small ?_, fun p3 np3 => ?_⟩
    · have := resU_len low box n
      have := resU_len high box n
      simp only [RV, List.length_map]
      omega
    have hp3 : (upd H13 p3 (.lst (RV (resU low box n) ++ RV (resU high box n)))) p3 = some (.lst (RV (resU low box n ++ resU high box n))) := by
      rw [upd_same]; simp only [RV, List.map_append]
    have k14 : Kp [] H11 (upd H13 p3 (.lst (RV (resU low box n) ++ RV (resU high box n)))) := (k12.trans k13).trans (Kp.upd np3)
    generalize upd H13 p3 (.lst (RV (resU low box n) ++ RV (resU high box n))) = H14 at *
    refine ⟨p3, rfl, ⟨_, SqL.of hp3⟩, fun D hD => ?_⟩
    have hlr : (RV (resU low box n ++ resU high box n)).length = (resU low box n ++ resU high box n).length := by simp [RV]
    refine lcP walk_list [] (fun m => RV (((resU low box n ++ resU high box n).take m).filter fun i => decide (i ≠ k))) hD rfl (fun m H' p => SqL.of (p.1.get hp3)) (fun m z H15 H15' hm p yy => ?_) fun H' p => ?_
    · obtain ⟨k15, hD5⟩ := p
      obtain ⟨rfl, hz⟩ := yy
      obtain ⟨j, hj, rfl⟩ := RV_get hz
      refine ⟨rfl, _, rfl, _, rfl, rfl, _, rfl, ?_⟩
      have e := take_succ' hj
      by_cases c' : j = k
      · subst c'
        refine (if_neg (by simp)).mpr ⟨k15, ?_⟩
        rw [hD5]
        simp [e, List.filter_append, List.filter_cons]
      · refine (if_pos (by simp; omega)).mpr ⟨_, rfl, lcAdd hD k15 hD5 ?_ ?_⟩
        · have h1 := List.length_filter_le (fun i => decide (i ≠ k)) ((resU low box n ++ resU high box n).take m)
          have := resU_len low box n
          have := resU_len high box n
          simp only [RV, List.length_map, List.length_take, List.length_append] at *
          omega
        · simp [e, List.filter_append, List.filter_cons, c', RV]
    · obtain ⟨k15, hD5⟩ := p
      rw [hlr] at hD5
      have hD5 : H' D = some (.lst (RV (gapL low high box n k))) := by
        rw [hD5]; show some (HO.lst (RV (((resU low box n ++ resU high box n).take _).filter _))) = _; rw [List.take_length]; rfl
      rw [RV_ints] at hD5
      refine ⟨Nat.zero_le _, fun p5 H16 np5 k16 hp5 => ⟨_, [], ⟨D, rfl, k16.get hD5⟩, ⟨p5, rfl, hp5⟩, _, rfl, ?_⟩⟩
      have k17 := (k14.trans k15).trans k16
      have k18 := kz.trans k17.nil
      by_cases g : gapL low high box n k = []
      · refine (if_neg (by simp [g])).mpr ?_
        have cs := cs cc g
        refine ⟨_, rfl, _, rfl, _, _, _, tl.kp k18, rfl, atI_n k rfl (at_V s1 hk), _, rfl, _, rfl, _, _, _, th.kp k18, rfl, atI_n k rfl (at_V s2 hk), _, rfl, _, _, _, rfl, l1, l2, fun H17 k19 => ?_⟩
        have k20 := k17.trans k19
        have k21 := kz.trans k20.nil
        unfold amidF at cs
        cases el : ltF (at_ low k) (at_ high k) (at_ box k - at_ low k - at_ high k) with
        | none =>
          rw [el] at cs
          simp only [Prod.mk.injEq] at cs
          exact ⟨_, rfl, rfl, _, rfl, iteF (iteF (fin0 _ k20 cs.1 cs.2))⟩
        | some t =>
          rw [el] at cs
          obtain ⟨t0, t1⟩ := ltF_bd l1.1 l2.1 el
          have M : ∀ j, CMul (at_ low k) j := fun j => .inl ⟨by have := l1.1; omega, by have := l1.2; omega⟩
          refine ⟨_, rfl, rfl, _, rfl, iteT ⟨_, rfl, _, rfl, _, _, _, tl.kp k21, rfl, atI_n k rfl (at_V s1 hk), _, rfl, _, _, rfl, rfl, M _, _, rfl, _, _, rfl, rfl, _, rfl, ?_⟩⟩
          by_cases c2 : at_ low k * t ≤ at_ box k - at_ low k - at_ high k
          · simp only [if_pos c2, Prod.mk.injEq] at cs
            refine (if_pos (decide_eq_true c2)).mpr ?_
            refine ⟨_, rfl, _, rfl, _, _, _, tl.kp k21, rfl, atI_n k rfl (at_V s1 hk), _, rfl, _, _, rfl, rfl, _, _, rfl, rfl, M _, ?_⟩
            refine ⟨_, rfl, a, _, dx, _, rfl, k20.get ha11, cl, na_Cuts_begin T, Nat.lt_of_le_of_lt n6 (by decide), fun H18 k22 ha18 => ?_⟩
            have n7 := ln_put (f := "begin") (v := V.int (at_ low k * (t + 1))) n6
            have k23 := k21.trans k22
            have st0 := lI_pos l1.1 l2.1
            refine ⟨_, rfl, _, rfl, _, rfl, _, _, _, tl.kp k23, rfl, atI_n k rfl (at_V s1 hk), _, rfl, _, _, rfl, rfl, M _, _, _, rfl, rfl, ?_⟩
            refine ⟨_, rfl, a, _, dx, _, V.int (lI (at_ low k) (at_ high k)), rfl, ha18, cl, na_Cuts_step T, by walk_at "lk", _, _, rfl, rfl, wide_div (b := 64) st0 (by omega) (by decide) (by decide), _, _, rfl, rfl, ?_⟩
            refine ⟨_, rfl, a, _, dx, _, rfl, ha18, cl, na_Cuts_amid T, Nat.lt_of_le_of_lt n7 (by decide), fun H19 k24 ha19 => ?_⟩
            have n8 := ln_put (f := "amid") (v := V.int (1 + (at_ box k - at_ low k - at_ high k - at_ low k * t) / lI (at_ low k) (at_ high k))) n7
            refine q H19 (k23.trans k24) ⟨dx, _, ha19, Nat.le_trans n8 (by decide), ?_, ?_, ?_, ?_, ?_, ?_, ?_, ?_⟩
            · rw [ew]; walk_at "lk"
            · rw [eb]; walk_at "lk"
            · rw [ee]; walk_at "lk"
            · rw [es]; walk_at "lk"
            · rw [cs.1]; walk_at "lk"
            · rw [cs.2]; walk_at "lk"
            · walk_at "lk"
            · walk_at "lk"
          · simp only [if_neg c2, Prod.mk.injEq] at cs
            exact (if_neg (fun z => c2 (of_decide_eq_true z))).mpr (fin0 _ k20 cs.1 cs.2)
      · have e := cz (.inr g)
        exact (if_pos (by simp [g])).mpr (fin0 _ k17 e.1 e.2)
end
end TB
namespace TB
open PySem PySem.Spec PyProof.Rows L2
theorem Kp.drop {S : List Addr} {H1 H2 H3 : Hp} {x : Addr} (a : Kp S H1 H2) (b : Kp (x :: S) H2 H3) (h : H1 x = none) : Kp S H1 H3 :=
  ⟨fun c o e n => b.old c o (a.old c o e n) (fun q => (List.mem_cons.mp q).elim (fun z => by rw [z, h] at e; cases e) n), fun c o e => b.tup c o (a.tup c o e)⟩
theorem tYesI {σ : L2.St} {H : Hp} {A B : Hp → Prop} (h : A H) : tYes σ H (fun b H3 => if b = true then A H3 else B H3) := show (if true = true then A H else B H) from iteT h
theorem walk_r0 {n : Nat} : Walk (Itr 0 n) n (fun _ => True) (fun i H v H' => H' = H ∧ v = .int (i : Nat)) :=
  walk_range.mono (fun _ h => h) (fun i H x H' _ _ ⟨a, b⟩ => ⟨a, by rw [b]; show V.int (0 + (i : Int)) = _; rw [Int.zero_add]⟩)
/-! ### methods by positional promises -/
section
variable {X : Cx} {CX : CXT} {k j : Nat} {C f : Addr} {m : Str} {sp : Sp} {E : XK} {o e : Expr} {es : List Expr} {ta : TE} {t : L2.TA} {apos pos : Pos} {pl : Sem Bool}
theorem pe_m0 (he : PE X o ta) (c : Cls X.K C) (hm : Meth X.K C m f) (F : FnR X.prog X.w X.K X.mg X.base CX k f sp) (hr : Room j X.A) (hx : Passes CX X E := by first | exact pass0 | exact passL) (hkj : k ≤ j := by decide)
    (ht : eval (.Call (.Attribute o m apos) [] [] pos) X.env = (do
      let ov ← eval o X.env
      standAt apos.atName
      let (f, first) ← holding [ov] (getMethod ov m pl)
      callWith pos f first (backTo pos (starEach [] X.env)) (backToKw pos (keywordEach [] X.env))) := by rfl) : PE X (.Call (.Attribute o m apos) [] [] pos) (tMethR C m sp E ta tNil) := by
  refine ⟨fun pins s σ H Q I h => PySem.W.methodCall_KW (pl := pl) (thn (he.run pins s σ H _ I h) fun u s1 ⟨x, H1, I1, rx, a, dx, fs, ex, ea, l, q⟩ => ?_) ht⟩
  subst ex
  obtain rfl : u = Value.ref a := rx
  exact getmeth_ok I1 ea c hm l (PySem.W.callWith_K0 (first := [.ref a]) I1.kIn hm.kp (wp_fnR (us := [.ref a]) (vs := [.ref a]) F hr hkj hx I1 (.cons rfl .nil) q))
theorem pe_m (he : PE X o ta) (c : Cls X.K C) (hm : Meth X.K C m f) (F : FnR X.prog X.w X.K X.mg X.base CX k f sp) (hr : Room j X.A) (ha : PA X (e :: es) t) (hx : Passes CX X E := by first | exact pass0 | exact passL) (hkj : k ≤ j := by decide)
    (hst : starEach (e :: es) X.env = (false, eval e X.env) :: starEach es X.env := by rfl) (hpl : (backTo pos (starEach es X.env)).any (·.1) = false := by rfl)
    (ht : eval (.Call (.Attribute o m apos) (e :: es) [] pos) X.env = (do
      let ov ← eval o X.env
      standAt apos.atName
      let (f, first) ← holding [ov] (getMethod ov m pl)
      callWith pos f first (backTo pos (starEach (e :: es) X.env)) (backToKw pos (keywordEach [] X.env))) := by rfl) : PE X (.Call (.Attribute o m apos) (e :: es) [] pos) (tMethR C m sp E ta t) :=
  pe_methR he c hm F (hr.mono hkj) hx ha hst hpl ht
end
/-! ### lists of cuts -/
inductive CutL (K : PySem.W.Frag) (one other box : List Int) (n : Nat) (H : Hp) : List V → List (Nat × Nat) → Prop
  | nil : CutL K one other box n H [] []
  | cons {v : V} {vs : List V} {c : Addr} {f k : Nat} {l : List (Nat × Nat)} (h : Tu H v [.int (f : Nat), .int (k : Nat), .ref c]) (hc : CutsAt K H c (cutsR one other box n f k)) (t : CutL K one other box n H vs l) : CutL K one other box n H (v :: vs) ((f, k) :: l)
section
variable {K : PySem.W.Frag} {one other box : List Int} {n : Nat} {H H' : Hp} {vs ws : List V} {l l' : List (Nat × Nat)}
theorem CutL.kp {S : List Addr} (h : CutL K one other box n H vs l) (k : Kp S H H') (hs : ∀ a ∈ S, ∀ C dx fs, H a ≠ some (.ins C dx fs)) : CutL K one other box n H' vs l := by
  induction h with
  | nil => exact .nil
  | cons h hc _ ih =>
    refine .cons (h.kp k) (hc.kp k fun hm => ?_) ih
    obtain ⟨dx, fs, e, _⟩ := hc.ex
    exact hs _ hm _ _ _ e
theorem CutL.kp0 (h : CutL K one other box n H vs l) (k : Kp [] H H') : CutL K one other box n H' vs l := h.kp k fun _ q => nomatch q
theorem CutL.kp1 {p : Addr} {xs : List V} (h : CutL K one other box n H vs l) (k : Kp [p] H H') (hp : H p = some (.lst xs)) : CutL K one other box n H' vs l :=
  h.kp k fun a ha C dx fs e => by rw [List.mem_singleton.mp ha, hp] at e; cases e
theorem CutL.len (h : CutL K one other box n H vs l) : vs.length = l.length := by
  induction h with
  | nil => rfl
  | cons _ _ _ ih => simp [ih]
theorem CutL.app (h : CutL K one other box n H vs l) (t : CutL K one other box n H ws l') : CutL K one other box n H (vs ++ ws) (l ++ l') := by
  induction h with
  | nil => exact t
  | cons h hc _ ih => exact .cons h hc ih
theorem CutL.get (h : CutL K one other box n H vs l) : ∀ {i : Nat} {v : V}, vs[i]? = some v → ∃ f k c, l[i]? = some (f, k) ∧ Tu H v [.int (f : Nat), .int (k : Nat), .ref c] ∧ CutsAt K H c (cutsR one other box n f k) := by
  induction h with
  | nil => intro i v e; simp at e
  | cons h hc _ ih =>
    intro i v e
    match i, e with
    | 0, e => cases e; exact ⟨_, _, _, rfl, h, hc⟩
    | i + 1, e => exact ih (i := i) (by simpa using e)
end
def rowC (f n : Nat) : List (Nat × Nat) := (List.range n).map fun k => (f, k)
def cutsT (n m : Nat) : List (Nat × Nat) := (List.range m).flatMap fun f => rowC f n
def cutsL (n : Nat) : List (Nat × Nat) := cutsT n 2
theorem rowC_succ (f i : Nat) : rowC f (i + 1) = rowC f i ++ [(f, i)] := by
  unfold rowC; rw [List.range_succ, List.map_append]; rfl
theorem cutsT_succ (n m : Nat) : cutsT n (m + 1) = cutsT n m ++ rowC m n := by
  unfold cutsT; rw [List.range_succ, List.flatMap_append]; simp
theorem rowC_len (f n : Nat) : (rowC f n).length = n := by simp [rowC]
theorem cutsL_eq (n : Nat) : cutsL n = rowC 0 n ++ rowC 1 n := by
  unfold cutsL; rw [cutsT_succ, cutsT_succ]; rfl
theorem cutsL_mem {n f k : Nat} (h : (f, k) ∈ cutsL n) : f < 2 ∧ k < n := by
  rw [cutsL_eq] at h
  rcases List.mem_append.mp h with h | h <;> (unfold rowC at h; obtain ⟨i, hi, e⟩ := List.mem_map.mp h; cases e; exact ⟨by decide, List.mem_range.mp hi⟩)
section
variable {P : Program} {w : World} {K : PySem.W.Frag} {mg : Str → Option Value} {base : Heap}
theorem sc_many : FnScope ["self"] ["self"] (defScope s_Cuts_many) := ⟨rfl, rfl, rfl, by decide +kernel, rfl, by decide +kernel, by decide +kernel⟩
def sp_many (K : PySem.W.Frag) : Sp := fun vs H Q _ => ∃ a c, vs = [.ref a] ∧ CutsAt K H a c ∧ Q (.int (manyR c)) H
theorem ok_many (T : TX w K mg) : FnR P w K mg base CX0 1 (a_Cuts_many K) (sp_many K) :=
  fnr0 (f_Cuts_many T) sc_many (fun vs H Q E ⟨_, _, e, _⟩ => by rw [e]; rfl) (fun _ _ _ _ _ _ us hl => match us, hl with | [_], _ => rfl) fun cdv A outer s H vs Q E hr h => by
    obtain ⟨a, c, rfl, ⟨dx, fs, ha, hl, f1, f2, f3, f4, f5, f6, f7, f8⟩, q⟩ := h
    have cl := cl_Cuts T
    refine ⟨_, pss_one (ps_ret (pe_op op_add (pe_op op_add (pe_fld (pv 0) rfl) (pe_fld (pv 0) rfl)) (pe_fld (pv 0) rfl))), ?_⟩
    exact ⟨_, rfl, a, _, dx, fs, _, rfl, ha, cl, na_Cuts_at_begin T, f2, _, rfl, a, _, dx, fs, _, rfl, ha, cl, na_Cuts_amid T, f6, _, _, rfl, rfl, _, rfl, a, _, dx, fs, _, rfl, ha, cl, na_Cuts_at_end T, f3, _, _, rfl, rfl, q⟩
theorem sc_spot : FnScope ["self", "number", "inner"] ["self", "number"] (defScope s_Cuts_spot) := ⟨rfl, rfl, rfl, by decide +kernel, rfl, by decide +kernel, by decide +kernel⟩
def sp_spot (K : PySem.W.Frag) : Sp := fun vs H Q _ => ∃ (a : Addr) (c : CutR) (i : Int), vs = [.ref a, .int i] ∧ CutsAt K H a c ∧ 0 < c.step ∧ c.step ≤ 1048576 * 1048576 ∧ Q (.int (spotR c i)) H
theorem ok_spot (T : TX w K mg) : FnR P w K mg base CX0 1 (a_Cuts_spot K) (sp_spot K) :=
  fnr0 (f_Cuts_spot T) sc_spot (fun vs H Q E ⟨_, _, _, e, _⟩ => by rw [e]; rfl) (fun _ _ _ _ _ _ us hl => match us, hl with | [_, _], _ => rfl) fun cdv A outer s H vs Q E hr h => by
    obtain ⟨a, c, i, rfl, ⟨dx, fs, ha, hl, f1, f2, f3, f4, f5, f6, f7, f8⟩, st1, st2, q⟩ := h
    have cl := cl_Cuts T
    have nd := sc_spot.nd
    refine ⟨_, pss_cons (ps_if (pt_cmpR op_lt (pv 1) (pe_fld (pv 0) rfl) (nomark _)) (pss_one (ps_ret pe_int)) pss_nil)
      (pss_cons (ps_set (i := 2) nd rfl (Or.inl rfl) (pe_op op_sub (pv 1) (pe_fld (pv 0) rfl)))
      (pss_one (ps_ret (pe_ifExp (pt_cmpR op_lt (pv 2) (pe_fld (pv 0) rfl) (nomark _)) (pe_op op_add (pe_fld (pv 0) rfl) (pe_op op_mul (pe_fld (pv 0) rfl) (pv 2))) (pe_fld (pv 0) rfl))))), ?_⟩
    unfold spotR at q
    refine ⟨_, rfl, _, rfl, a, _, dx, fs, _, rfl, ha, cl, na_Cuts_at_begin T, f2, _, _, rfl, rfl, _, rfl, ?_⟩
    by_cases c1 : i < c.ab
    · rw [if_pos c1] at q
      exact (if_pos (decide_eq_true c1)).mpr q
    · rw [if_neg c1] at q
      refine (if_neg (fun z => c1 (of_decide_eq_true z))).mpr ?_
      refine ⟨_, rfl, _, rfl, a, _, dx, fs, _, rfl, ha, cl, na_Cuts_at_begin T, f2, _, _, rfl, rfl, ?_⟩
      refine ⟨_, rfl, _, rfl, a, _, dx, fs, _, rfl, ha, cl, na_Cuts_amid T, f6, _, _, rfl, rfl, _, rfl, ?_⟩
      by_cases c2 : i - c.ab < c.amid
      · rw [if_pos c2] at q
        exact (if_pos (decide_eq_true c2)).mpr ⟨_, rfl, a, _, dx, fs, _, rfl, ha, cl, na_Cuts_begin T, f5, _, rfl, a, _, dx, fs, _, rfl, ha, cl, na_Cuts_step T, f4, _, rfl, _, _, rfl, rfl, .inl ⟨by omega, by omega⟩, _, _, rfl, rfl, q⟩
      · rw [if_neg c2] at q
        exact (if_neg (fun z => c2 (of_decide_eq_true z))).mpr ⟨_, rfl, a, _, dx, fs, _, rfl, ha, cl, na_Cuts_whole T, f1, q⟩
theorem sc_all_cuts : FnScope ["pair", "box", "found", "first", "axis"] ["pair", "box"] (defScope s_all_cuts) := ⟨rfl, rfl, rfl, by decide +kernel, rfl, by decide +kernel, by decide +kernel⟩
def sp_all_cuts (K : PySem.W.Frag) : Sp := fun vs H Q _ => ∃ (u v : V) (n : Nat) (one other box : List Int), vs = [u, v] ∧ TP2 H u one other ∧ Ti H v box ∧ Sds n one ∧ Sds n other ∧ Sds n box ∧ n ≤ 4 ∧ ∀ p H' vs, H p = none → Kp [] H H' → H' p = some (.lst vs) → CutL K one other box n H' vs (cutsL n) → Q (.ref p) H'
theorem ok_all_cuts (T : TX w K mg) : FnR P w K mg base CX0 5 (a_all_cuts K) (sp_all_cuts K) :=
  fnr0 (f_all_cuts T) sc_all_cuts (fun vs H Q E ⟨_, _, _, _, _, _, e, _⟩ => by rw [e]; rfl) (fun _ _ _ _ _ _ us hl => match us, hl with | [_, _], _ => rfl) fun cdv A outer s H vs Q E hr h => by
    obtain ⟨u, v, n, one, other, box, rfl, hu, hv, h1, h2, h3, n4, q⟩ := h
    have nd := sc_all_cuts.nd
    refine ⟨_, pss_cons (ps_set (i := 2) nd rfl (Or.inl rfl) (pe_lstU pa_nil))
      (pss_cons (ps_for PassesOwn.never rfl (pi_tup (pe_tupU (pa_cons pe_int (pa_cons pe_int pa_nil)))) (pg_name (i := 3) nd rfl (Or.inr rfl))
        (pss_one (ps_expr (pe_bm PySem.F.plainAttrs_list PySem.F.slot_list_extend PySem.F.type_list_extend mt_extend (pv 2) (pa_cons
          (pe_lc (own := [("axis", 4)]) rfl nd (pi_range1 rfl (n_range T) (pa_cons (pe_callB call_lenU (by rfl) (n_len T) b_len (pa_cons (pv 1) pa_nil)) pa_nil)) (blkOk_by (N := ["pair", "box", "found", "first", "axis"]) (sc := defScope s_all_cuts) (by decide +kernel))
            (fun _ _ _ _ _ => pg_name (i := 4) nd rfl (Or.inl rfl)) (fun _ _ _ _ _ => pts_nil)
            (fun _ _ _ _ _ => pe_tupU (pa_cons (pv 3) (pa_cons (pv 4) (pa_cons (pe_makeU (mk_Cuts T) (ok_Cinit T) (g_Cuts T) hr (pa_cons (pv 0) (pa_cons (pv 1) (pa_cons (pv 3) (pa_cons (pv 4) pa_nil))))) pa_nil))))) pa_nil)))))
      (pss_one (ps_ret (pv 2)))), ?_⟩
    have hl : (box.map V.int).length = n := by simp [h3.1]
    refine ⟨Nat.zero_le _, fun p H1 np k1 hp => ?_⟩
    refine ⟨Nat.le_of_ble_eq_true rfl, fun r H2 k2 hr2 => ?_⟩
    obtain ⟨b, rfl, hb⟩ := hr2
    refine ⟨b, rfl, ⟨_, SqT.of hb⟩, ?_⟩
    refine for_P walk_tup (fun m σ H' => Kp [] H H' ∧ H' b = some (.tup [.int 0, .int 1]) ∧ (∃ t, σ = [some u, some v, some (.ref p), t, none]) ∧ ∃ vs, H' p = some (.lst vs) ∧ CutL K one other box n H' vs (cutsT n m))
      ⟨k1.trans k2, hb, ⟨_, rfl⟩, [], k2.get hp, .nil⟩ (fun m σ H' _ p => SqT.of p.2.1) (fun m z σ H3 H3' hm pp yy => ?_) fun σ H' pp => ?_
    · obtain ⟨k3, hb3, ⟨t, rfl⟩, vs, hp3, ht⟩ := pp
      obtain ⟨rfl, hz⟩ := yy
      have hm2 : m < 2 := hm
      have hzz : z = .int (m : Nat) := by
        match m, hz with
        | 0, e => cases e; rfl
        | 1, e => cases e; rfl
      subst hzz
      refine ⟨_, rfl, Or.inl ⟨rfl, _, SqL.of hp3⟩, ?_⟩
      refine ⟨_, rfl, _, _, rfl, .inl (hv.kp k3), _, rfl, by omega, by omega, fun D hD => ?_⟩
      rw [hl]
      refine lc_it walk_r0 (fun i H' => Kp [] H3' H' ∧ ∃ ws, H' D = some (.lst ws) ∧ CutL K one other box n H' ws (rowC m i)) ⟨.upd hD, [], upd_same, .nil⟩ (fun i H' _ p => trivial) (fun i z2 H5 H5' hi pp yy => ?_) fun H' pp => ?_
      · obtain ⟨k5, ws, hD5, ht5⟩ := pp
        obtain ⟨rfl, rfl⟩ := yy
        have hi : i < n := by simpa using hi
        have k35 := k3.trans k5
        refine ⟨rfl, tYesI ?_⟩
        refine ⟨_, rfl, _, rfl, _, rfl, _, rfl, _, rfl, _, rfl, fun x dx H6 nx k6 hx6 => ?_⟩
        refine ⟨x, dx, u, v, n, m, i, one, other, box, rfl, hx6, (hu.kp k35).kp k6, (hv.kp k35).kp k6, h1, h2, h3, n4, hm2, hi, fun H7 k7 hc7 => ⟨rfl, Nat.le_of_ble_eq_true rfl, fun v8 H8 k8 h8 => ?_⟩⟩
        have k57 : Kp [] H5' H7 := k6.drop k7 nx
        have k58 := k57.trans k8
        have hD8 := k58.get hD5
        have wl := ht5.len
        rw [rowC_len] at wl
        have kk : Kp [D] H8 (upd H8 D (.lst (ws ++ [v8]))) := Kp.wr hD8 (fun xs z => by cases z) (List.mem_cons_self ..)
        refine ⟨ws, hD8, small1000 (by omega), (k5.trans k58).updn hD (fun xs z => by rw [hD8] at z; cases z), ws ++ [v8], upd_same, ?_⟩
        rw [rowC_succ]
        refine CutL.app ((ht5.kp0 k58).kp1 kk hD8) (.cons (h8.kp kk) ((hc7.kp k8 (fun q => nomatch q)).kp kk ?_) .nil)
        intro q
        have e := List.mem_singleton.mp q
        obtain ⟨dx', fs', e', _⟩ := (hc7.kp k8 (fun q => nomatch q)).ex
        rw [e, hD8] at e'
        cases e'
      · obtain ⟨k5, ws, hD5, ht5⟩ := pp
        have ht5 : CutL K one other box n H' ws (rowC m n) := ht5
        have hp5 : H' p = some (.lst vs) := k5.get hp3
        have l1 := ht.len
        have l2 := ht5.len
        rw [rowC_len] at l2
        have l3 : (cutsT n m).length ≤ 4 := by
          match m, hm2 with
          | 0, _ => simp [cutsT]
          | 1, _ => rw [cutsT_succ]; simp [cutsT, rowC_len]; exact n4
        refine ⟨p, D, vs, ws, rfl, rfl, hp5, hD5, small (by omega), ?_⟩
        have kk : Kp [p] H' (upd H' p (.lst (vs ++ ws))) := Kp.wr hp5 (fun xs z => by cases z) (List.mem_cons_self ..)
        refine ⟨(k3.trans k5).updn np (fun xs z => by rw [hp5] at z; cases z), ?_, ⟨_, rfl⟩, vs ++ ws, upd_same, ?_⟩
        · exact kk.tup b _ (k5.tup b _ hb3)
        · rw [cutsT_succ]
          exact ((ht.kp0 k5).kp1 kk hp5).app (ht5.kp1 kk hp5)
    · obtain ⟨k3, hb3, ⟨t, rfl⟩, vs, hp3, ht⟩ := pp
      exact ⟨_, rfl, q p H' vs np k3 hp3 ht⟩
end
end TB
namespace TB
open PySem PySem.Spec PyProof.Rows L2
def manyF (one other box : List Int) (n : Nat) (q : Nat × Nat) : Int := manyR (cutsR one other box n q.1 q.2)
def countL (one other box : List Int) (n : Nat) (l : List (Nat × Nat)) : Int := (l.map (manyF one other box n)).sum
def countF (one other box : List Int) (n : Nat) : Int := countL one other box n (cutsL n)
def cutGo (one other box : List Int) (n : Nat) : List (Nat × Nat) → Int → Option (List V)
  | [], _ => none
  | q :: l, left => if left < manyF one other box n q then some [.int (q.1 : Nat), .int (q.2 : Nat), .int (spotR (cutsR one other box n q.1 q.2) left)] else cutGo one other box n l (left - manyF one other box n q)
theorem cutGo_cons {one other box : List Int} {n : Nat} {q : Nat × Nat} {l : List (Nat × Nat)} {i : Int} : cutGo one other box n (q :: l) i = if i < manyF one other box n q then some [.int (q.1 : Nat), .int (q.2 : Nat), .int (spotR (cutsR one other box n q.1 q.2) i)] else cutGo one other box n l (i - manyF one other box n q) := rfl
/-- an int that is told in few signs -/
def Sm (i : Int) : Prop := -18446744073709551616 < i ∧ i < 18446744073709551616
theorem manyF_bd {one other box : List Int} {n : Nat} {q : Nat × Nat} (h1 : Sds n one) (h2 : Sds n other) (h3 : Sds n box) (hq : q.2 < n) : 0 ≤ manyF one other box n q ∧ manyF one other box n q ≤ 1048579 := by
  have b := cutsR_bd (f := q.1) h1 h2 h3 hq
  dsimp only at b
  unfold manyF manyR
  omega
theorem countL_bd {one other box : List Int} {n : Nat} (h1 : Sds n one) (h2 : Sds n other) (h3 : Sds n box) : ∀ {l : List (Nat × Nat)}, (∀ q ∈ l, q.2 < n) → 0 ≤ countL one other box n l ∧ countL one other box n l ≤ 1048579 * (l.length : Int)
  | [], _ => ⟨by simp [countL], by simp [countL]⟩
  | q :: l, h => by
    have a := manyF_bd h1 h2 h3 (h q (List.mem_cons_self ..))
    have b := countL_bd h1 h2 h3 (l := l) fun x hx => h x (List.mem_cons_of_mem _ hx)
    have e : countL one other box n (q :: l) = manyF one other box n q + countL one other box n l := by simp [countL]
    rw [e, List.length_cons]
    have : (1048579 : Int) * ((l.length + 1 : Nat) : Int) = 1048579 * (l.length : Int) + 1048579 := by
      rw [Int.natCast_add, Int.mul_add]; rfl
    omega
theorem cutsL_len (n : Nat) : (cutsL n).length = 2 * n := by rw [cutsL_eq]; simp [rowC_len]; omega
theorem countF_bd {one other box : List Int} {n : Nat} (h1 : Sds n one) (h2 : Sds n other) (h3 : Sds n box) (n4 : n ≤ 4) : 0 ≤ countF one other box n ∧ countF one other box n ≤ 8388632 := by
  have := countL_bd h1 h2 h3 (l := cutsL n) fun q hq => (cutsL_mem (f := q.1) (k := q.2) hq).2
  rw [cutsL_len] at this
  unfold countF
  omega
theorem cutGo_some {one other box : List Int} {n : Nat} (h1 : Sds n one) (h2 : Sds n other) (h3 : Sds n box) (n4 : n ≤ 4) : ∀ {l : List (Nat × Nat)} {i : Int}, (∀ q ∈ l, q.1 < 2 ∧ q.2 < n) → 0 ≤ i → i < countL one other box n l →
    ∃ a b c : Int, cutGo one other box n l i = some [.int a, .int b, .int c] ∧ Sm a ∧ Sm b ∧ Sm c
  | [], i, _, h0, h => by simp [countL] at h; omega
  | q :: l, i, hl, h0, h => by
    have e : countL one other box n (q :: l) = manyF one other box n q + countL one other box n l := by simp [countL]
    rw [e] at h
    have hq := hl q (List.mem_cons_self ..)
    unfold cutGo
    by_cases c : i < manyF one other box n q
    · rw [if_pos c]
      have b := cutsR_bd (f := q.1) h1 h2 h3 hq.2
      dsimp only at b
      refine ⟨_, _, _, rfl, ⟨by omega, by omega⟩, ⟨by omega, by omega⟩, ?_⟩
      unfold spotR
      split
      · exact ⟨by decide, by decide⟩
      · rename_i c1
        split
        · rename_i c2
          have m1 : 0 ≤ (cutsR one other box n q.1 q.2).step * (i - (cutsR one other box n q.1 q.2).ab) := Int.mul_nonneg (by omega) (by omega)
          have m2 : (cutsR one other box n q.1 q.2).step * (i - (cutsR one other box n q.1 q.2).ab) ≤ 1048576 * 1048576 * 1048577 := Int.mul_le_mul b.2.2.2.2.2.1 (by omega) (by omega) (by decide)
          exact ⟨by omega, by omega⟩
        · exact ⟨by omega, by omega⟩
    · rw [if_neg c]
      exact cutGo_some h1 h2 h3 n4 (fun x hx => hl x (List.mem_cons_of_mem _ hx)) (by omega) (by omega)
section
variable {P : Program} {w : World} {K : PySem.W.Frag} {mg : Str → Option Value} {base : Heap}
theorem sc_count_cuts : FnScope ["pair", "box", "first", "axis", "cuts"] ["pair", "box"] (defScope s_count_cuts) := ⟨rfl, rfl, rfl, by decide +kernel, rfl, by decide +kernel, by decide +kernel⟩
def sp_count_cuts : Sp := fun vs H Q _ => ∃ (u v : V) (n : Nat) (one other box : List Int), vs = [u, v] ∧ TP2 H u one other ∧ Ti H v box ∧ Sds n one ∧ Sds n other ∧ Sds n box ∧ n ≤ 4 ∧ ∀ H', Kp [] H H' → Q (.int (countF one other box n)) H'
theorem ok_count_cuts (T : TX w K mg) : FnR P w K mg base CX0 6 (a_count_cuts K) sp_count_cuts :=
  fnr0 (f_count_cuts T) sc_count_cuts (fun vs H Q E ⟨_, _, _, _, _, _, e, _⟩ => by rw [e]; rfl) (fun _ _ _ _ _ _ us hl => match us, hl with | [_, _], _ => rfl) fun cdv A outer s H vs Q E hr h => by
    obtain ⟨u, v, n, one, other, box, rfl, hu, hv, h1, h2, h3, n4, q⟩ := h
    have nd := sc_count_cuts.nd
    refine ⟨_, pss_one (ps_ret (pe_callB (cr_sum rfl) (by rfl) (n_sum T) b_sum (pa_cons
      (pe_lc (own := [("first", 2), ("axis", 3), ("cuts", 4)]) rfl nd (pi_list (pe_f (ok_all_cuts T) (g_all_cuts T) (kp_all_cuts T) hr (pa_cons (pv 0) (pa_cons (pv 1) pa_nil)))) (blkOk_by (N := ["pair", "box", "first", "axis", "cuts"]) (sc := defScope s_count_cuts) (by decide +kernel))
        (fun _ _ _ _ _ => pg_tupU (n := 3) rfl (pgs_cons (pg_name (i := 2) nd rfl (Or.inl rfl)) (pgs_cons (pg_name (i := 3) nd rfl (Or.inl rfl)) (pgs_cons (pg_name (i := 4) nd rfl (Or.inl rfl)) pgs_nil))))
        (fun _ _ _ _ _ => pts_nil) (fun _ _ _ _ _ => pe_m0 (pv 4) (cl_Cuts T) (me_Cuts_many T) (ok_many T) hr)) pa_nil))), ?_⟩
    refine ⟨_, rfl, _, rfl, u, v, n, one, other, box, rfl, hu, hv, h1, h2, h3, n4, fun p H1 vs np k1 hp ht => ?_⟩
    refine ⟨p, rfl, ⟨_, SqL.of hp⟩, fun D hD => ?_⟩
    have hl := ht.len
    have l8 := cutsL_len n
    refine lcP walk_list [] (fun i => (((cutsL n).take i).map (manyF one other box n)).map V.int) hD rfl (fun i H' p => SqL.of (p.1.get hp)) (fun i z H2 H2' hi pp yy => ?_) fun H' pp => ?_
    · obtain ⟨k2, hD2⟩ := pp
      obtain ⟨rfl, hz⟩ := yy
      obtain ⟨f, k, c, hlk, htu, hc⟩ := ht.get hz
      obtain ⟨dx, fs, e, r1, r2, r3, r4, r5, r6, r7, r8, r9⟩ := (hc.kp k2 (fun q => nomatch q)).ex
      refine ⟨_, htu.kp k2, rfl, _, _, rfl, _, _, rfl, _, _, rfl, rfl, rfl, tYesI ?_⟩
      refine ⟨_, rfl, c, dx, fs, rfl, e, r8, c, _, rfl, hc.kp k2 (fun q => nomatch q), ?_⟩
      refine lcAdd hD k2 hD2 ?_ ?_
      · simp only [List.length_map, List.length_take]; omega
      · rw [take_succ' hlk]; simp [manyF]
    · obtain ⟨k2, hD2⟩ := pp
      have hD2 : H' D = some (.lst ((((cutsL n).take vs.length).map (manyF one other box n)).map V.int)) := hD2
      rw [hl, List.take_length] at hD2
      exact ⟨D, _, rfl, SqL.of hD2, q _ (k1.trans k2)⟩
theorem sc_cut_at : FnScope ["pair", "box", "number", "left", "found", "first", "axis", "cuts", "many"] ["pair", "box", "number"] (defScope s_cut_at) := ⟨rfl, rfl, rfl, by decide +kernel, rfl, by decide +kernel, by decide +kernel⟩
def sp_cut_at : Sp := fun vs H Q _ => ∃ (u v : V) (n : Nat) (i : Int) (one other box : List Int), vs = [u, v, .int i] ∧ TP2 H u one other ∧ Ti H v box ∧ Sds n one ∧ Sds n other ∧ Sds n box ∧ n ≤ 4 ∧ 0 ≤ i ∧ i < countF one other box n ∧
  ∀ r H' xs, Kp [] H H' → cutGo one other box n (cutsL n) i = some xs → Tu H' r xs → Q r H'
theorem ok_cut_at (T : TX w K mg) : FnR P w K mg base CX0 7 (a_cut_at K) sp_cut_at :=
  fnr0 (f_cut_at T) sc_cut_at (fun vs H Q E ⟨_, _, _, _, _, _, _, e, _⟩ => by rw [e]; rfl) (fun _ _ _ _ _ _ us hl => match us, hl with | [_, _, _], _ => rfl) fun cdv A outer s H vs Q E hr h => by
    obtain ⟨u, v, n, i0, one, other, box, rfl, hu, hv, h1, h2, h3, n4, i1, i2, q⟩ := h
    have nd := sc_cut_at.nd
    refine ⟨_, pss_cons (ps_if (pt_not (pt_val (pe_f (ok_is_integer T) (g_is_integer T) (kp_is_integer T) hr (pa_cons (pv 2) (pa_cons pe_int (pa_cons (pe_op op_sub (pe_f (ok_count_cuts T) (g_count_cuts T) (kp_count_cuts T) hr (pa_cons (pv 0) (pa_cons (pv 1) pa_nil))) pe_int) pa_nil)))))) pss_never pss_nil)
      (pss_cons (ps_par (i := 3) (j := 4) rfl nd rfl rfl (by decide) rfl rfl (pa_cons (pv 2) (pa_cons pe_non pa_nil)) (by rfl))
      (pss_cons (ps_for PassesOwn.never rfl (pi_list (pe_f (ok_all_cuts T) (g_all_cuts T) (kp_all_cuts T) hr (pa_cons (pv 0) (pa_cons (pv 1) pa_nil))))
        (pg_tupU (n := 3) rfl (pgs_cons (pg_name (i := 5) nd rfl (Or.inl rfl)) (pgs_cons (pg_name (i := 6) nd rfl (Or.inl rfl)) (pgs_cons (pg_name (i := 7) nd rfl (Or.inl rfl)) pgs_nil))))
        (pss_cons (ps_set (i := 8) nd rfl (Or.inl rfl) (pe_m0 (pv 7) (cl_Cuts T) (me_Cuts_many T) (ok_many T) hr))
        (pss_cons (ps_if (PW.pt (pw_and (pt_cmpR op_isN (pv 4) pe_non (nomark _)) (pw_and1 (pt_cmpR op_lt (pv 3) (pv 8) (nomark _)))))
          (pss_one (ps_set (i := 4) nd rfl (Or.inl rfl) (pe_tupU (pa_cons (pv 5) (pa_cons (pv 6) (pa_cons (pe_m (pv 7) (cl_Cuts T) (me_Cuts_spot T) (ok_spot T) hr (pa_cons (pv 3) pa_nil)) pa_nil)))))) pss_nil)
        (pss_one (ps_aug (i := 3) nd rfl (Or.inl rfl) (pv 8) ip_sub)))))
      (pss_one (ps_ret (pv 4))))), ?_⟩
    refine ⟨_, rfl, _, rfl, _, rfl, u, v, n, one, other, box, rfl, hu, hv, h1, h2, h3, n4, fun H1 k1 => ?_⟩
    refine ⟨_, _, rfl, rfl, i0, 0, _, rfl, _, rfl, ?_⟩
    rw [show decide ((0 : Int) ≤ i0 ∧ i0 ≤ countF one other box n - 1) = true from decide_eq_true ⟨i1, by omega⟩]
    refine iteF ⟨_, rfl, _, _, rfl, ?_⟩
    refine ⟨_, rfl, _, rfl, u, v, n, one, other, box, rfl, hu.kp k1, hv.kp k1, h1, h2, h3, n4, fun p H2 vs np k2 hp ht => ?_⟩
    refine ⟨p, rfl, ⟨_, SqL.of hp⟩, ?_⟩
    have hl := ht.len
    have ml : ∀ x ∈ cutsL n, x.1 < 2 ∧ x.2 < n := fun x hx => cutsL_mem (f := x.1) (k := x.2) hx
    obtain ⟨xa, xb, xc, ex, _⟩ := cutGo_some h1 h2 h3 n4 ml i1 i2
    refine for_P walk_list (fun i σ H' => Kp [] H2 H' ∧ ∃ (left : Int) (fo t5 t6 t7 t8 : _), σ = [some u, some v, some (.int i0), some (.int left), some fo, t5, t6, t7, t8] ∧ ((fo = .non ∧ cutGo one other box n (cutsL n) i0 = cutGo one other box n ((cutsL n).drop i) left) ∨ Tu H' fo [.int xa, .int xb, .int xc]))
      ⟨.refl, _, _, _, _, _, _, rfl, .inl ⟨rfl, rfl⟩⟩ (fun i σ H' _ p => SqL.of (p.1.get hp)) (fun i z σ H3 H3' hi pp yy => ?_) fun σ H' pp => ?_
    · obtain ⟨k3, left, fo, t5, t6, t7, t8, rfl, hfo⟩ := pp
      obtain ⟨rfl, hz⟩ := yy
      obtain ⟨f, k, c, hlk, htu, hc⟩ := ht.get hz
      have hc3 := hc.kp k3 (fun q => nomatch q)
      have hmem := ml _ (List.mem_of_getElem? hlk)
      have bd := cutsR_bd (f := f) h1 h2 h3 hmem.2
      obtain ⟨dx, fs, e, r1, r2, r3, r4, r5, r6, r7, r8, r9⟩ := hc3.ex
      have hdr : (cutsL n).drop i = (f, k) :: (cutsL n).drop (i + 1) := by
        obtain ⟨hh, e'⟩ := List.getElem?_eq_some_iff.mp hlk
        rw [List.drop_eq_getElem_cons hh, e']
      refine ⟨_, htu.kp k3, rfl, _, _, rfl, _, _, rfl, _, _, rfl, rfl, ?_⟩
      refine ⟨_, rfl, c, dx, fs, rfl, e, r8, c, _, rfl, hc3, ?_⟩
      refine ⟨_, rfl, rfl, _, rfl, ?_⟩
      rcases hfo with ⟨rfl, hgo⟩ | hfo
      · refine iteT ⟨_, rfl, _, rfl, _, _, rfl, rfl, _, rfl, ?_⟩
        rw [hdr, ex, cutGo_cons] at hgo
        by_cases c1 : left < manyR (cutsR one other box n f k)
        · have c1' : left < manyF one other box n (f, k) := c1
          rw [if_pos c1'] at hgo
          simp only [Option.some.injEq, List.cons.injEq, V.int.injEq, and_true] at hgo
          obtain ⟨e1, e2, e3⟩ := hgo
          refine (if_pos (decide_eq_true c1)).mpr ⟨_, rfl, _, rfl, _, rfl, c, dx, fs, rfl, e, r9, _, rfl, c, _, left, rfl, hc3, bd.2.2.2.2.1, bd.2.2.2.2.2.1, ?_⟩
          refine ⟨Nat.le_of_ble_eq_true rfl, fun v4 H4 k4 h4 => ?_⟩
          refine ⟨_, rfl, _, rfl, _, _, rfl, rfl, k3.trans k4, _, _, _, _, _, _, rfl, .inr ?_⟩
          rw [e1, e2, e3]
          exact h4
        · have c1' : ¬ left < manyF one other box n (f, k) := c1
          rw [if_neg c1'] at hgo
          refine (if_neg (fun z => c1 (of_decide_eq_true z))).mpr ?_
          exact ⟨_, rfl, _, rfl, _, _, rfl, rfl, k3, _, _, _, _, _, _, rfl, .inl ⟨rfl, ex.trans hgo⟩⟩
      · have hne := hfo.ne
        rw [show decide (fo = V.non) = false from decide_eq_false hne]
        refine iteF (iteF ?_)
        exact ⟨_, rfl, _, rfl, _, _, rfl, rfl, k3, _, _, _, _, _, _, rfl, .inr hfo⟩
    · obtain ⟨k3, left, fo, t5, t6, t7, t8, rfl, hfo⟩ := pp
      rcases hfo with ⟨rfl, hgo⟩ | hfo
      · rw [hl, List.drop_length, ex] at hgo
        cases hgo
      · exact ⟨_, rfl, q _ _ _ ((k1.trans k2).trans k3) ex hfo⟩
end
end TB
namespace TB
open PySem PySem.Spec PyProof.Rows L2
/-! ### match: what a pattern binds, the cases -/
def RelB (ns : List Str) : Option (List V) → Option (List (Str × Value)) → Prop
  | none, none => True
  | some vs, some bs => bs.map (·.1) = ns ∧ Vals vs (bs.map (·.2))
  | _, _ => False
abbrev TPt := V → L2.St → Hp → (Option (List V) → Hp → Prop) → Prop
abbrev TPs := List V → L2.St → Hp → (Option (List V) → Hp → Prop) → Prop
structure PP (X : Cx) (p : Pattern) (ns : List Str) (t : TPt) : Prop where
  run : ∀ (pins : List (Addr × Obj)) (s : Shared) (σ : L2.St) (H : Hp) (v : V) (u : Value) (Q : Option (List V) → Hp → Prop), Inv X pins σ H s → RelV v u → t v σ H Q →
    wpAny (model X.prog X.w) X.A (matchPattern p X.env u) (fun r s' => ∃ r' H', Inv X pins σ H' s' ∧ RelB ns r' r ∧ Q r' H') X.xe s
structure PPs (X : Cx) (ps : List Pattern) (ns : List Str) (t : TPs) : Prop where
  run : ∀ (pins : List (Addr × Obj)) (s : Shared) (σ : L2.St) (H : Hp) (vs : List V) (us : List Value) (Q : Option (List V) → Hp → Prop), Inv X pins σ H s → Vals vs us → t vs σ H Q →
    wpAny (model X.prog X.w) X.A (matchEach ps X.env us) (fun r s' => ∃ r' H', Inv X pins σ H' s' ∧ RelB ns r' r ∧ Q r' H') X.xe s
structure PB (X : Cx) (ns : List Str) (t : TGs) : Prop where
  run : ∀ (pins : List (Addr × Obj)) (s : Shared) (σ : L2.St) (H : Hp) (vs : List V) (us : List Value) (Q : L2.St → Hp → Prop), Inv X pins σ H s → Vals vs us → t vs σ H Q →
    wpAny (model X.prog X.w) X.A (assignInOrder (ns.map (bindName X.env)) us) (fun _ s' => ∃ σ' H', Inv X pins σ' H' s' ∧ Q σ' H') X.xe s
structure PM (X : Cx) (cs : List MatchCase) (t : V → TS) : Prop where
  run : ∀ (pins : List (Addr × Obj)) (s : Shared) (σ : L2.St) (H : Hp) (v : V) (u : Value) (D : Ends) (first : Bool), Inv X pins σ H s → RelV v u → t v D σ H →
    wpAny (model X.prog X.w) X.A (matchCases cs X.env u first) (SP X pins D) X.xe s
theorem vals_app {xs ys : List V} {us ws : List Value} (h : Vals xs us) (k : Vals ys ws) : Vals (xs ++ ys) (us ++ ws) := by
  induction h with
  | nil => exact k
  | cons r _ ih => exact .cons r ih
section
variable {X : Cx} {pos : Pos}
theorem pb_nil : PB X [] gNil := by
  refine ⟨fun pins s σ H vs us Q I r h => ?_⟩
  obtain ⟨e, h⟩ := h
  subst e
  cases r
  exact assignInOrder_nil ⟨σ, H, I, h⟩
theorem pb_cons {i : Nat} {x : Str} {ns : List Str} {t : TGs} (hN : X.N.Nodup) (hi : X.N[i]? = some x) (hx : Loc X.env.scope x) (h2 : PB X ns t) (hf : X.fn x = true ∨ X.env.scope.names.lookup x = some .local := by first | exact .inl rfl | exact .inr rfl | assumption) : PB X (x :: ns) (gCons (gName i) t) := by
  refine ⟨fun pins s σ H vs us Q I r h => ?_⟩
  obtain ⟨v, vr, e1, h⟩ := h
  subst e1
  cases r with
  | cons r rr => exact assignInOrder_cons (wpAny_bindName (store_ok I hN hi hx r (fun s' I' => h2.run pins s' _ H _ _ _ I' rr h) hf))
def mNil : V → TS := fun _ D σ H => D.nx σ H
def mCons (tp : TPt) (tg : TGs) (tb : TS) (tr : V → TS) : V → TS := fun v D σ H => tp v σ H fun r H1 => match r with
  | none => tr v D σ H1
  | some vs => tg vs σ H1 (tb D)
theorem pm_nil : PM X [] mNil := ⟨fun pins s σ H v u D first I r h => wpAny_matchCases_nil ⟨σ, H, I, h⟩⟩
theorem pm_cons {p : Pattern} {body : List Stmt} {rest : List MatchCase} {ns : List Str} {tp : TPt} {tg : TGs} {tb : TS} {tr : V → TS} (hp : PP X p ns tp) (hg : PB X ns tg) (hb : PSs X body tb) (hr : PM X rest tr) : PM X (⟨p, none, body⟩ :: rest) (mCons tp tg tb tr) := by
  refine ⟨fun pins s σ H v u D first I r h => wpAny_matchCases_cons (thn (hp.run pins s σ H v u _ I r h) fun r1 s1 ⟨r', H1, I1, rb, q⟩ => ?_)⟩
  match r', r1, rb with
  | none, none, _ => exact hr.run pins s1 σ H1 v u D false I1 r q
  | some vs, some bs, ⟨e, vv⟩ =>
    have en : (bs.map fun (n, _) => bindName X.env n) = ns.map (bindName X.env) := by rw [← e, List.map_map]; rfl
    show wpAny _ _ (assignInOrder (bs.map fun (n, _) => bindName X.env n) (bs.map (·.2))) _ _ _
    rw [en]
    exact thn (hg.run pins s1 σ H1 vs _ _ I1 vv q) fun _ s2 ⟨σ2, H2, I2, q2⟩ => hb.run pins s2 σ2 H2 D I2 q2
def tMat (te : TE) (tm : V → TS) : TS := fun D σ H => te σ H fun v H1 => tm v D σ H1
theorem ps_match {e : Expr} {cs : List MatchCase} {te : TE} {tm : V → TS} (he : PE X e te) (hm : PM X cs tm) : PS X (.Match e cs pos) (tMat te tm) :=
  ⟨fun pins s σ H D I h => wpAny_Match (thn (he.run pins s σ H _ I h) fun u s1 ⟨v, H1, I1, r, q⟩ => hm.run pins s1 σ H1 v u D true I1 r q)⟩
/-- case value -/
def pVal (te : TE) : TPt := fun v σ H Q => te σ H fun x H1 => scal v x = true ∧ Q (if v = x then some [] else none) H1
theorem pp_val {e : Expr} {te : TE} (he : PE X e te) : PP X (.MatchValue e pos) [] (pVal te) := by
  refine ⟨fun pins s σ H v u Q I r h => wpAny_matchPattern_Value (thn (he.run pins s σ H _ I h) fun w s1 ⟨x, H1, I1, rx, hs, q⟩ => ?_)⟩
  refine thn (op_eq pins s1 σ H1 v x u w (fun y H' => y = .bl (decide (v = x)) ∧ H' = H1) I1 r rx ⟨hs, rfl, rfl⟩) fun c s2 ⟨y, H2, I2, ry, e1, e2⟩ => ?_
  subst e1 e2
  obtain rfl : c = .bool (decide (v = x)) := ry
  refine wpAny_truthy_bool ?_
  by_cases z : v = x
  · rw [decide_eq_true z, if_pos rfl]; rw [if_pos z] at q; exact ⟨some [], _, I2, ⟨rfl, .nil⟩, q⟩
  · rw [decide_eq_false z, if_neg (by decide)]; rw [if_neg z] at q; exact ⟨none, _, I2, trivial, q⟩
/-- case _ -/
def pAny : TPt := fun _ _ H Q => Q (some []) H
theorem pp_any : PP X (.MatchAs none none pos) [] pAny := ⟨fun pins s σ H v u Q I r h => wpAny_matchPattern_Capture ⟨some [], H, I, ⟨rfl, .nil⟩, h⟩⟩
/-- case x -/
def pCap : TPt := fun v _ H Q => Q (some [v]) H
theorem pp_cap {x : Str} : PP X (.MatchAs none (some x) pos) [x] pCap := ⟨fun pins s σ H v u Q I r h => wpAny_matchPattern_Capture ⟨some [v], H, I, ⟨rfl, .cons r .nil⟩, h⟩⟩
/-- case a | b | .. of values -/
def pOrs : List TPt → TPt
  | [] => fun _ _ H Q => Q none H
  | t :: ts => fun v σ H Q => t v σ H fun r H1 => match r with | some bs => Q (some bs) H1 | none => pOrs ts v σ H1 Q
inductive POs (X : Cx) : List Pattern → List TPt → Prop
  | nil : POs X [] []
  | cons {p : Pattern} {t : TPt} {ps : List Pattern} {ts : List TPt} (h : PP X p [] t) (r : POs X ps ts) : POs X (p :: ps) (t :: ts)
theorem POs.run {ps : List Pattern} {ts : List TPt} (h : POs X ps ts) : ∀ (pins : List (Addr × Obj)) (s : Shared) (σ : L2.St) (H : Hp) (v : V) (u : Value) (Q : Option (List V) → Hp → Prop), Inv X pins σ H s → RelV v u → pOrs ts v σ H Q →
    wpAny (model X.prog X.w) X.A (matchFirst ps X.env u) (fun r s' => ∃ r' H', Inv X pins σ H' s' ∧ RelB [] r' r ∧ Q r' H') X.xe s := by
  induction h with
  | nil => exact fun pins s σ H v u Q I r h => wpAny_matchFirst_nil ⟨none, H, I, trivial, h⟩
  | cons h _ ih =>
    refine fun pins s σ H v u Q I r hh => wpAny_matchFirst_cons (thn (h.run pins s σ H v u _ I r hh) fun r1 s1 ⟨r', H1, I1, rb, q⟩ => ?_)
    match r', r1, rb with
    | none, none, _ => exact ih pins s1 σ H1 v u Q I1 r q
    | some vs, some bs, rb => exact ⟨_, H1, I1, rb, q⟩
theorem pp_or {ps : List Pattern} {ts : List TPt} (h : POs X ps ts) (hn : namesOfAll (ps.take 1) = [] := by rfl) : PP X (.MatchOr ps pos) [] (pOrs ts) := by
  refine ⟨fun pins s σ H v u Q I r hh => wpAny_matchPattern_Or (thn (h.run pins s σ H v u Q I r hh) fun r1 s1 ⟨r', H1, I1, rb, q⟩ => ?_)⟩
  match r', r1, rb with
  | none, none, _ => exact ⟨none, H1, I1, trivial, q⟩
  | some vs, some bs, ⟨e, vv⟩ =>
    have z : bs = [] := List.map_eq_nil_iff.mp e
    subst z
    cases vv
    rw [hn]
    exact ⟨some [], H1, I1, ⟨rfl, .nil⟩, q⟩
/-- case (p, q, ..) of a tuple -/
def psNil : TPs := fun vs _ H Q => vs = [] ∧ Q (some []) H
def psCons (t : TPt) (ts : TPs) : TPs := fun vs σ H Q => ∃ v r, vs = v :: r ∧ t v σ H fun a H1 => match a with
  | none => Q none H1
  | some xs => ts r σ H1 fun b H2 => match b with
    | none => Q none H2
    | some ys => Q (some (xs ++ ys)) H2
theorem pps_nil : PPs X [] [] psNil := by
  refine ⟨fun pins s σ H vs us Q I r h => ?_⟩
  obtain ⟨e, h⟩ := h
  subst e
  cases r
  exact wpAny_matchEach_nil ⟨some [], H, I, ⟨rfl, .nil⟩, h⟩
theorem pps_cons {p : Pattern} {ps : List Pattern} {n ns : List Str} {t : TPt} {ts : TPs} (hp : PP X p n t) (hr : PPs X ps ns ts) (hs : p.isStar = false := by rfl) : PPs X (p :: ps) (n ++ ns) (psCons t ts) := by
  refine ⟨fun pins s σ H vs us Q I r h => ?_⟩
  obtain ⟨v, vr, e1, h⟩ := h
  subst e1
  cases r with
  | cons r rr =>
    refine wpAny_matchEach_cons (thn (hp.run pins s σ H _ _ _ I r h) fun r1 s1 ⟨r', H1, I1, rb, q⟩ => ?_) hs
    match r', r1, rb with
    | none, none, _ => exact ⟨none, H1, I1, trivial, q⟩
    | some xs, some bs, ⟨e, vv⟩ =>
      refine thn (hr.run pins s1 σ H1 _ _ _ I1 rr q) fun r2 s2 ⟨r'', H2, I2, rb2, q2⟩ => ?_
      match r'', r2, rb2 with
      | none, none, _ => exact ⟨none, H2, I2, trivial, q2⟩
      | some ys, some cs, ⟨e2, vv2⟩ => exact ⟨some (xs ++ ys), H2, I2, ⟨by rw [List.map_append, e, e2], by rw [List.map_append]; exact vals_app vv vv2⟩, q2⟩
def pSeq (n : Nat) (ts : TPs) : TPt := fun v σ H Q => ∃ xs, Tu H v xs ∧ if xs.length = n then ts xs σ H Q else Q none H
theorem pp_seq {ps : List Pattern} {ns : List Str} {ts : TPs} {n : Nat} (hc : X.calm = true) (h : PPs X ps ns ts) (hn : ps.length = n := by rfl) (hstar : ps.findIdx? (·.isStar) = none := by rfl)
    (hwild : (ps.all fun p => p.isWildcard || (p.isStar && p.names.isEmpty)) = false := by rfl) : PP X (.MatchSequence ps pos) ns (pSeq n ts) := by
  refine ⟨fun pins s σ H v u Q I r hh => ?_⟩
  obtain ⟨xs, ⟨a, rfl, ha⟩, q⟩ := hh
  obtain rfl : u = Value.ref a := r
  obtain ⟨its, rv, p', hz⟩ := I.tuple (SqT.of ha)
  have hl := rv.length
  have hfit : ((its.toArray.size : Nat) : Int) < 2 ^ 63 := Int.lt_of_le_of_lt (b := ((sizeLine : Nat) : Int)) (by simp; omega) (by decide)
  subst hn
  by_cases z : xs.length = ps.length
  · rw [if_pos z] at q
    have hzz : its.toArray.size = ps.length := by simp [← hl, z]
    refine matchSeq_tuple_hit p' hfit hzz ?_ hstar hwild
    rw [← hzz]
    refine unpackItems_tuple (s := { s with toks := s.toks + 1 + 1 }) (I.ok.hd hc) p' fun h' hx => ?_
    have I1 : Inv X pins σ H { s with heap := h', toks := s.toks + 1 + 1 } := I.kept (t' := s.toks + 1 + 1) fun b o e => hx b o (Nat.ne_of_lt (Heap.lt_size e)) e
    exact h.run pins _ σ H xs _ Q I1 (by simpa using rv) q
  · rw [if_neg z] at q
    refine matchSeq_tuple_miss p' hfit (by simp [← hl, z]) ?_ hstar hwild
    have I1 : Inv X pins σ H { s with heap := s.heap, toks := s.toks + 1 + 1 } := I.kept (t' := s.toks + 1 + 1) fun b o e => e
    exact ⟨none, H, I1, trivial, q⟩
end
end TB
namespace TB
open PySem PySem.Spec PyProof.Rows L2
/-! ### a def by its body, its code object told -/
theorem fnrC {P : Program} {w : World} {K : PySem.W.Frag} {mg : Str → Option Value} {base : Heap} {x qual : Str} {st : Stmt} {p : He.Defn} {N ps : List Str} {k : Nat} {sp : Sp}
    (F : ∃ fd, FunD K x qual (defArgs st) (defBody st) (defScope st) [] [] (He.fAd K p) fd) (S : FnScope N ps (defScope st)) (len : ∀ vs H Q E, sp vs H Q E → vs.length = ps.length)
    (hb : ∀ (kV doc pm : Value) (an : Option Addr) (cdv ct : Value) (us : List Value), us.length = ps.length → bindArgs (PySem.W.fnOf x qual (defArgs st) (defBody st) (defScope st) .none kV doc pm an cdv ct) ⟨us, []⟩ = pure (ps.zip us))
    (hbody : ∀ (A : Around) (outer : List Env) (s : Shared) (H : Hp) (vs : List V) (Q : VK) (E : XK), Room k (A.deeper (envOfC qual (defScope st) s.heap.objs.size (He.fAd K p) (.ref (He.codeOf K p)))) → sp vs H Q E →
      ∃ t, PSs (cxOf CX0 P w K mg base N qual (defScope st) (He.fAd K p) (.ref (He.codeOf K p)) A outer s H E).nox (defBody st) t ∧ t { nx := fun _ H' => Q .non H', rt := Q } (start N vs) H) : FnR P w K mg base CX0 (k + 1) (He.fAd K p) sp := by
  obtain ⟨fd, F⟩ := F
  have hB := F.bindsN hb
  obtain ⟨oc, od, dV, kV, doc, pm, an, cdv, ct, osl, rfl, lk, hcd, _, _⟩ := F.ex
  obtain ⟨c, rfl⟩ := He.codeIn_ref hcd
  have ec : He.codeOf K p = c := He.codeOf_eq lk rfl
  have G := fn_of (P := P) (w := w) (mg := mg) (base := base) (CX := CX0) lk hcd S len fun A outer s H vs Q E hr hsp => by
    rw [ec] at hbody
    obtain ⟨t, a, b⟩ := hbody A outer s H vs Q E hr hsp
    exact ⟨t, PSs.nox a, b⟩
  have G2 := FnOk.raw G hB .nil
  exact fun A outer s H us vs Q E hr he rv h => G2 A outer s H us vs Q E hr he rv (by show sp (vs ++ []) H Q E; rw [List.append_nil]; exact h)
/-- the same of a very state -/
theorem fn_at {P : Program} {w : World} {K : PySem.W.Frag} {mg : Str → Option Value} {base : Heap} {x qual : Str} {st : Stmt} {f : Addr} {N ps : List Str} {k : Nat}
    (F : ∃ fd, FunD K x qual (defArgs st) (defBody st) (defScope st) [] [] f fd) (S : FnScope N ps (defScope st))
    (hb : ∀ (kV doc pm : Value) (an : Option Addr) (cdv ct : Value) (us : List Value), us.length = ps.length → bindArgs (PySem.W.fnOf x qual (defArgs st) (defBody st) (defScope st) .none kV doc pm an cdv ct) ⟨us, []⟩ = pure (ps.zip us))
    {A : Around} {outer : List Env} {s : Shared} {H : Hp} {us : List Value} {vs : List V} {Q : VK} {E : XK} (hr : Room (k + 1) A) (e0 : Env0 P w K mg base A outer s H) (r : Vals vs us) (hl : vs.length = ps.length)
    (hbody : ∀ cdv : Value, Room k (A.deeper (envOfC qual (defScope st) s.heap.objs.size f cdv)) → ∃ t, PSs (cxOf CX0 P w K mg base N qual (defScope st) f cdv A outer s H E).nox (defBody st) t ∧ t { nx := fun _ H' => Q .non H', rt := Q } (start N vs) H) :
    codeAny (model P w) A (.call (.ref f) ⟨us, []⟩) (CR CX0 outer P w H s Q E) s := by
  obtain ⟨fd, F⟩ := F
  have hB := F.bindsA hb s us (r.length.symm.trans hl)
  obtain ⟨oc, od, dV, kV, doc, pm, an, cdv, ct, osl, rfl, lk, hcd, _, _⟩ := F.ex
  exact LamX.run_ofS (CX := CX0) lk hcd S hr e0 hB r hl fun h => let ⟨t, a, b⟩ := hbody cdv h; ⟨t, PSs.nox a, b⟩
/-! ### the heap kept, but for some addresses and for tables of code objects -/
structure KT (S : List Addr) (H H' : Hp) : Prop where
  old : ∀ a o, H a = some o → a ∉ S → (∀ ps, o ≠ .tbl ps) → H' a = some o
  tup : ∀ a xs, H a = some (.tup xs) → H' a = some (.tup xs)
theorem Kp.kt {S : List Addr} {H H' : Hp} (k : Kp S H H') : KT S H H' := ⟨fun a o h n _ => k.old a o h n, k.tup⟩
theorem KT.refl {S : List Addr} {H : Hp} : KT S H H := ⟨fun _ _ h _ _ => h, fun _ _ h => h⟩
theorem KT.trans {S : List Addr} {H H1 H2 : Hp} (a : KT S H H1) (b : KT S H1 H2) : KT S H H2 := ⟨fun x o h n t => b.old x o (a.old x o h n t) n t, fun x xs h => b.tup x xs (a.tup x xs h)⟩
theorem KT.mono {S S' : List Addr} {H H' : Hp} (a : KT S H H') (h : ∀ x ∈ S, x ∈ S') : KT S' H H' := ⟨fun x o e n t => a.old x o e (fun q => n (h x q)) t, a.tup⟩
theorem KT.nil {S : List Addr} {H H' : Hp} (a : KT [] H H') : KT S H H' := a.mono fun _ h => nomatch h
theorem Tu.kt {S : List Addr} {H H' : Hp} {v : V} {xs : List V} (h : Tu H v xs) (k : KT S H H') : Tu H' v xs := let ⟨a, e, h⟩ := h; ⟨a, e, k.tup a xs h⟩
theorem TP2.kt {S : List Addr} {H H' : Hp} {v : V} {a b : List Int} (h : TP2 H v a b) (k : KT S H H') : TP2 H' v a b := let ⟨x, y, h1, h2, h3⟩ := h; ⟨x, y, h1.kt k, h2.kt k, h3.kt k⟩
theorem Ls.kt {H H' : Hp} {v : V} {xs : List V} (h : Ls H v xs) (k : KT [] H H') : Ls H' v xs := let ⟨a, e, h⟩ := h; ⟨a, e, k.old a _ h (fun q => nomatch q) (fun _ z => nomatch z)⟩
theorem KT.ofN {H H' : Hp} (e : LamX.ExtN H H') : KT [] H H' := ⟨fun a o h _ t => e a o h t, fun a xs h => e a _ h fun _ z => nomatch z⟩
/-! ### the table of sum_at's code object -/
def lamQ : Str := "sum_at.<locals>.<lambda>"
abbrev tbP (K : PySem.W.Frag) : Addr := (He.cT K ("sum_at", none)).2
def TbI (K : PySem.W.Frag) (H : Hp) : Prop := LamX.TabS H (tbP K) lamQ
theorem TbI.kp {K : PySem.W.Frag} {S : List Addr} {H H' : Hp} (t : TbI K H) (k : Kp S H H') (hS : ∀ a ∈ S, ∃ C dx fs, H a = some (.ins C dx fs)) : TbI K H' := by
  obtain ⟨ps, h1, h2, h3⟩ := t
  have out : ∀ a o, H a = some o → (∀ C dx fs, o ≠ .ins C dx fs) → H' a = some o := fun a o e n => k.old a o e fun m => by
    obtain ⟨C, dx, fs, z⟩ := hS a m
    rw [e] at z
    exact n _ _ _ (Option.some.inj z)
  refine ⟨ps, out _ _ h1 (fun _ _ _ z => nomatch z), h2, fun pos cv hc => ?_⟩
  obtain ⟨c, e1, e2⟩ := h3 pos cv hc
  exact ⟨c, e1, out _ _ e2 fun _ _ _ z => by unfold LamX.CodeO at z; cases z⟩
theorem TbI.kp0 {K : PySem.W.Frag} {H H' : Hp} (t : TbI K H) (k : Kp [] H H') : TbI K H' := t.kp k fun _ q => nomatch q
/-! ### a lambda's run -/
section
variable {P : Program} {w : World} {K : PySem.W.Frag} {mg : Str → Option Value} {base : Heap} {CX : CXT}
open NdefX in
theorem lam_run {N ps fr : List Str} {scope : Scope} {params : Arguments} {body : PySem.Expr} {q : Str} {cl : List (Str × Addr)} {pm ctv : Value} {c f : Addr} {sl : Array (Option Value)} {k : Nat} {A : Around} {outer : List Env} {s : Shared} {H : Hp} {us : List Value} {vs : List V} {ws : List (Option V)} {Q : VK} {E : XK}
    (S : NScope N ps fr scope) (hb : bindArgs (PySem.W.kla_fn "<lambda>" q params body scope cl pm (.ref c) ctv) ⟨us, []⟩ = pure (ps.zip us)) (hl : vs.length = ps.length) (hr : Room (k + 1) A) (e0 : Env0 P w K mg base A outer s H)
    (hf : s.heap.get? f = some { PySem.W.kla_obj "<lambda>" q params body scope cl pm c ctv with slots := sl }) (hc : H c = some (LamX.CodeO c q)) (C : CellsAt cl fr ws s.heap H) (r : Vals vs us)
    (hbody : Room k (A.deeper (envF ⟨"<lambda>", q, params, [], scope, cl, c⟩ f s.heap.objs.size)) → ∃ t, PE (ncx CX P w K mg base N ⟨"<lambda>", q, params, [], scope, cl, c⟩ f A outer s H E) body t ∧ t (startF N vs ws) H Q) :
    codeAny (model P w) A (.call (.ref f) ⟨us, []⟩) (CR CX outer P w H s Q E) s := by
  have hlim : s.heap.NoLimit := e0.mod.nolimit.keeps fun b o z => (e0.bs b o z).1
  refine PySem.W.kla_callFunE hr.depth hf rfl S.co S.gen rfl (codeO_at e0.hok hc) ?_
  rw [hb]
  refine wpAny_pure (wpAny_newFunctionEnv S.nocell (fun ⟨m, _⟩ hy => S.par m (List.of_mem_zip hy).1) (fun h₁ hns hsb => ⟨hlim.fresh _ hsb, ?_⟩) S.kind)
  have hkp : ∀ b o, s.heap.get? b = some o → h₁.get? b = some o := fun b o z => hsb.extBut b o (Nat.ne_of_lt (Heap.lt_size z)) (Heap.get?_push_of_some _ z)
  obtain ⟨t, ht, hq⟩ := hbody (hr.deeper _)
  refine PySem.W.kla_codeExpr (wpAny_mono (ht.run [] _ _ H Q (inv_startN (F := ⟨"<lambda>", q, params, [], scope, cl, c⟩) S hr.hd e0 hl r C hns hkp) hq) (fun u s' z => ?_) fun e s' z => z)
  obtain ⟨v, H', J, rv, q2⟩ := z
  exact ⟨v, H', J.os, J.bare, J.base, J.hok, rv, q2⟩
open NdefX in
theorem cells_any {cl : List (Str × Addr)} {fr : List Str} {ws : List (Option V)} {fs : List Addr} {H0 H : Hp} {h0 h : Heap} (C : CellsAt cl fr ws h0 H0) (u : Un fs [] H0 H h0 h) : CellsAt cl fr ws h H := by
  have st : ∀ c v, H0 c = none → h0.IsCell c v → h.IsCell c v := fun c v n ⟨o, ho, hd⟩ => by
    obtain ⟨sl, z⟩ := u.any ho n (fun q => nomatch q)
    exact ⟨_, z, hd⟩
  refine ⟨C.len, fun y c z => ?_, C.inj, fun i y z => ?_⟩
  · obtain ⟨n, v, x⟩ := C.all y c z
    obtain ⟨o, ho, _⟩ := id x
    exact ⟨u.free c o ho n (fun q => nomatch q), v, st c _ n x⟩
  · obtain ⟨c, hc, hv⟩ := C.has i y z
    exact ⟨c, hc, fun v ev => let ⟨u', r, x⟩ := hv v ev; ⟨u', r, st c _ (C.all y c hc).1 x⟩⟩
/-- is_so(e) in the def that got the lambda; pf: what the lambda tells -/
def tSo (f c : Addr) (q : Str) (pf : Int → Bool) (te : TE) : TE := fun σ HZ Q => σ[0]? = some (some (.ref f)) ∧ tCons te tNil σ HZ fun vs H1 => ∃ y, vs = [.int y] ∧ 1 ≤ y ∧ H1 c = some (LamX.CodeO c q) ∧ Q (.bl (pf y)) H1
open NdefX in
theorem pe_so {Ng : List Str} {qg : Str} {sg : Scope} {g f c : Addr} {cdg pm ctv : Value} {A : Around} {outer : List Env} {s : Shared} {H : Hp} {Eg : XK} {a y : Str} {N fr : List Str} {scope : Scope} {params : Arguments} {body : PySem.Expr} {q : Str} {cl : List (Str × Addr)} {ws : List (Option V)} {k : Nat} {pf : Int → Bool} {e : PySem.Expr} {te : TE} {p1 p2 : Pos}
    (hf : s.heap.get? f = some (PySem.W.kla_obj "<lambda>" q params body scope cl pm c ctv)) (hfn : H f = none) (C : CellsAt cl fr ws s.heap H) (S : NScope N [y] fr scope) (hb : ∀ u, bindArgs (PySem.W.kla_fn "<lambda>" q params body scope cl pm (.ref c) ctv) ⟨[u], []⟩ = pure [(y, u)])
    (hr : Room (k + 1) (A.deeper (envOfC qg sg s.heap.objs.size g cdg)))
    (hbody : ∀ (A : Around) (outer : List Env) (s : Shared) (H : Hp) (i : Int) (Q : VK), Room k (A.deeper (envF ⟨"<lambda>", q, params, [], scope, cl, c⟩ f s.heap.objs.size)) → 1 ≤ i → Q (.bl (pf i)) H → ∃ t, PE (ncx CX0 P w K mg base N ⟨"<lambda>", q, params, [], scope, cl, c⟩ f A outer s H (fun _ _ _ => False)) body t ∧ t (startF N [.int i] ws) H Q)
    (hN : Ng[0]? = some a) (hv : Vis sg a) (he : PE (cxOf CX0 P w K mg base Ng qg sg g cdg A outer s H Eg).nox e te)
    (hd : (a == ("__debug__" : Str)) = false := by decide) (hcd : (a == ("__classdict__" : Str)) = false := by decide)
    (hst : starEach [e] (cxOf CX0 P w K mg base Ng qg sg g cdg A outer s H Eg).nox.env = [(false, eval e (cxOf CX0 P w K mg base Ng qg sg g cdg A outer s H Eg).nox.env)] := by rfl) :
    PE (cxOf CX0 P w K mg base Ng qg sg g cdg A outer s H Eg).nox (.Call (.Name a p1) [e] [] p2) (tSo f c q pf te) := by
  refine ⟨fun pins sZ σ HZ Q I h => ?_⟩
  obtain ⟨h1, h2⟩ := h
  refine wpAny_Call_Name_kw (thn ((pe_var (pos := p1) (i := 0) hN hv hd hcd).run pins sZ σ HZ (fun v H1 => v = .ref f ∧ H1 = HZ) I ⟨.ref f, h1, rfl, rfl⟩) fun u s1 ⟨v, H1, I1, r1, ev, eH⟩ => ?_)
  subst ev eH
  obtain rfl : u = Value.ref f := r1
  have fnAt : ∀ {s2 : Shared} {H2 : Hp}, Inv (cxOf CX0 P w K mg base Ng qg sg g cdg A outer s H Eg).nox pins σ H2 s2 → ∃ sl, s2.heap.get? f = some { PySem.W.kla_obj "<lambda>" q params body scope cl pm c ctv with slots := sl } := fun J =>
    J.base.any hf hfn (fun z => nomatch (show f ∈ ([] : List Addr) from z))
  refine PySem.W.callWith_F (first := []) (let ⟨sl, z⟩ := fnAt I1; ⟨_, _, _, _, z⟩) (thn ((pa_cons he pa_nil (hs := hst)).run p2 pins s1 σ _ _ I1 h2) fun us s2 ⟨vs, H2, I2, r, q2⟩ => ⟨let ⟨sl, z⟩ := fnAt I2; ⟨_, _, _, _, z⟩, ?_⟩) hst rfl
  obtain ⟨i, rfl, hi1, hc2, q2⟩ := q2
  obtain ⟨u2, rfl, ru⟩ := vals1 r
  obtain ⟨sl, hf2⟩ := fnAt I2
  refine wpAny_call (codeAny_mono (lam_run (CX := CX0) (ps := [y]) (E := fun _ _ _ => False) S (hb u2) rfl hr I2.env0 hf2 hc2 (cells_any C I2.base) (.cons ru .nil) (fun h => hbody _ _ _ _ i Q h hi1 q2)) fun r s' hq => ?_)
  cases r with
  | error e => exact hq.elim
  | ok fl =>
    cases fl with
    | ret u => exact I2.after hq
    | next => exact False.elim hq
    | brk => exact False.elim hq
    | cont => exact False.elim hq
/-! ### least_with -/
theorem sc_least_with : FnScope ["is_so", "most", "low", "high", "middle"] ["is_so", "most"] (defScope s_least_with) := ⟨rfl, rfl, rfl, by decide +kernel, rfl, by decide +kernel, by decide +kernel⟩
theorem lw_mid {a b : Int} (h : a < b) : a ≤ (a + b) / 2 ∧ (a + b) / 2 < b := by omega
open NdefX in
theorem lw_at (T : TX w K mg) {f c : Addr} {pm ctv : Value} {A : Around} {outer : List Env} {s : Shared} {H : Hp} {y : Str} {N fr : List Str} {scope : Scope} {params : Arguments} {body : PySem.Expr} {q : Str} {cl : List (Str × Addr)} {ws : List (Option V)} {k : Nat} {pf : Int → Bool} {u : Value} {m : Int} {Q : VK}
    (hf : s.heap.get? f = some (PySem.W.kla_obj "<lambda>" q params body scope cl pm c ctv)) (hfn : H f = none) (C : CellsAt cl fr ws s.heap H) (S : NScope N [y] fr scope) (hb : ∀ u, bindArgs (PySem.W.kla_fn "<lambda>" q params body scope cl pm (.ref c) ctv) ⟨[u], []⟩ = pure [(y, u)])
    (hr : Room (k + 2) A) (e0 : Env0 P w K mg base A outer s H) (ru : RelV (.int m) u) (hm : 1 ≤ m) (hc : H c = some (LamX.CodeO c q))
    (hbody : ∀ (A : Around) (outer : List Env) (s : Shared) (H : Hp) (i : Int) (Q : VK), Room k (A.deeper (envF ⟨"<lambda>", q, params, [], scope, cl, c⟩ f s.heap.objs.size)) → 1 ≤ i → Q (.bl (pf i)) H → ∃ t, PE (ncx CX0 P w K mg base N ⟨"<lambda>", q, params, [], scope, cl, c⟩ f A outer s H (fun _ _ _ => False)) body t ∧ t (startF N [.int i] ws) H Q)
    (hq : ∀ H', Kp [] H H' → Q (.int (lwL pf 1 m)) H') : codeAny (model P w) A (.call (.ref (a_least_with K)) ⟨[.ref f, u], []⟩) (CR CX0 outer P w H s Q (fun _ _ _ => False)) s := by
  refine fn_at (k := k + 1) (vs := [.ref f, .int m]) (f_least_with T) sc_least_with (fun _ _ _ _ _ _ us hl => match us, hl with | [_, _], _ => rfl) hr e0 (.cons rfl (.cons ru .nil)) rfl fun cdv hr1 => ?_
  have nd := sc_least_with.nd
  refine ⟨_, pss_cons (ps_par (i := 2) (j := 3) rfl nd rfl rfl (by decide) rfl rfl (pa_cons pe_int (pa_cons (pv 1) pa_nil)) (by rfl)) (pss_cons (ps_while PassesOwn.never (pt_cmpR op_lt (pv 2) (pv 3) (nomark _))
    (pss_cons (ps_set (i := 4) nd rfl (Or.inl rfl) (pe_op op_fdiv (pe_op op_add (pv 2) (pv 3)) pe_int))
    (pss_one (ps_asg (pe_ifExp (pt_val (pe_so hf hfn C S hb hr1 hbody rfl (.inl rfl) (pv 4))) (pe_tupU (pa_cons (pv 2) (pa_cons (pv 4) pa_nil))) (pe_tupU (pa_cons (pe_op op_add (pv 4) pe_int) (pa_cons (pv 3) pa_nil))))
      (pg_tupU (n := 2) rfl (pgs_cons (pg_name (i := 2) nd rfl (Or.inl rfl)) (pgs_cons (pg_name (i := 3) nd rfl (Or.inl rfl)) pgs_nil))))))) (pss_one (ps_ret (pv 2)))), ?_⟩
  refine ⟨_, rfl, _, _, rfl, ?_⟩
  refine while_m (fun j σ H' => ∃ (lo hi : Int) (x : Option V), σ = [some (.ref f), some (.int m), some (.int lo), some (.int hi), x] ∧ 1 ≤ lo ∧ lo ≤ hi ∧ lwL pf lo hi = lwL pf 1 m ∧ Kp [] H H' ∧ j = (hi - lo).toNat) (m - 1).toNat ⟨1, m, none, rfl, Int.le_refl 1, hm, rfl, .refl, rfl⟩ ?_
  rintro j σ H' ⟨lo, hi, x, rfl, hl1, hlo, e, k1, rfl⟩
  refine ⟨_, rfl, _, rfl, _, _, rfl, rfl, _, rfl, ?_⟩
  refine ite2 (fun c1 => ?_) fun c1 => ?_
  · have c1 : lo < hi := of_decide_eq_true c1
    obtain ⟨m1, m2⟩ := lw_mid c1
    rw [lwL_lt c1] at e
    refine ⟨_, fun _ _ h => h, _, rfl, _, rfl, _, _, rfl, rfl, _, _, rfl, rfl, ⟨by decide, by decide⟩, rfl, _, rfl, _, rfl, by omega, k1.get hc, _, rfl, ?_⟩
    cases cc : pf ((lo + hi) / 2) with
    | true =>
      rw [cc, if_pos rfl] at e
      refine iteT ⟨_, rfl, _, rfl, Nat.le_of_ble_eq_true rfl, fun v H2 k2 h2 => ⟨_, h2, rfl, _, _, rfl, _, _, rfl, rfl, _, ?_, lo, _, _, rfl, hl1, m1, e, k1.trans k2, rfl⟩⟩
      omega
    | false =>
      rw [cc, if_neg (by decide)] at e
      refine iteF ⟨_, rfl, _, _, rfl, rfl, _, rfl, Nat.le_of_ble_eq_true rfl, fun v H2 k2 h2 => ⟨_, h2, rfl, _, _, rfl, _, _, rfl, rfl, _, ?_, _, hi, _, rfl, by omega, by omega, e, k1.trans k2, rfl⟩⟩
      omega
  · have c1 : ¬ lo < hi := fun z => c1 (decide_eq_true z)
    rw [lwL_end c1] at e
    refine ⟨_, rfl, ?_⟩
    show Q (.int lo) H'
    rw [e]
    exact hq _ k1
end
end TB
namespace TB
open PySem PySem.Spec PyProof.Rows L2
/-- a name loaded: the state as it was -/
theorem ld_var {X : Cx} {pins : List (Addr × Obj)} {s : Shared} {σ : L2.St} {H : Hp} {i : Nat} {x : Str} {v : V} {pos : Pos} {E : Value → Shared → Prop} {Q : Value → Shared → Prop} (I : Inv X pins σ H s) (hN : X.N[i]? = some x) (hv : Vis X.env.scope x) (hs : σ[i]? = some (some v)) (q : ∀ u, RelV v u → Q u s)
    (hd : (x == ("__debug__" : Str)) = false := by decide) (hcd : (x == ("__classdict__" : Str)) = false := by decide) : wpAny (model X.prog X.w) X.A (eval (.Name x pos) X.env) Q E s := by
  obtain ⟨m, hn, hl⟩ := I.loc
  obtain ⟨u, r, l⟩ := hl i x v hN hs hv
  have fin := q u r
  rcases l with ⟨k, hm⟩ | ⟨k | k, c, hc, hcell⟩
  · exact wpAny_Name (wpAny_loadName_local I.ok.kind k hn hm fin) hd
  · exact wpAny_Name (wpAny_loadName_cell I.ok.kind k hc hcell fin) hd
  · exact wpAny_Name (wpAny_loadName_free I.ok.kind k hc hcell fin hcd) hd
section
variable {P : Program} {w : World} {K : PySem.W.Frag} {mg : Str → Option Value} {base : Heap}
open NdefX
/-- least_with(lambda y: body, x) -/
def tLw (X : Cx) (N fr : List Str) (scope : Scope) (params : Arguments) (body : PySem.Expr) (k i : Nat) (js : List Nat) : TE := fun σ H Q => TbI X.K H ∧ ∃ (m : Int) (pf : Int → Bool), σ[i]? = some (some (.int m)) ∧ 1 ≤ m ∧
  (∀ (f c : Addr) (A : Around) (outer : List Env) (s : Shared) (H : Hp) (j : Int) (Q : VK), Room k (A.deeper (envF ⟨"<lambda>", lamQ, params, [], scope, cloFrom X.env.cells scope.names [], c⟩ f s.heap.objs.size)) → 1 ≤ j → Q (.bl (pf j)) H →
    ∃ t, PE (ncx CX0 X.prog X.w X.K X.mg X.base N ⟨"<lambda>", lamQ, params, [], scope, cloFrom X.env.cells scope.names [], c⟩ f A outer s H (fun _ _ _ => False)) body t ∧ t (startF N [.int j] (js.map (slotAt σ))) H Q) ∧
  ∀ H', KT [] H H' → TbI X.K H' → Q (.int (lwL pf 1 m)) H'
theorem pe_lw {X : Cx} (T : TX X.w X.K X.mg) {c0 : Addr} {N fr : List Str} {y x : Str} {scope : Scope} {params : Arguments} {body : PySem.Expr} {i k j : Nat} {js : List Nat} {p lpos p2 pos : Pos} (hg : Gl X "least_with") (hB : LamX.TabB X.base X.mg c0 (tbP X.K)) (hcode : X.env.code = .ref c0) (hq : X.env.qual ++ "<lambda>" = lamQ)
    (S : NScope N [y] fr scope) (hb : ∀ (cl : List (Str × Addr)) (pm cv ctv u : Value), bindArgs (PySem.W.kla_fn "<lambda>" lamQ params body scope cl pm cv ctv) ⟨[u], []⟩ = pure [(y, u)]) (hfree : ∀ y ∈ scope.names, y.2 = .free → X.env.scope.names.lookup y.1 = some .cell ∨ X.env.scope.names.lookup y.1 = some .free)
    (hfr : ∀ y ∈ fr, (y, NameKind.free) ∈ scope.names) (hjs : js.map (fun j => X.N[j]?) = fr.map some) (hdef : defaultsOf params X.env = ([], [])) (hN : X.N[i]? = some x) (hv : Vis X.env.scope x) (hr : Room j X.A) (hkj : k + 2 ≤ j) (hd : (x == ("__debug__" : Str)) = false := by decide) (hcd : (x == ("__classdict__" : Str)) = false := by decide) :
    PE X (.Call (.Name "least_with" p) [.Lambda params body scope lpos, .Name x p2] [] pos) (tLw X N fr scope params body k i js) := by
  refine ⟨fun pins s σ H Q I h => ?_⟩
  obtain ⟨hT, m, pf, hs, hm, hbody, q⟩ := h
  refine wpAny_Call_Name_kw (ld_glob I hg (g_least_with T) ?_)
  refine PySem.W.callWith_K (h₀ := X.base) I.ok.mod.kin (kp_least_with T) ?_ (by rfl) (by rfl)
  show wpAny _ _ (spliced ((false, eval (.Lambda params body scope lpos) X.env) :: (false, eval (.Name x p2) X.env) :: backTo pos (starEach [] X.env))) _ _ s
  have hfx : ∀ y ∈ scope.names, y.2 = .free → ∃ c, X.env.cells.lookup y.1 = some c := fun y hy e => (hfree y hy e).elim (fun z => I.ok.has _ (.inl z)) fun z => I.ok.has _ (.inr z)
  refine Calls.spliced_cons (LamX.lam_make2 (T := [(tbP X.K, lamQ)]) I hB hcode (by rw [hq]; exact List.mem_singleton.mpr rfl) (fun p hp _ => by rw [hq, List.mem_singleton.mp hp]) (fun p hp => by rw [List.mem_singleton.mp hp]; exact hT) hdef hfx fun f c pm ctv H1 s1 I1 eN T1 hf hfn _ hco => ?_)
  refine Calls.spliced_cons (ld_var I1 hN hv hs (fun u ru => ?_) hd hcd)
  refine Calls.spliced_nil ⟨I1.kIn, ?_⟩
  rw [hq] at hf hco
  have C := cells_of I1 (Caps.made (fr := fr) (js := js) I1.ok hfree hfr hjs)
  have rc := lw_at (base := X.base) (P := X.prog) (A := X.A) (outer := X.stack) (y := y) (N := N) (fr := fr) (pf := pf) (m := m) (Q := Q) (k := k) T hf hfn C S (hb _ _ _ _) (hr.mono hkj) I1.env0 ru hm hco (fun A outer s H i Q => hbody f c A outer s H i Q)
    fun H' k1 => q H' ((KT.ofN eN).trans k1.kt) (TbI.kp0 (T1 _ (List.mem_singleton.mpr rfl)) k1)
  refine wpAny_call (codeAny_mono rc fun r s2 hq2 => ?_)
  cases r with
  | error e => exact hq2.elim
  | ok fl =>
    cases fl with
    | ret u => exact I1.after hq2
    | next => exact False.elim hq2
    | brk => exact False.elim hq2
    | cont => exact False.elim hq2
theorem sc_sum_at : FnScope ["low", "high", "number", "most"] ["low", "high", "number"] (defScope s_sum_at) := ⟨rfl, rfl, rfl, by decide +kernel, rfl, by decide +kernel, by decide +kernel⟩
def saF (low high number : Int) : Int := lwL (fun x => decide (number < csF low high x)) 1 (lI low high + gI low high * (number + 1))
def sp_sum_at (K : PySem.W.Frag) : Sp := fun vs H Q _ => ∃ a b n : Int, vs = [.int a, .int b, .int n] ∧ Sd a ∧ Sd b ∧ 0 ≤ n ∧ TbI K H ∧ ∀ H', KT [] H H' → TbI K H' → Q (.int (saF a b n)) H'
abbrev lamE : PySem.Expr := match (defBody s_sum_at).getD 1 (.Pass ⟨0, 0, 0, 0⟩) with
  | .Return (some (.Call _ (e :: _) _ _)) _ => e
  | _ => .Constant .none 0 ⟨0, 0, 0, 0⟩
abbrev lamSc : Scope := match lamE with
  | .Lambda _ _ sc _ => sc
  | _ => defScope s_sum_at
theorem ns_lam : NScope ["side", "low", "high", "number"] ["side"] ["low", "high", "number"] lamSc := nscope_by (by decide +kernel)
theorem ok_sum_at (T : TX w K mg) (hB : LamX.TabB base mg (He.codeOf K ("sum_at", none)) (tbP K)) : FnR P w K mg base CX0 5 (a_sum_at K) (sp_sum_at K) :=
  fnrC (p := ("sum_at", none)) (f_sum_at T) sc_sum_at (fun vs H Q E ⟨_, _, _, e, _⟩ => by rw [e]; rfl) (fun _ _ _ _ _ _ us hl => match us, hl with | [_, _, _], _ => rfl) fun A outer s H vs Q E hr h => by
    obtain ⟨a, b, n, rfl, ha, hb, hn, hT, q⟩ := h
    have nd := sc_sum_at.nd
    refine ⟨_, pss_cons (ps_set (i := 3) nd rfl (Or.inl rfl) (pe_op op_add (pe_f (ok_joint T) (g_joint T) (kp_joint T) hr (pa_cons (pv 0) (pa_cons (pv 1) pa_nil))) (pe_op op_mul (pe_f (ok_common T) (g_common T) (kp_common T) hr (pa_cons (pv 0) (pa_cons (pv 1) pa_nil))) (pe_op op_add (pv 2) pe_int))))
      (pss_one (ps_ret (pe_lw (N := ["side", "low", "high", "number"]) (fr := ["low", "high", "number"]) (js := [0, 1, 2]) (i := 3) (k := 2) T rfl hB rfl rfl ns_lam (fun _ _ _ _ _ => rfl) (ndef_free (sc := defScope s_sum_at) (nsc := lamSc) (fr := ["low", "high", "number"]) (by decide +kernel)) (ndef_fr (sc := defScope s_sum_at) (nsc := lamSc) (by decide +kernel)) rfl rfl rfl (.inl rfl) hr (by decide)))), ?_⟩
    have g0 := gI_pos (b := b) ha.1
    have l0 := lI_pos ha.1 hb.1
    obtain ⟨a1, a2⟩ := ha
    obtain ⟨b1, b2⟩ := hb
    have g1 := gI_le (b := b) a1
    have gm : 0 ≤ gI a b * (n + 1) := Int.mul_nonneg (by omega) (by omega)
    refine ⟨_, rfl, _, rfl, a, b, rfl, ⟨a1, a2⟩, ⟨b1, b2⟩, _, rfl, _, rfl, a, b, rfl, by omega, by omega, _, rfl, _, _, rfl, rfl, _, _, rfl, rfl, .inl ⟨by omega, by omega⟩, _, _, rfl, rfl, ?_⟩
    refine ⟨hT, _, fun x => decide (n < csF a b x), rfl, by omega, fun f c A outer s H j Q hr hj hq => ⟨_, pe_cmpR op_gt (pe_f (ok_count_sums T) (g_count_sums T) (kp_count_sums T) hr (pa_cons (pv 1) (pa_cons (pv 2) (pa_cons (pv 0) pa_nil)))) (pv 3) (nomark _), ?_⟩, fun H' k1 t1 => q H' k1 t1⟩
    exact ⟨_, rfl, _, rfl, _, rfl, a, b, j, rfl, ⟨a1, a2⟩, ⟨b1, b2⟩, by omega, _, rfl, _, _, rfl, rfl, hq⟩
end
end TB
namespace TB
open PySem PySem.Spec PyProof.Rows L2
theorem b_max1 : bootBuiltins "max" = some (.builtin "max") := b_max
/-! ### what along tells -/
inductive Way
  | steps (s : Int)
  | sums (l h : Int)
  | none
def wayV : Way → List V
  | .steps s => [.str "steps", .int s]
  | .sums l h => [.str "sums", .int l, .int h]
  | .none => [.str "none"]
/-- steps within 2^40, sums of sides -/
def WayOk : Way → Prop
  | .steps s => 0 < s ∧ s ≤ 1099511627776
  | .sums l h => Sd l ∧ Sd h
  | .none => True
def lo2 (a b : Int) : Int := if b < a then b else a
def hi2 (a b : Int) : Int := if b > a then b else a
def sumsF (a b : Int) : Way := if hi2 a b % lo2 a b = 0 then .steps (lo2 a b) else .sums (lo2 a b) (hi2 a b)
theorem lo2_Sd {a b : Int} (ha : Sd a) (hb : Sd b) : Sd (lo2 a b) := by unfold lo2; split <;> assumption
theorem hi2_Sd {a b : Int} (ha : Sd a) (hb : Sd b) : Sd (hi2 a b) := by unfold hi2; split <;> assumption
/-- the other axes that are left over -/
def resS (k : Nat) (brick box : List Int) (n : Nat) : List Nat := (List.range n).filter fun i => decide (i ≠ k) && resP brick box i
theorem resS_succ (k : Nat) (brick box : List Int) (n : Nat) : resS k brick box (n + 1) = resS k brick box n ++ (if decide (n ≠ k) && resP brick box n then [n] else []) := by
  unfold resS
  rw [List.range_succ, List.filter_append]
  simp only [List.filter_cons, List.filter_nil]
theorem resS_len (k : Nat) (brick box : List Int) (n : Nat) : (resS k brick box n).length ≤ n := by
  have := List.length_filter_le (fun i => decide (i ≠ k) && resP brick box i) (List.range n)
  simpa [resS] using this
theorem resS_lt {k : Nat} {brick box : List Int} {n i : Nat} (h : i ∈ resS k brick box n) : i < n := List.mem_range.mp (List.mem_filter.mp h).1
section
variable {P : Program} {w : World} {K : PySem.W.Frag} {mg : Str → Option Value} {base : Heap}
theorem sc_sums_of : FnScope ["one", "other", "low", "high"] ["one", "other"] (defScope s_sums_of) := ⟨rfl, rfl, rfl, by decide +kernel, rfl, by decide +kernel, by decide +kernel⟩
def sp_sums_of : Sp := fun vs H Q _ => ∃ a b : Int, vs = [.int a, .int b] ∧ Sd a ∧ Sd b ∧ ∀ r H', Kp [] H H' → Tu H' r (wayV (sumsF a b)) → Q r H'
theorem ok_sums_of (T : TX w K mg) : FnR P w K mg base CX0 1 (a_sums_of K) sp_sums_of :=
  fnr0 (f_sums_of T) sc_sums_of (fun vs H Q E ⟨_, _, e, _⟩ => by rw [e]; rfl) (fun _ _ _ _ _ _ us hl => match us, hl with | [_, _], _ => rfl) fun cdv A outer s H vs Q E hr h => by
    obtain ⟨a, b, rfl, ha, hb, q⟩ := h
    have nd := sc_sums_of.nd
    refine ⟨_, pss_cons (ps_par (i := 2) (j := 3) rfl nd rfl rfl (by decide) rfl rfl (pa_cons (pe_callB (call_min2 rfl) (by rfl) (n_min T) b_min (pa_cons (pv 0) (pa_cons (pv 1) pa_nil))) (pa_cons (pe_callB (call_max2 rfl) (by rfl) (n_max T) b_max (pa_cons (pv 0) (pa_cons (pv 1) pa_nil))) pa_nil)) (by rfl))
      (pss_one (ps_ret (pe_ifExp (pt_cmpR op_eq (pe_op op_mod (pv 3) (pv 2)) pe_int (nomark _)) (pe_tupU (pa_cons (pe_gs (z_STEPS T)) (pa_cons (pv 2) pa_nil))) (pe_tupU (pa_cons (pe_gs (z_SUMS T)) (pa_cons (pv 2) (pa_cons (pv 3) pa_nil))))))), ?_⟩
    obtain ⟨l1, l2⟩ := lo2_Sd ha hb
    refine ⟨_, rfl, _, rfl, a, b, rfl, _, rfl, _, rfl, a, b, rfl, _, _, rfl, ?_⟩
    refine ⟨_, rfl, _, rfl, _, _, rfl, rfl, l1, rfl, _, rfl, ?_⟩
    unfold sumsF at q
    refine ite2 (fun c => ?_) fun c => ?_
    · have c : hi2 a b % lo2 a b = 0 := V.int.inj (of_decide_eq_true c)
      rw [if_pos c] at q
      exact ⟨_, rfl, Nat.le_of_ble_eq_true rfl, fun r H1 k1 h1 => q r H1 k1 h1⟩
    · have c : ¬ hi2 a b % lo2 a b = 0 := fun z => c (decide_eq_true (by show V.int (hi2 a b % lo2 a b) = V.int 0; rw [z]))
      rw [if_neg c] at q
      exact ⟨_, rfl, _, rfl, Nat.le_of_ble_eq_true rfl, fun r H1 k1 h1 => q r H1 k1 h1⟩
theorem sc_rests_sizes : FnScope ["brick", "box", "axis", "at", "side"] ["brick", "box", "axis"] (defScope s_rests_sizes) := ⟨rfl, rfl, rfl, by decide +kernel, rfl, by decide +kernel, by decide +kernel⟩
def sp_rests_sizes : Sp := fun vs H Q _ => ∃ u v n k brick box, vs = [u, v, .int (k : Nat)] ∧ Ti H u brick ∧ Ti H v box ∧ Sds n brick ∧ Sds n box ∧ n ≤ 4 ∧ ∀ p H', H p = none → Kp [] H H' → H' p = some (.lst (RV (resS k brick box n))) → Q (.ref p) H'
theorem ok_rests_sizes (T : TX w K mg) : FnR P w K mg base CX0 1 (a_rests_sizes K) sp_rests_sizes :=
  fnr0 (f_rests_sizes T) sc_rests_sizes (fun vs H Q E ⟨_, _, _, _, _, _, e, _⟩ => by rw [e]; rfl) (fun _ _ _ _ _ _ us hl => match us, hl with | [_, _, _], _ => rfl) fun cdv A outer s H vs Q E hr h => by
    obtain ⟨u, v, n, k, brick, box, rfl, hu, hv, h1, h2, n4, q⟩ := h
    have nd := sc_rests_sizes.nd
    refine ⟨_, pss_one (ps_ret (pe_lc (own := [("at", 3), ("side", 4)]) rfl nd (pi_enumT (n_enumerate T) (pa_cons (pv 1) pa_nil)) (blkOk_by (N := ["brick", "box", "axis", "at", "side"]) (sc := defScope s_rests_sizes) (by decide +kernel))
      (fun _ _ _ _ _ => pg_tupU (n := 2) rfl (pgs_cons (pg_name (i := 3) nd rfl (Or.inl rfl)) (pgs_cons (pg_name (i := 4) nd rfl (Or.inl rfl)) pgs_nil)))
      (fun _ _ _ _ _ => pts_one (PW.pt (pw_and (pt_cmpR op_ne (pv 3) (pv 2) (nomark _)) (pw_and1 (pt_cmpR op_ne (pe_op op_mod (pv 4) (pe_ix ix_tupU (pv 0) (pv 3) (fun _ _ => rfl))) pe_int (nomark _))))))
      (fun _ _ _ _ _ => pv 3))), ?_⟩
    obtain ⟨a, rfl, ha⟩ := hv
    refine ⟨_, rfl, a, _, rfl, ha, fun D hD => ?_⟩
    have hl : (box.map V.int).length = n := by simp [h2.1]
    refine lcP walk_P [] (fun i => RV (resS k brick box i)) hD rfl (fun i H' p => p.1.tup a _ ha) (fun i x H1 H2 hi p y => ?_) fun H' p => ?_
    · rw [hl] at hi
      obtain ⟨x', y', k2, hx, rfl, hy⟩ := y
      rw [at_V h2 hi] at hy
      cases hy
      obtain ⟨s1, s2⟩ := at_Sd h1 hi
      have kk := p.1.trans k2
      have hDD := k2.get p.2
      have len := resS_len k brick box i
      have skip : (decide (i ≠ k) && resP brick box i) = false → PvL [] H D (fun i => RV (resS k brick box i)) (i + 1) H2 := fun c => ⟨kk, by rw [hDD]; simp only [resS_succ, c, Bool.false_eq_true, if_false, List.append_nil]⟩
      refine ⟨_, hx, rfl, _, _, rfl, _, _, rfl, rfl, rfl, _, rfl, _, rfl, rfl, _, rfl, ?_⟩
      by_cases c1 : i = k
      · rw [show (!decide (V.int (i : Nat) = V.int (k : Nat))) = false by simp [c1]]
        exact iteF (iteF (skip (by simp [c1])))
      · rw [show (!decide (V.int (i : Nat) = V.int (k : Nat))) = true by simp; omega]
        refine iteT ⟨_, rfl, _, rfl, _, rfl, _, _, _, hu.kp kk, rfl, atI_n i rfl (at_V h1 hi), _, _, rfl, rfl, s1, rfl, _, rfl, ?_⟩
        by_cases z : at_ box i % at_ brick i = 0
        · rw [show (!decide (V.int (at_ box i % at_ brick i) = V.int 0)) = false by simp [z]]
          exact iteF (skip (by simp [resP, z]))
        · rw [show (!decide (V.int (at_ box i % at_ brick i) = V.int 0)) = true by simp [z]]
          refine iteT ⟨_, rfl, lcAdd hD kk hDD (by simp only [RV, List.length_map]; omega) ?_⟩
          have c : (decide (i ≠ k) && resP brick box i) = true := by simp [resP, z, c1]
          simp only [RV, resS_succ, c, if_true, List.map_append]; rfl
    · rw [hl] at p
      exact q D H' hD p.1 p.2
/-- name == [], of a list of ints -/
theorem rd_nil {i : Nat} {σ : L2.St} {H : Hp} {p : Addr} {l : List Nat} {F : Bool → Hp → Prop} (hs : σ[i]? = some (some (.ref p))) (hp : H p = some (.lst (RV l))) (q : ∀ H', Kp [] H H' → F (decide (l = [])) H') :
    tTest (tOp (rEqI id) (tVar i) (tLstU tNil)) σ H F := by
  rw [RV_ints] at hp
  refine ⟨_, hs, Nat.zero_le _, fun p2 H2 np k2 h2 => ⟨_, [], ⟨p, rfl, k2.get hp⟩, ⟨p2, rfl, h2⟩, _, rfl, ?_⟩⟩
  have := q H2 k2
  rw [show decide ((l.map fun i => ((i : Nat) : Int)) = []) = decide (l = []) by simp]
  exact this
theorem sc_along : FnScope ["pair", "box", "axis", "one", "other", "first", "second"] ["pair", "box", "axis"] (defScope s_along) := ⟨rfl, rfl, rfl, by decide +kernel, rfl, by decide +kernel, by decide +kernel⟩
def alongF (one other box : List Int) (n k : Nat) : Way :=
  if resS k one box n = [] ∧ resS k other box n = [] then sumsF (at_ one k) (at_ other k)
  else if resS k one box n = [] ∨ resS k other box n = [] then .steps (if resS k one box n = [] then at_ one k else at_ other k)
  else if resS k one box n = resS k other box n ∧ (resS k one box n).length = 1 ∧ isSumF (at_ one ((resS k one box n).headD 0)) (at_ other ((resS k one box n).headD 0)) (at_ box ((resS k one box n).headD 0)) = true then .steps (lI (at_ one k) (at_ other k))
  else .none
theorem alongF_ok {one other box : List Int} {n k : Nat} (h1 : Sds n one) (h2 : Sds n other) (hk : k < n) : WayOk (alongF one other box n k) := by
  have a := at_Sd h1 hk
  have b := at_Sd h2 hk
  unfold alongF
  split
  · unfold sumsF
    split
    · obtain ⟨c, d⟩ := lo2_Sd a b
      exact ⟨c, by omega⟩
    · exact ⟨lo2_Sd a b, hi2_Sd a b⟩
  · split
    · unfold WayOk
      obtain ⟨a1, a2⟩ := a
      obtain ⟨b1, b2⟩ := b
      by_cases z : resS k one box n = []
      · simp only [if_pos z]; omega
      · simp only [if_neg z]; omega
    · split
      · have l0 := lI_pos a.1 b.1
        have l1 := lI_le a.1 b.1
        have : at_ one k * at_ other k ≤ 1048576 * 1048576 := Int.mul_le_mul a.2 b.2 (by have := b.1; omega) (by omega)
        exact ⟨l0, by omega⟩
      · trivial
theorem rvI (l : List Nat) : RV l = (l.map fun i => ((i : Nat) : Int)).map V.int := RV_ints l
theorem mapI_inj {l m : List Nat} : (l.map fun i => ((i : Nat) : Int)) = m.map (fun i => ((i : Nat) : Int)) ↔ l = m := by
  constructor
  · intro h
    induction l generalizing m with
    | nil => cases m with | nil => rfl | cons _ _ => simp at h
    | cons a l ih => cases m with
      | nil => simp at h
      | cons b m =>
        simp only [List.map_cons, List.cons.injEq] at h
        rw [Int.ofNat.inj h.1, ih h.2]
  · intro h; rw [h]
def sp_along : Sp := fun vs H Q _ => ∃ (u v : V) (n k : Nat) (one other box : List Int), vs = [u, v, .int (k : Nat)] ∧ TP2 H u one other ∧ Ti H v box ∧ Sds n one ∧ Sds n other ∧ Sds n box ∧ k < n ∧ n ≤ 4 ∧ ∀ r H', Kp [] H H' → Tu H' r (wayV (alongF one other box n k)) → Q r H'
theorem ok_along (T : TX w K mg) : FnR P w K mg base CX0 4 (a_along K) sp_along :=
  fnr0 (f_along T) sc_along (fun vs H Q E ⟨_, _, _, _, _, _, _, e, _⟩ => by rw [e]; rfl) (fun _ _ _ _ _ _ us hl => match us, hl with | [_, _, _], _ => rfl) fun cdv A outer s H vs Q E hr h => by
    obtain ⟨u, v, n, k, one, other, box, rfl, ⟨x, y, hu, hx, hy⟩, hv, h1, h2, h3, hk, n4, q⟩ := h
    have nd := sc_along.nd
    refine ⟨_, pss_cons (ps_par (i := 3) (j := 4) rfl nd rfl rfl (by decide) rfl rfl (pa_cons (pe_ix ix_tupU (pe_ix ix_tupU (pv 0) pe_int (fun _ _ => rfl)) (pv 2) (fun _ _ => rfl)) (pa_cons (pe_ix ix_tupU (pe_ix ix_tupU (pv 0) pe_int (fun _ _ => rfl)) (pv 2) (fun _ _ => rfl)) pa_nil)) (by rfl))
      (pss_cons (ps_par (i := 5) (j := 6) rfl nd rfl rfl (by decide) rfl rfl (pa_cons (pe_f (ok_rests_sizes T) (g_rests_sizes T) (kp_rests_sizes T) hr (pa_cons (pe_ix ix_tupU (pv 0) pe_int (fun _ _ => rfl)) (pa_cons (pv 1) (pa_cons (pv 2) pa_nil)))) (pa_cons (pe_f (ok_rests_sizes T) (g_rests_sizes T) (kp_rests_sizes T) hr (pa_cons (pe_ix ix_tupU (pv 0) pe_int (fun _ _ => rfl)) (pa_cons (pv 1) (pa_cons (pv 2) pa_nil)))) pa_nil)) (by rfl))
      (pss_cons (ps_if (PW.pt (pw_and (pt_cmpR (op_eqI hr.units) (pv 5) (pe_lstU pa_nil) (nomark _)) (pw_and1 (pt_cmpR (op_eqI hr.units) (pv 6) (pe_lstU pa_nil) (nomark _))))) (pss_one (ps_ret (pe_f (ok_sums_of T) (g_sums_of T) (kp_sums_of T) hr (pa_cons (pv 3) (pa_cons (pv 4) pa_nil))))) pss_nil)
      (pss_cons (ps_if (PW.pt (pw_or (pt_cmpR (op_eqI hr.units) (pv 5) (pe_lstU pa_nil) (nomark _)) (pw_or1 (pt_cmpR (op_eqI hr.units) (pv 6) (pe_lstU pa_nil) (nomark _))))) (pss_one (ps_ret (pe_tupU (pa_cons (pe_gs (z_STEPS T)) (pa_cons (pe_ifExp (pt_cmpR (op_eqI hr.units) (pv 5) (pe_lstU pa_nil) (nomark _)) (pv 3) (pv 4)) pa_nil))))) pss_nil)
      (pss_cons (ps_if (PW.pt (pw_and (pt_cmpR (op_eqI hr.units) (pv 5) (pv 6) (nomark _)) (pw_and (pt_cmpR op_eq (pe_callB call_lenU (by rfl) (n_len T) b_len (pa_cons (pv 5) pa_nil)) pe_int (nomark _))
          (pw_and1 (pt_val (pe_f (ok_is_sum T) (g_is_sum T) (kp_is_sum T) hr (pa_cons (pe_ix ix_tupU (pe_ix ix_tupU (pv 0) pe_int (fun _ _ => rfl)) (pe_ix ix_listU (pv 5) pe_int (fun _ _ => rfl)) (fun _ _ => rfl)) (pa_cons (pe_ix ix_tupU (pe_ix ix_tupU (pv 0) pe_int (fun _ _ => rfl)) (pe_ix ix_listU (pv 5) pe_int (fun _ _ => rfl)) (fun _ _ => rfl)) (pa_cons (pe_ix ix_tupU (pv 1) (pe_ix ix_listU (pv 5) pe_int (fun _ _ => rfl)) (fun _ _ => rfl)) pa_nil)))))))))
          (pss_one (ps_ret (pe_tupU (pa_cons (pe_gs (z_STEPS T)) (pa_cons (pe_f (ok_joint T) (g_joint T) (kp_joint T) hr (pa_cons (pv 3) (pa_cons (pv 4) pa_nil))) pa_nil))))) pss_nil)
      (pss_one (ps_ret (pe_tupU (pa_cons (pe_gs (z_NONE T)) pa_nil)))))))), ?_⟩
    refine ⟨_, rfl, _, _, _, hu, rfl, atI_n 0 rfl rfl, _, rfl, _, _, _, hx, rfl, atI_n k rfl (at_V h1 hk), _, rfl, _, _, _, hu, rfl, atI_n 1 rfl rfl, _, rfl, _, _, _, hy, rfl, atI_n k rfl (at_V h2 hk), _, _, rfl, ?_⟩
    refine ⟨_, rfl, _, _, _, hu, rfl, atI_n 0 rfl rfl, _, rfl, _, rfl, _, _, n, k, one, box, rfl, hx, hv, h1, h3, n4, fun p1 H1 np1 k1 hp1 => ?_⟩
    refine ⟨_, rfl, _, _, _, hu.kp k1, rfl, atI_n 1 rfl rfl, _, rfl, _, rfl, _, _, n, k, other, box, rfl, hy.kp k1, hv.kp k1, h2, h3, n4, fun p2 H2 np2 k2 hp2 => ⟨_, _, rfl, ?_⟩⟩
    have kk := k1.trans k2
    have hp1 := k2.get hp1
    have a := at_Sd h1 hk
    have b := at_Sd h2 hk
    unfold alongF at q
    refine rd_nil rfl hp1 fun H3 k3 => ?_
    have kk := kk.trans k3
    have hp1 := k3.get hp1
    have hp2 := k3.get hp2
    by_cases c1 : resS k one box n = []
    · refine (if_pos (decide_eq_true c1)).mpr (rd_nil rfl hp2 fun H4 k4 => ?_)
      have kk := kk.trans k4
      have hp1 := k4.get hp1
      by_cases c2 : resS k other box n = []
      · refine (if_pos (decide_eq_true c2)).mpr ⟨_, rfl, _, rfl, _, _, rfl, a, b, fun r H5 k5 h5 => ?_⟩
        rw [if_pos ⟨c1, c2⟩] at q
        exact q r H5 (kk.trans k5) h5
      · refine (if_neg (by simp [c2])).mpr ?_
        rw [if_neg (fun z => c2 z.2), if_pos (.inl c1), if_pos c1] at q
        refine rd_nil rfl hp1 fun H5 k5 => ?_
        have kk := kk.trans k5
        have hp1 := k5.get hp1
        refine (if_pos (decide_eq_true c1)).mpr (iteT ?_)
        refine rd_nil rfl hp1 fun H6 k6 => ?_
        refine (if_pos (decide_eq_true c1)).mpr ⟨_, rfl, Nat.le_of_ble_eq_true rfl, fun r H7 k7 h7 => q r H7 ((kk.trans k6).trans k7) h7⟩
    · refine (if_neg (by simp [c1])).mpr (iteF ?_)
      refine rd_nil rfl hp1 fun H4 k4 => ?_
      have kk := kk.trans k4
      have hp1 := k4.get hp1
      have hp2 := k4.get hp2
      refine (if_neg (by simp [c1])).mpr (rd_nil rfl hp2 fun H5 k5 => ?_)
      have kk := kk.trans k5
      have hp1 := k5.get hp1
      have hp2 := k5.get hp2
      by_cases c2 : resS k other box n = []
      · refine (if_pos (decide_eq_true c2)).mpr ?_
        rw [if_neg (fun z => c1 z.1), if_pos (.inr c2), if_neg c1] at q
        refine rd_nil rfl hp1 fun H6 k6 => ?_
        exact (if_neg (by simp [c1])).mpr ⟨_, rfl, Nat.le_of_ble_eq_true rfl, fun r H7 k7 h7 => q r H7 ((kk.trans k6).trans k7) h7⟩
      · refine (if_neg (by simp [c2])).mpr ?_
        rw [if_neg (fun z => c1 z.1), if_neg (fun z => z.elim c1 c2)] at q
        have no : ∀ (HH : Hp), Kp [] H5 HH → ¬ (resS k one box n = resS k other box n ∧ (resS k one box n).length = 1 ∧ isSumF (at_ one ((resS k one box n).headD 0)) (at_ other ((resS k one box n).headD 0)) (at_ box ((resS k one box n).headD 0)) = true) →
            tRet (tTupU (tCons (tC (.str "none")) tNil)) { nx := fun _ H' => Q .non H', rt := Q } [] HH := fun HH k6 z => by
          rw [if_neg z] at q
          exact ⟨Nat.le_of_ble_eq_true rfl, fun r H7 k7 h7 => q r H7 ((kk.trans k6).trans k7) h7⟩
        have e1 := hp1
        have e2 := hp2
        rw [RV_ints] at e1 e2
        refine ⟨_, rfl, _, rfl, _, _, ⟨p1, rfl, e1⟩, ⟨p2, rfl, e2⟩, _, rfl, ?_⟩
        by_cases c3 : resS k one box n = resS k other box n
        · refine (if_pos (decide_eq_true (mapI_inj.mpr c3))).mpr ?_
          refine ⟨_, rfl, _, _, rfl, .inr ⟨p1, rfl, hp1⟩, rfl, _, rfl, ?_⟩
          by_cases c4 : (resS k one box n).length = 1
          · rw [show decide (V.int ((RV (resS k one box n)).length : Nat) = V.int 1) = true by simp [RV, c4]]
            refine iteT ?_
            obtain ⟨j, ej⟩ := List.length_eq_one_iff.mp c4
            have hj : j < n := resS_lt (k := k) (brick := one) (box := box) (by rw [ej]; exact List.mem_singleton.mpr rfl)
            rw [ej] at q no
            have at0 : atI (RV (resS k one box n)) 0 = some (.int (j : Nat)) := by rw [ej]; exact atI_n 0 rfl rfl
            have a2 := at_Sd h1 hj
            have b2 := at_Sd h2 hj
            refine ⟨_, rfl, _, _, _, hu.kp kk, rfl, atI_n 0 rfl rfl, _, rfl, _, _, _, ⟨p1, rfl, hp1⟩, rfl, at0, _, _, _, hx.kp kk, rfl, atI_n j rfl (at_V h1 hj), ?_⟩
            refine ⟨_, rfl, _, _, _, hu.kp kk, rfl, atI_n 1 rfl rfl, _, rfl, _, _, _, ⟨p1, rfl, hp1⟩, rfl, at0, _, _, _, hy.kp kk, rfl, atI_n j rfl (at_V h2 hj), ?_⟩
            refine ⟨_, rfl, _, rfl, _, _, _, ⟨p1, rfl, hp1⟩, rfl, at0, _, _, _, hv.kp kk, rfl, atI_n j rfl (at_V h3 hj), ?_⟩
            refine ⟨_, _, _, rfl, a2, b2, fun H6 k6 => ⟨_, rfl, ?_⟩⟩
            cases c5 : isSumF (at_ one j) (at_ other j) (at_ box j) with
            | true =>
              rw [if_pos ⟨ej.symm.trans c3, rfl, c5⟩] at q
              exact iteT ⟨_, rfl, _, rfl, _, _, rfl, a, b, Nat.le_of_ble_eq_true rfl, fun r H7 k7 h7 => q r H7 ((kk.trans k6).trans k7) h7⟩
            | false => exact iteF (no _ k6 fun z => by rw [show ([j] : List Nat).headD 0 = j from rfl, c5] at z; exact absurd z.2.2 (by decide))
          · rw [show decide (V.int ((RV (resS k one box n)).length : Nat) = V.int 1) = false by simp [RV]; omega]
            exact iteF (iteF (no _ .refl fun z => c4 z.2.1))
        · refine (if_neg (by rw [show decide _ = false from decide_eq_false (fun z => c3 (mapI_inj.mp z))]; decide)).mpr (iteF (no _ .refl fun z => c3 z.1))
end
end TB
namespace TB
open PySem PySem.Spec PyProof.Rows L2
def byF : Way → Int → Int
  | .steps s, m => m / s
  | .sums l h, m => csF l h m
  | .none, _ => 0
theorem byF_nn {W : Way} {m : Int} (h : WayOk W) (hm : 0 ≤ m) : 0 ≤ byF W m := by
  cases W with
  | steps s => exact Int.ediv_nonneg hm (Int.le_of_lt h.1)
  | sums l u => exact (csF_bd (B := 1048576) (M := if m ≤ 1048576 then 1048576 else m) h.1.1 h.2.1 h.1.2 h.2.2 hm (by split <;> omega) (by split <;> omega)).1
  | none => exact Int.le_refl 0
def numF : Way → Int → Option Int
  | .steps s, i => some (s * (i + 1))
  | .sums l h, i => some (saF l h i)
  | .none, _ => none
def nextF (W : Way) (least : Int) : Option Int := numF W (byF W (least - 1))
theorem ite_nn {p : Prop} [Decidable p] {a b : Prop} (h : ¬ p) (hb : b) : if p then a else b := by rw [if_neg h]; exact hb
theorem ite_pp {p : Prop} [Decidable p] {a b : Prop} (h : p) (ha : a) : if p then a else b := by rw [if_pos h]; exact ha
/-- case ("word", x): hit -/
theorem rd_seq2 {z x : Str} {v w : V} {σ : L2.St} {H : Hp} {F : Option (List V) → Hp → Prop} (h : Tu H v [.str z, w]) (q : F (if z = x then some [w] else none) H) : pSeq 2 (psCons (pVal (tC (.str x))) (psCons pCap psNil)) v σ H F := by
  refine ⟨_, h, ite_pp rfl ⟨_, _, rfl, rfl, ?_⟩⟩
  by_cases c : z = x
  · rw [if_pos c] at q
    rw [if_pos (show V.str z = V.str x by rw [c])]
    exact ⟨_, _, rfl, rfl, q⟩
  · rw [if_neg c] at q
    rw [if_neg (show ¬ V.str z = V.str x from fun e => c (V.str.inj e))]
    exact q
theorem rd_seq2no {x : Str} {v : V} {xs : List V} {σ : L2.St} {H : Hp} {F : Option (List V) → Hp → Prop} (h : Tu H v xs) (hl : xs.length ≠ 2) (q : F none H) : pSeq 2 (psCons (pVal (tC (.str x))) (psCons pCap psNil)) v σ H F := ⟨_, h, ite_nn hl q⟩
theorem rd_seq3 {z x : Str} {v w w' : V} {σ : L2.St} {H : Hp} {F : Option (List V) → Hp → Prop} (h : Tu H v [.str z, w, w']) (hz : z = x) (q : F (some [w, w']) H) : pSeq 3 (psCons (pVal (tC (.str x))) (psCons pCap (psCons pCap psNil))) v σ H F := by
  refine ⟨_, h, ite_pp rfl ⟨_, _, rfl, rfl, ?_⟩⟩
  rw [if_pos (show V.str z = V.str x by rw [hz])]
  exact ⟨_, _, rfl, _, _, rfl, rfl, q⟩
theorem rd_seq3no {x : Str} {v : V} {xs : List V} {σ : L2.St} {H : Hp} {F : Option (List V) → Hp → Prop} (h : Tu H v xs) (hl : xs.length ≠ 3) (q : F none H) : pSeq 3 (psCons (pVal (tC (.str x))) (psCons pCap (psCons pCap psNil))) v σ H F := ⟨_, h, ite_nn hl q⟩
section
variable {P : Program} {w : World} {K : PySem.W.Frag} {mg : Str → Option Value} {base : Heap}
theorem sc_count_by : FnScope ["way", "most", "step", "low", "high"] ["way", "most"] (defScope s_count_by) := ⟨rfl, rfl, rfl, by decide +kernel, rfl, by decide +kernel, by decide +kernel⟩
def sp_count_by : Sp := fun vs H Q _ => ∃ (v : V) (W : Way) (m : Int), vs = [v, .int m] ∧ Tu H v (wayV W) ∧ WayOk W ∧ 0 ≤ m ∧ Q (.int (byF W m)) H
theorem ok_count_by (T : TX w K mg) : FnR P w K mg base CX0 3 (a_count_by K) sp_count_by :=
  fnr0 (f_count_by T) sc_count_by (fun vs H Q E ⟨_, _, _, e, _⟩ => by rw [e]; rfl) (fun _ _ _ _ _ _ us hl => match us, hl with | [_, _], _ => rfl) fun cdv A outer s H vs Q E hr h => by
    obtain ⟨v, W, m, rfl, hv, hW, hm, q⟩ := h
    have nd := sc_count_by.nd
    refine ⟨_, pss_one (ps_match (pv 0) (pm_cons (pp_seq rfl (pps_cons (pp_val pe_str) (pps_cons pp_cap pps_nil))) (pb_cons (i := 2) nd rfl (Or.inl rfl) pb_nil) (pss_one (ps_ret (pe_op op_fdivW (pv 1) (pv 2))))
      (pm_cons (pp_seq rfl (pps_cons (pp_val pe_str) (pps_cons pp_cap (pps_cons pp_cap pps_nil)))) (pb_cons (i := 3) nd rfl (Or.inl rfl) (pb_cons (i := 4) nd rfl (Or.inl rfl) pb_nil)) (pss_one (ps_ret (pe_f (ok_count_sums T) (g_count_sums T) (kp_count_sums T) hr (pa_cons (pv 3) (pa_cons (pv 4) (pa_cons (pv 1) pa_nil))))))
      (pm_cons pp_any pb_nil (pss_one (ps_ret pe_int)) pm_nil)))), ?_⟩
    refine ⟨_, rfl, ?_⟩
    cases W with
    | steps s =>
      refine rd_seq2 hv ⟨_, _, rfl, rfl, _, rfl, _, rfl, _, _, rfl, rfl, ⟨hW.1, ?_⟩, q⟩
      have : s.natAbs < 2 ^ 41 := by have := hW.1; have := hW.2; omega
      have h2 : s.natAbs.log2 < 41 := (Nat.log2_lt (by have := hW.1; omega)).mpr this
      omega
    | sums l u => exact rd_seq2no hv (by simp [wayV]) (rd_seq3 hv rfl ⟨_, _, rfl, _, _, rfl, rfl, _, rfl, _, rfl, _, rfl, _, _, _, rfl, hW.1, hW.2, hm, q⟩)
    | none => exact rd_seq2no hv (by simp [wayV]) (rd_seq3no hv (by simp [wayV]) ⟨rfl, q⟩)
theorem sc_numbered : FnScope ["way", "number", "step", "low", "high"] ["way", "number"] (defScope s_numbered) := ⟨rfl, rfl, rfl, by decide +kernel, rfl, by decide +kernel, by decide +kernel⟩
def sp_numbered (K : PySem.W.Frag) : Sp := fun vs H Q _ => ∃ (v : V) (W : Way) (m : Int), vs = [v, .int m] ∧ Tu H v (wayV W) ∧ WayOk W ∧ 0 ≤ m ∧ TbI K H ∧ ∀ H', KT [] H H' → TbI K H' → Q (oV (numF W m)) H'
theorem ok_numbered (T : TX w K mg) (hB : LamX.TabB base mg (He.codeOf K ("sum_at", none)) (tbP K)) : FnR P w K mg base CX0 6 (a_numbered K) (sp_numbered K) :=
  fnr0 (f_numbered T) sc_numbered (fun vs H Q E ⟨_, _, _, e, _⟩ => by rw [e]; rfl) (fun _ _ _ _ _ _ us hl => match us, hl with | [_, _], _ => rfl) fun cdv A outer s H vs Q E hr h => by
    obtain ⟨v, W, m, rfl, hv, hW, hm, hT, q⟩ := h
    have nd := sc_numbered.nd
    refine ⟨_, pss_one (ps_match (pv 0) (pm_cons (pp_seq rfl (pps_cons (pp_val pe_str) (pps_cons pp_cap pps_nil))) (pb_cons (i := 2) nd rfl (Or.inl rfl) pb_nil) (pss_one (ps_ret (pe_op op_mul (pv 2) (pe_op op_add (pv 1) pe_int))))
      (pm_cons (pp_seq rfl (pps_cons (pp_val pe_str) (pps_cons pp_cap (pps_cons pp_cap pps_nil)))) (pb_cons (i := 3) nd rfl (Or.inl rfl) (pb_cons (i := 4) nd rfl (Or.inl rfl) pb_nil)) (pss_one (ps_ret (pe_f (ok_sum_at T hB) (g_sum_at T) (kp_sum_at T) hr (pa_cons (pv 3) (pa_cons (pv 4) (pa_cons (pv 1) pa_nil))))))
      (pm_cons pp_any pb_nil (pss_one (ps_ret pe_non)) pm_nil)))), ?_⟩
    refine ⟨_, rfl, ?_⟩
    cases W with
    | steps s =>
      obtain ⟨s1, s2⟩ := hW
      exact rd_seq2 hv ⟨_, _, rfl, rfl, _, rfl, _, rfl, _, _, rfl, rfl, _, _, rfl, rfl, .inl ⟨by omega, by omega⟩, q _ .refl hT⟩
    | sums l u => exact rd_seq2no hv (by simp [wayV]) (rd_seq3 hv rfl ⟨_, _, rfl, _, _, rfl, rfl, _, rfl, _, rfl, _, rfl, _, _, _, rfl, hW.1, hW.2, hm, hT, q⟩)
    | none => exact rd_seq2no hv (by simp [wayV]) (rd_seq3no hv (by simp [wayV]) ⟨rfl, q _ .refl hT⟩)
theorem sc_next_side : FnScope ["pair", "box", "axis", "least", "way"] ["pair", "box", "axis", "least"] (defScope s_next_side) := ⟨rfl, rfl, rfl, by decide +kernel, rfl, by decide +kernel, by decide +kernel⟩
def sp_next_side (K : PySem.W.Frag) : Sp := fun vs H Q _ => ∃ (u v : V) (n k : Nat) (one other box : List Int) (least : Int), vs = [u, v, .int (k : Nat), .int least] ∧ TP2 H u one other ∧ Ti H v box ∧ Sds n one ∧ Sds n other ∧ Sds n box ∧ k < n ∧ n ≤ 4 ∧ 1 ≤ least ∧ TbI K H ∧ ∀ H', KT [] H H' → TbI K H' → Q (oV (nextF (alongF one other box n k) least)) H'
theorem ok_next_side (T : TX w K mg) (hB : LamX.TabB base mg (He.codeOf K ("sum_at", none)) (tbP K)) : FnR P w K mg base CX0 7 (a_next_side K) (sp_next_side K) :=
  fnr0 (f_next_side T) sc_next_side (fun vs H Q E ⟨_, _, _, _, _, _, _, _, e, _⟩ => by rw [e]; rfl) (fun _ _ _ _ _ _ us hl => match us, hl with | [_, _, _, _], _ => rfl) fun cdv A outer s H vs Q E hr h => by
    obtain ⟨u, v, n, k, one, other, box, least, rfl, hu, hv, h1, h2, h3, hk, n4, hl, hT, q⟩ := h
    have nd := sc_next_side.nd
    refine ⟨_, pss_cons (ps_set (i := 4) nd rfl (Or.inl rfl) (pe_f (ok_along T) (g_along T) (kp_along T) hr (pa_cons (pv 0) (pa_cons (pv 1) (pa_cons (pv 2) pa_nil)))))
      (pss_one (ps_ret (pe_f (ok_numbered T hB) (g_numbered T) (kp_numbered T) hr (pa_cons (pv 4) (pa_cons (pe_f (ok_count_by T) (g_count_by T) (kp_count_by T) hr (pa_cons (pv 4) (pa_cons (pe_op op_sub (pv 3) pe_int) pa_nil))) pa_nil))))), ?_⟩
    refine ⟨_, rfl, _, rfl, _, rfl, _, _, n, k, one, other, box, rfl, hu, hv, h1, h2, h3, hk, n4, fun r H1 k1 hr1 => ?_⟩
    have W := alongF_ok (box := box) h1 h2 hk
    refine ⟨_, rfl, _, rfl, _, rfl, _, _, rfl, rfl, _, _, _, rfl, hr1, W, by omega, ?_⟩
    exact ⟨_, _, _, rfl, hr1, W, byF_nn W (by omega), hT.kp0 k1, fun H2 k2 t2 => q H2 (k1.kt.trans k2) t2⟩
end
end TB
namespace TB
open PySem PySem.Spec PyProof.Rows L2
open PySem.W in
/-- NoAxis.__init__ as it stands behind the top -/
theorem na_def {w : World} {K : PySem.W.Frag} {mg : Str → Option Value} (T : TX w K mg) : ∃ (oc : Value) (od : Option Addr) (kV doc pm : Value) (an : Option Addr) (c : Addr) (ct : Value) (osl : Array (Option Value)) (cc : Addr) (ccl : Value) (cod : Option Addr) (csl : Array (Option Value)) (vs : Array Value) (o1 : Value) (o2 : Option Addr) (o4 : Array (Option Value)) (tf : Tok),
    K.lookup (iaN K) = some ⟨oc, od, .func (fnX "__init__" "NoAxis.__init__" (defArgs s_NoAxis_init) (defBody s_NoAxis_init) (defScope s_NoAxis_init) [("__class__", cc)] .none kV doc pm an (.ref c) ct), osl⟩ ∧ codeIn K (.ref c) "NoAxis.__init__" = true ∧
      K.lookup cc = some ⟨ccl, cod, .cell (some (.ref (He.ga K "NoAxis"))), csl⟩ ∧ K.lookup c = some ⟨o1, o2, .fields vs, o4⟩ ∧ vs[2]? = some (.str PW.main.file tf) := by
  have h1 := nx_in T
  have h2 := T.c.i
  unfold naB at h1
  unfold fnA0 at h2
  split at h2
  · rename_i oc od fd osl lk
    rw [lk] at h1
    simp only [Bool.and_eq_true] at h1
    obtain ⟨⟨⟨hc, hd⟩, hcl⟩, hf⟩ := h1
    obtain ⟨x1, x2, x3, x4, x5, x6, x7, x8, x9, x10, x11, x12, x13, x14⟩ := fd
    unfold ival at h2
    simp only [Option.some.injEq, Prod.mk.injEq] at h2
    obtain ⟨rfl, rfl, rfl, rfl, rfl, rfl, e7, rfl⟩ := h2
    simp only at hcl hf hc hd
    split at hcl
    · rename_i nm cc
      split at hcl
      · rename_i ccl cod c2 csl lkc
        simp only [beq_iff_eq] at hcl
        subst hcl
        split at hf
        · rename_i cv c
          split at hf
          · rename_i o1 o2 vs o4 lk2
            split at hf
            · rename_i z1 z2 f tf l hv
              simp only [beq_iff_eq] at hf
              subst hf
              simp only [List.map_cons, List.map_nil, List.cons.injEq, Prod.mk.injEq, and_true] at e7
              subst e7
              have hdn : x8 = .none := by
                rcases He.dflB_ok hd with ⟨_, e⟩ | ⟨e, _⟩
                · exact e
                · exact absurd rfl e
              subst hdn
              refine ⟨_, _, _, _, _, _, c, _, _, cc, _, _, _, vs, _, _, _, tf, lk, hc, lkc, lk2, ?_⟩
              obtain ⟨vs⟩ := vs
              have hv : vs = z1 :: z2 :: .str PW.main.file tf :: l := hv
              rw [hv]; rfl
            · cases hf
          · cases hf
        · cases hf
      · cases hcl
    · cases hcl
  · cases h2
/-! ### ValueError.__init__ bound to an exception that is being made -/
section
open PySem.W
variable {prog : Program} {w : World} {A : Around} {E : Value → Shared → Prop} {hh : Heap} {gg : Array GenState} {dd : Drawn} {tt : Nat} {oo : OsState}
theorem call_mw {nm qn : Str} {C N mw ex t0 : Addr} {bs bm : List Value} {hdct : Bool} {sn : List Str} {sub : List Value} {ab : Bool} {col : Option Bool} {dt : Option Addr} {k0 k1 k2 k3 k5 : Option Value} {us : List Value} {Q : Value → Shared → Prop}
    (hcl : hh.get? C = some (excClassObj nm qn C N bs bm hdct sn sub ab col dt k0 k1 k2 k3 k5 "ValueError.__new__")) (hex : hh.get? ex = some (HandSPX.excO C t0)) (hmw : hh.get? mw = some (kxs_mw "ValueError.__init__" ex)) (hus : us.length ≤ sizeLine)
    (fin : ∀ h2 t1, (∀ b o, b ≠ ex → hh.get? b = some o → h2.get? b = some o) → h2.get? ex = some (HandSPX.excO C t1) → Q .none ⟨h2, gg, dd, tt, oo⟩) :
    wpAny (model prog w) A (call (.ref mw) us) Q E ⟨hh, gg, dd, tt, oo⟩ := by
  have yes : (Value.type "method-wrapper" == Value.type "method" || Value.type "method-wrapper" == Value.type "builtin_function_or_method" || Value.type "method-wrapper" == Value.type "method-wrapper") = true := by decide
  refine wpAny_call (codeAny_of_tree ?_)
  show wpAny _ A.in1 (callAny (.ref mw) ⟨us, []⟩) _ _ _
  simp only [callAny]
  refine wpAny_bind (wpAny_load hmw ?_)
  simp only [kxs_mw, yes, if_true]
  refine KFB.if_so (by decide) ?_
  refine wpAny_bind (check_bound_init F.excBase_ValueError.toExcCallFacts hcl hex rfl ?_)
  refine wpAny_bind (wpAny_pure (wpAny_pure ?_))
  refine ⟨plainId_quiet F.excBase_ValueError.init.plain _, codeAny_builtin F.excBase_ValueError.initEntry ?_⟩
  rw [Around.under_plainId F.excBase_ValueError.init.plain _]
  wp_walk
  refine fin _ hh.objs.size (fun b o nb ho => ?_) ?_
  · exact (Heap.get?_update_other _ _ (Ne.symm nb)).trans (Heap.get?_push_of_some _ ho)
  · exact (Heap.get?_update_self _ (Heap.get?_push_of_some _ hex) rfl).trans rfl
end
/-! ### NoAxis.__init__, walked -/
theorem ln_var {X : Cx} {pins : List (Addr × Obj)} {s : Shared} {σ : L2.St} {H : Hp} {i : Nat} {x : Str} {v : V} {M : Model} {A : Around} {E : Value → Shared → Prop} {Q : Value → Shared → Prop} (I : Inv X pins σ H s) (hN : X.N[i]? = some x) (hv : Vis X.env.scope x) (hs : σ[i]? = some (some v)) (q : ∀ u, RelV v u → Q u s)
    (hcd : (x == ("__classdict__" : Str)) = false := by decide) : wpAny M A (loadName X.env x) Q E s := by
  obtain ⟨m, hn, hl⟩ := I.loc
  obtain ⟨u, r, l⟩ := hl i x v hN hs hv
  rcases l with ⟨k, hm⟩ | ⟨k | k, c, hc, hcell⟩
  · exact wpAny_loadName_local I.ok.kind k hn hm (q u r)
  · exact wpAny_loadName_cell I.ok.kind k hc hcell (q u r)
  · exact wpAny_loadName_free I.ok.kind k hc hcell (q u r) hcd
theorem ln_blt {X : Cx} {pins : List (Addr × Obj)} {s : Shared} {σ : L2.St} {H : Hp} {x : Str} {u : Value} {M : Model} {A : Around} {E : Value → Shared → Prop} {Q : Value → Shared → Prop} (I : Inv X pins σ H s) (hg : Gl X x) (hm : X.mg x = none) (hv : bootBuiltins x = some u) (q : Q u s) (hx : x ≠ "__name__" := by decide) : wpAny M A (loadName X.env x) Q E s := by
  obtain ⟨mb, h1, h2⟩ := I.mod.blt
  have k1 : X.env.scope.kind = .function := I.ok.kind
  have k2 : X.env.kindOf x = some .globalImplicit := hg
  unfold loadName
  simp only [Env.blockKind, k1, k2, ScopeKind.isAnnotationScope, Bool.false_and, Bool.false_eq_true, if_false]
  exact Calls.loadGlobal_builtin (by rw [I.ok.glob]; exact I.mod.glob.keeps I.bk) hm (by rw [I.ok.blt]; exact h1.keeps I.bk) ((h2 x hx).trans hv) q
theorem b_super : bootBuiltins "super" = some (.type "super") := by decide +kernel
theorem ns_na : NdefX.NScope ["self", "given", "__class__"] ["self", "given"] ["__class__"] (defScope s_NoAxis_init) := NdefX.nscope_by (by decide +kernel)
def sp_na (K : PySem.W.Frag) : Sp := fun vs H Q _ => ∃ a y, vs = [.ref a, y] ∧ H a = some (exo a (He.ga K "NoAxis") none) ∧ ∀ dx, H dx = none → dx ≠ a → Q .non (upd (upd H dx (exd dx [("given", y)])) a (exo a (He.ga K "NoAxis") (some dx)))
theorem oex_NoAxis {w : World} {K : PySem.W.Frag} {mg : Str → Option Value} (T : TX w K mg) : OexC K (He.ga K "NoAxis") := ⟨oexB_ok (nx_cls T), nx_sa T, nx_ex T, nx_ty T, nx_kp T⟩
open PySem.W NdefX in
theorem na_run {w : World} {K : PySem.W.Frag} {mg : Str → Option Value} {base : Heap} {k : Nat} (T : TX w K mg) : ∃ fd, FnOk PW w K mg base CX0 (k + 1) (iaN K) fd ["self", "given"] (sp_na K) ∧ L2.Binds K fd ["self", "given"] [] := by
  obtain ⟨oc, od, kV, doc, pm, an, c, ct, osl, cc, ccl, cod, csl, vs0, o1, o2, o4, tf, lk, hcd, lkc, lk2, hv2⟩ := na_def T
  refine ⟨fnX "__init__" "NoAxis.__init__" (defArgs s_NoAxis_init) (defBody s_NoAxis_init) (defScope s_NoAxis_init) [("__class__", cc)] .none kV doc pm an (.ref c) ct, ⟨fun vs H Q E ⟨a, y, e, _⟩ => by rw [e]; rfl, ?_⟩, .all fun us hl => match us, hl with | [_, _], _ => rfl⟩
  intro A outer s H args us vs Q E hr e0 hb r hsp
  obtain ⟨a, y, rfl, ha, q⟩ := hsp
  obtain ⟨us1, u2, rfl, r1, r2⟩ := vals2 r
  have KX : K.In s.heap := e0.mod.kin.keeps fun b o z => (e0.bs b o z).1
  have hlim : s.heap.NoLimit := e0.mod.nolimit.keeps fun b o z => (e0.bs b o z).1
  have S := ns_na
  refine codeAny_call_function hr.depth (KX _ _ lk) rfl rfl rfl rfl (PySem.W.codeRec_of KX hcd) (hb _ _ _ _ ?_)
  refine wpAny_newFunctionEnv S.nocell (fun ⟨m, _⟩ hy => S.par m (List.of_mem_zip hy).1) (fun h₁ hns hsb => ⟨hlim.fresh _ hsb, ?_⟩) S.kind
  have hkp : ∀ b o, s.heap.get? b = some o → h₁.get? b = some o := fun b o z => hsb.extBut b o (Nat.ne_of_lt (Heap.lt_size z)) (Heap.get?_push_of_some _ z)
  have C : CellsAt [("__class__", cc)] ["__class__"] [some (V.ref (He.ga K "NoAxis"))] s.heap H := by
    have nc : H cc = none := (e0.bs cc _ (e0.mod.kin _ _ lkc)).2
    have ic : s.heap.IsCell cc (some (.ref (He.ga K "NoAxis"))) := ⟨_, KX _ _ lkc, rfl⟩
    have one : ∀ (x : Str) (d : Addr), ([("__class__", cc)] : List (Str × Addr)).lookup x = some d → x = "__class__" ∧ d = cc := fun x d z => by
      have := PySem.mem_of_lookup z
      simpa using this
    refine ⟨rfl, fun x d z => ?_, fun x z d h1 h2 => (one x d h1).1.trans (one z d h2).1.symm, fun i x z => ?_⟩
    · obtain ⟨_, rfl⟩ := one x d z
      exact ⟨nc, _, ic⟩
    · match i, z with
      | 0, z =>
        cases z
        exact ⟨cc, rfl, fun v e => by cases e; exact ⟨_, rfl, ic⟩⟩
  have I0 := inv_startN (CX := CX0) (E := E) (f := iaN K) (N := ["self", "given", "__class__"]) (F := ⟨"__init__", "NoAxis.__init__", defArgs s_NoAxis_init, defBody s_NoAxis_init, defScope s_NoAxis_init, [("__class__", cc)], c⟩) (ws := [some (V.ref (He.ga K "NoAxis"))]) (tk := s.toks + (["self", "given"].zip [us1, u2]).length) S hr.hd e0 rfl r C hns hkp
  refine ks_codeAny_funcAt ?_
  obtain ⟨nm, qn, N, bs, bm, sn, sub, ab, col, dd, k0, k1, k2, k3, k5, hC, hbm⟩ := (oex_NoAxis T).cls
  refine ks_wpAt_execs_cons (ks_wpAt_Expr_any (ks_wpAt_MethodCall (ks_wpAt_super_base (hks := rfl) (hkc := rfl) (hat := by decide) (hfu := rfl) (hf := hkp _ _ (KX _ _ lk)) (hfd := rfl) (hp := rfl) (hco := rfl) (hcc := hkp _ _ (KX _ _ lk2)) (hoc := rfl) (hvs := hv2) (hfile := by simp) (htop := by decide +kernel) ?_)))
  refine ln_blt I0 rfl (n_super T) b_super ⟨rfl, ?_⟩
  refine ln_var I0 (i := 2) (x := "__class__") rfl (.inr (.inr rfl)) rfl fun uc rc => ?_
  obtain rfl : uc = Value.ref (He.ga K "NoAxis") := rc
  refine ln_var I0 (i := 0) (x := "self") rfl (.inl rfl) rfl fun ua ra => ?_
  obtain rfl : ua = Value.ref a := ra
  have KX1 : K.In h₁ := KX.keeps hkp
  obtain ⟨t1, hx1⟩ := exo_at I0.hok ha
  refine ks_wpAny_isType_cls (KX1 _ _ hC) rfl ⟨rfl, ?_⟩
  refine ks_wpAny_call_super (KX1 _ _ hC) rfl hx1 rfl (fun _ z => nomatch z) (looks_subIn KX1 (nx_sub T)) fun h2 hso k2 => ?_
  have KX2 : K.In h2 := KX1.keeps k2
  have hx2 := k2 _ _ hx1
  have J2 : PySem.W.InstAt h2 a _ (He.ga K "NoAxis") none := ⟨hx2, rfl, rfl, trivial⟩
  obtain ⟨cd, hcls⟩ : ∃ cd, clsIn K (He.ga K "NoAxis") = some cd := ⟨_, by unfold clsIn; rw [hC]⟩
  have hsup := nx_sup T
  unfold ks_superIn at hsup
  rw [hcls] at hsup
  have hne : a ≠ He.ga K "NoAxis" := fun z => by
    have := KX1 _ _ hC
    rw [← z, hx1] at this
    cases this
  refine kxs_getMethod kxs_ValueError hso (looks_opaque KX2 (st_any T)) (l₀ := cd.mro) (fun A Q E s k q => wpAny_bind ((looks_clsIn KX2 hcls) A _ E s k (wpAny_pure q))) rfl KX2 hsup (J2.type.andThen (looks_subIn KX2 (nx_ve T))) hne (by decide) ?_
  have kk : ∀ b o, h₁.get? b = some o → (h2.push (kxs_mw "ValueError.__init__" a)).get? b = some o := fun b o z => Heap.get?_push_of_some _ (k2 b o z)
  have I3 := I0.kept (t' := s.toks + (["self", "given"].zip [us1, u2]).length + 1) kk
  refine kxs_callWith (i := "ValueError.__init__") (x := a) rfl (Calls.evalArgs_plain ?_)
  refine Calls.spliced_cons (ld_var I3 (i := 1) (x := "given") rfl (.inl rfl) rfl fun ug rg => ?_)
  have hmw : (h2.push (kxs_mw "ValueError.__init__" a)).get? h2.objs.size = some (kxs_mw "ValueError.__init__" a) := Heap.get?_push_size _ rfl
  refine Calls.spliced_nil ⟨hmw, ?_⟩
  refine call_mw (KX2.keeps (fun b o z => Heap.get?_push_of_some _ z) _ _ hC) (kk _ _ hx1) hmw (by show 1 ≤ sizeLine; decide) fun h4 t4 k4 hx4 => ?_
  have I4 := I3.write (t' := s.toks + (["self", "given"].zip [us1, u2]).length + 1) (x := a) (e := a) (o := exo a (He.ga K "NoAxis") none) (by rw [ha]; exact True.intro) (.inl rfl) k4 ⟨_, hx4⟩ (exo_ok hx4)
  have eu : upd H a (exo a (He.ga K "NoAxis") none) = H := by
    funext b
    by_cases z : b = a
    · rw [z, upd_same, ha]
    · rw [upd_ne z]
  rw [eu] at I4
  refine ks_wpAt_execs_cons (wpAt_of_wpAny ?_)
  refine wpAny_mono ((ps_ost (X := ncx CX0 PW w K mg base ["self", "given", "__class__"] ⟨"__init__", "NoAxis.__init__", defArgs s_NoAxis_init, defBody s_NoAxis_init, defScope s_NoAxis_init, [("__class__", cc)], c⟩ (iaN K) A outer s H E) (pv 0) (pv 1)).run [] _ _ H { nx := fun _ H' => Q .non H', rt := Q } I4 ?_) (fun fl s' hs => ?_) fun e s' z => z
  · refine ⟨_, rfl, _, rfl, a, He.ga K "NoAxis", rfl, oex_NoAxis T, nx_giv T, .inl ⟨ha, q⟩⟩
  · cases fl with
    | next =>
      obtain ⟨σ', H', J, hq⟩ := hs
      exact wpAt_of_wpAny (wpAny_execs_nil ⟨.non, H', J.os, J.bare, J.base, J.hok, rfl, hq⟩)
    | ret u =>
      obtain ⟨v, σ', H', J, rv, hq⟩ := hs
      exact ⟨v, H', J.os, J.bare, J.base, J.hok, rv, hq⟩
    | brk =>
      obtain ⟨_, _, _, z⟩ := hs
      exact False.elim z
    | cont =>
      obtain ⟨_, _, _, z⟩ := hs
      exact False.elim z
/-! ### NoAxis(..), NothingToUndo() made -/
theorem pmk_na {X : Cx} (hP : X.prog = PW) (T : TX X.w X.K X.mg) {k : Nat} {e : PySem.Expr} {te : TE} {p pos : Pos} (hr : Room (k + 2) X.A) (he : PE X e te) (hg : Gl X "NoAxis" := by rfl) (hst : starEach [e] X.env = (false, eval e X.env) :: starEach [] X.env := by rfl) (hpl : (backTo pos (starEach [] X.env)).any (·.1) = false := by rfl) :
    PMk X (.Call (.Name "NoAxis" p) [e] [] pos) (tMkO (He.ga X.K "NoAxis") (sp_na X.K) [] (tCons te tNil)) := by
  obtain ⟨fd, F1, hb⟩ := na_run (base := X.base) (k := k) T
  rw [← hP] at F1
  exact pmk_oex (X := X) (dvs := []) (oex_NoAxis T) (nx_ini T) (nx_tyf T) F1 hr hb .nil pass0 hg (g_NoAxis T) (pa_cons he pa_nil (hs := hst)) (by decide) hst hpl
theorem rd_na {K : PySem.W.Frag} {H1 : Hp} {y : V} {Q : XK} (q : ∀ d H2, Kp [] H1 H2 → H2 d = some (.xd [("given", y)]) → Q (.ref (He.ga K "NoAxis")) (some d) H2) :
    [y].length ≤ 1000 ∧ ∀ a, H1 a = none → sp_na K (.ref a :: ([y] ++ [])) (upd H1 a (exo a (He.ga K "NoAxis") none)) (fun v H2 => v = .non ∧ ∃ (d : Addr) (fs : List (Str × V)), H2 a = some (exo a (He.ga K "NoAxis") (some d)) ∧ H2 d = some (exd d fs) ∧ H1 d = none ∧ Q (.ref (He.ga K "NoAxis")) (some d) (upd (del H2 a) d (.xd fs))) (fun _ _ _ => False) := by
  refine ⟨Nat.le_of_ble_eq_true rfl, fun a ha => ⟨a, y, rfl, upd_same, fun dx hdx ne => ⟨rfl, dx, _, upd_same, by rw [upd_ne ne, upd_same], by rwa [upd_ne ne] at hdx, q dx _ ?_ upd_same⟩⟩⟩
  rw [upd_ne ne] at hdx
  have at_ : ∀ b o, H1 b = some o → upd (del (upd (upd (upd H1 a (exo a (He.ga K "NoAxis") none)) dx (exd dx [("given", y)])) a (exo a (He.ga K "NoAxis") (some dx))) a) dx (.xd [("given", y)]) b = some o := fun b o e => by
    have n1 := ne_of_none e hdx
    have n2 := ne_of_none e ha
    rw [upd_ne n1, del_ne n2, upd_ne n2, upd_ne n1, upd_ne n2, e]
  exact ⟨fun b o e _ => at_ b o e, fun b xs e => at_ b _ e⟩
theorem pmk_nu {X : Cx} (T : TX X.w X.K X.mg) {p pos : Pos} (hg : Gl X "NothingToUndo" := by rfl) : PMk X (.Call (.Name "NothingToUndo" p) [] [] pos) (fun _ H Q => Q (.ref (He.ga X.K "NothingToUndo")) none H) := by
  intro pins s σ H Q I h
  refine wpAny_Call_Name_kw (ld_glob I hg (g_NothingToUndo T) ?_)
  refine PySem.W.callWith_K0 (first := []) I.kIn (nu_kp T) ?_
  obtain ⟨bm, N, nm, qn, bs, hdct, sn, sub, ab, col, dd, k0, k1, k2, k3, k5, mN, hC, hN, hni, hT⟩ := exc_obj I.kIn (nu_ex T)
  refine wpAny_call_exc_subT F.excBase_ValueError hT hC hN hni (fun h' e hm => ?_) (Nat.zero_le _)
  exact mk_of I hm (raises_own (nu_be T) (nu_ty T)) h (I.hok.gone hm.new)
end TB
namespace TB
open PySem PySem.Spec PyProof.Rows L2
/-! ### isinstance of an exception, with or without a dict -/
section
open PySem.W
variable {prog : Program} {w : World} {A : Around} {E : Value → Shared → Prop} {K : Frag} {ex Cl : Addr} {obj : Obj} {odi : Option Obj}
theorem find_cls (C : ExcC K Cl) : findObj K Cl odi "__class__" = some (.bind (.builtin "getset_descriptor.__get__") (.builtin "object.__class__")) := by
  obtain ⟨cd, hc, _⟩ := any_some C.hd
  unfold findObj
  rw [hc, Option.bind_some, C.ha, Option.bind_some]
  simp [C.hn, C.ht]
theorem ask_class {st : Shared} {Q : Option Value → Shared → Prop} (C : ExcC K Cl) (hK : K.In st.heap) (J : InstAt st.heap ex obj Cl odi) (fin : Q (some (.ref Cl)) { st with toks := st.toks + 1 }) : wpAny (model prog w) A (getAttr? (.ref ex) "__class__") Q E st := by
  have hfo := find_cls (odi := odi) C
  obtain ⟨mem, gs, dr, tk, oo⟩ := st
  have e1 := J.type (M := model prog w)
  have e2 := looks_findIn (M := model prog w) hK C.hg
  have e3 := looks_findIn (M := model prog w) hK C.hk
  have e4 := looks_find (M := model prog w) hK J hfo
  have isB : Looks (model prog w) mem (isInstance (.ref ex) (.type "BaseException")) true := e1.andThen (looks_subIn hK C.hs)
  have n0 : (false && onTheHeap (.builtin "BaseException.__getattribute__")) = false := rfl
  have n2 : (Value.builtin "BaseException.__getattribute__" == .builtin "object.__getattribute__") = false := by decide +kernel
  have n1 : (onTheHeap (.ref Cl) && Value.builtin "BaseException.__getattribute__" == .builtin "object.__getattribute__") = false := by rw [n2]; rfl
  unfold getAttr?
  unfold getAttrBy?
  unfold getAttrBy
  refine wpAny_bind (wpAny_mkText ?_)
  refine wpAny_bind (wpAny_attempt ?_)
  refine wpAny_holding (wpAny_bind (e1.at (wpAny_bind (e2.at ?_))))
  show wpAny _ _ (if (onTheHeap (.ref Cl) && Value.builtin "BaseException.__getattribute__" == .builtin "object.__getattribute__") = true then _ else _) _ _ _
  rw [n1, if_neg Bool.false_ne_true]
  unfold getAttrByItsOwn
  unfold hookBefore
  refine wpAny_bind ?_
  rw [if_pos (show onTheHeap (.ref Cl) = true from rfl)]
  refine e3.at (wpAny_bind ?_)
  refine wpAny_attempt ?_
  refine wpAny_holding ?_
  unfold callGetattribute
  rw [n0, if_neg Bool.false_ne_true]
  unfold boundAndCalled
  rw [F.excAttr_ValueError.ga.bind (.ref ex)]
  refine wpAny_bind (wpAny_pure ?_)
  show wpAny _ _ (call (.builtin "BaseException.__getattribute__") [.ref ex, .str "__class__" tk]) _ _ _
  refine wpAny_call (codeAny_call_builtin F.excAttr_ValueError.ga.plain F.entry_bexc_ga ?_)
  refine @check_slot (model prog w) _ _ ⟨mem, gs, dr, tk + 1, oo⟩ "BaseException.__getattribute__" "BaseException" "__getattribute__" (.ref ex) [.str "__class__" tk] [] _ (by decide +kernel) (by decide +kernel) isB (F.args_bexc_ga (.ref ex) (.str "__class__" tk)) ?_
  unfold Builtin.«object.__getattribute__»
  refine wpAny_bind (wpAny_of_eq (a := ((Value.ref ex : Value), [Value.str "__class__" tk])) (by first | rfl | (simp only [slotArgs]; rfl)) ?_)
  refine wpAny_bind (wpAny_pure (wpAny_bind (e1.at (wpAny_bind (e4.at ?_)))))
  show wpAny _ _ (holding [Value.builtin "object.__class__"] (call (.builtin "getset_descriptor.__get__") [.builtin "object.__class__", .ref ex, .ref Cl]) >>= ret) _ _ _
  refine wpAny_bind (wpAny_holding (wpAny_call (class_get (s := ⟨mem, gs, dr, tk + 1, oo⟩) (ox := obj) (od := odi) hK J C.hm ?_)))
  refine wpAny_pure ?_
  show wpAny _ _ (handedOut (.ref Cl)) _ _ _
  rw [handedOut_of (v := .ref Cl) rfl]
  first
    | exact wpAny_pure (wpAny_pure fin)
    | exact wpAny_pure fin
    | exact wpAny_pure (wpAny_bind (wpAny_pure (wpAny_pure fin)))
theorem kit_exc (C : ExcC K Cl) : KitX K (.ref ex) (.ref Cl) (fun h => ∃ obj odi, InstAt h ex obj Cl odi) where
  ty := fun _ _ _ ⟨_, _, J⟩ => J.type
  it := fun _ _ hK _ => by
    obtain ⟨cd, hcd, _⟩ := any_some C.hd
    unfold clsIn at hcd
    split at hcd
    · rename_i lk
      intro A' Q' E' st k q
      unfold isType
      unfold loadHead
      exact wpAny_bind (wpAny_loadPart (k _ _ (hK _ _ lk)) (wpAny_pure q))
    · cases hcd
  ne := fun mem tp dd its n sl hK htp => by
    obtain ⟨cd, hcd, _⟩ := any_some C.hd
    refine Bool.eq_false_iff.mpr fun q => ?_
    obtain rfl : Cl = tp := Value.ref.inj (beq_iff_eq.mp q)
    unfold clsIn at hcd
    split at hcd
    · rename_i lk
      cases (hK _ _ lk).symm.trans htp
    · cases hcd
  ca := fun hK ⟨_, _, J⟩ k => ask_class C hK J k
end
/-- isinstance(e, c), e an exception that the caller holds -/
def rIsX (K : PySem.W.Frag) (D a : Addr) (d : Option Addr) : List V → Hp → VK → Prop := fun xs H Q => ∃ (c : V) (cv : Value) (b : Bool), xs = [.ref a, c] ∧ (∀ u, RelV c u → u = cv) ∧ PySem.W.kitOne K (.ref D) cv = some b ∧ (∀ dd, d = some dd → ∃ fs, H dd = some (.xd fs)) ∧ Q (.bl b) H
theorem is_pin {X : Cx} {a D : Addr} {oe : Obj} {d : Option Addr} (C : ExcC X.K D) (hp : (a, oe) ∈ X.pn) (hz : Zc (.ref D) d oe) (hv : ∃ vs, oe.data = .fields vs) : CallR X (.builtin "isinstance") (rIsX X.K D a d) := by
  intro pins s2 σ H2 xs us Q I r h
  obtain ⟨c, cv, b, rfl, hcv, e, hd, q⟩ := h
  obtain ⟨u1, u2, rfl, r1, r2⟩ := vals2 r
  obtain rfl : u1 = Value.ref a := r1
  obtain rfl := hcv _ r2
  have hget : s2.heap.get? a = some oe := (I.pin (a, oe) (List.mem_append.mpr (.inl hp))).1
  obtain ⟨vs, hv⟩ := hv
  have J : ∃ obj odi, PySem.W.InstAt s2.heap a obj D odi := by
    obtain ⟨oc, od, oda, osl⟩ := oe
    obtain ⟨h1, h2⟩ := hz
    dsimp only at h1 h2 hv
    subst h1 h2 hv
    cases od with
    | none => exact ⟨_, none, hget, rfl, rfl, trivial⟩
    | some dd =>
      obtain ⟨fs, hx⟩ := hd dd rfl
      obtain ⟨mA, ⟨od, es, ep, e, c⟩, r⟩ := I.hok dd _ hx
      exact ⟨_, some _, hget, rfl, rfl, e⟩
  exact PySem.W.kia_one (kit_exc C) I.kIn J e (fun z => nomatch z) fun tk => ⟨.bl b, H2, I.kept (t' := tk) fun _ _ z => z, rfl, q⟩
/-! ### a def called with an exception that the caller holds -/
open L2H in
theorem fnP_at {P : Program} {w : World} {K : PySem.W.Frag} {mg : Str → Option Value} {base : Heap} {x qual : Str} {st : Stmt} {f : Addr} {N ps : List Str} {k : Nat}
    (F : ∃ fd, FunD K x qual (defArgs st) (defBody st) (defScope st) [] [] f fd) (S : FnScope N ps (defScope st))
    (hb : ∀ (kV doc pm : Value) (an : Option Addr) (cdv ct : Value) (us : List Value), us.length = ps.length → bindArgs (PySem.W.fnOf x qual (defArgs st) (defBody st) (defScope st) .none kV doc pm an cdv ct) ⟨us, []⟩ = pure (ps.zip us))
    {A : Around} {outer : List Env} {s : Shared} {H : Hp} {us : List Value} {vs : List V} {Q : VK} {E : XK} {p : Addr × Obj} (hr : RoomH (k + 1) A) (e0 : Env0 P w K mg base A outer s H) (hpin : PinOk outer H s p) (r : Vals vs us) (hl : vs.length = ps.length)
    (hbody : ∀ cdv : Value, RoomH k (A.deeper (envOfC qual (defScope st) s.heap.objs.size f cdv)) → ∃ t, PSs (cxH CX0 P w K mg base N qual (defScope st) f cdv A outer s H E p) (defBody st) t ∧ t { nx := fun _ H' => Q .non H', rt := Q } (L2.start N vs) H) :
    codeAny (model P w) A (.call (.ref f) ⟨us, []⟩) (CR CX0 outer P w H s Q E) s := by
  obtain ⟨fd, F⟩ := F
  have hB := F.bindsA hb s us (r.length.symm.trans hl)
  obtain ⟨oc, od, dV, kV, doc, pm, an, cdv, ct, osl, rfl, lk, hcd, _, _⟩ := F.ex
  have hK : K.In s.heap := e0.mod.kin.keeps fun b o z => (e0.bs b o z).1
  have hlim : s.heap.NoLimit := e0.mod.nolimit.keeps fun b o z => (e0.bs b o z).1
  have kinds : ∀ y ∈ ps.zip us, (defScope st).names.lookup y.1 = some .local ∨ ((defScope st).names.lookup y.1 = some .cell ∧ ((cellsFrom (s.heap.objs.size + 1) (defScope st).names []).lookup y.1).isSome = true) := fun ⟨n, v⟩ hy => by
    rcases S.par n (List.of_mem_zip hy).1 with z | z
    · exact .inl z
    · exact .inr ⟨z, PySem.W.cellsFrom_some _ _ _ (.inl z)⟩
  refine codeAny_call_function hr.depth (hK _ _ lk) rfl S.co S.gen rfl (PySem.W.codeRec_of hK hcd) (hB _ _ _ _ ?_)
  refine wpAny_newFunctionEnv_cells S.kind kinds fun env he s1 z => ?_
  subst he
  refine ⟨hlim.keeps z.toInCall.keep, codeAny_func ?_⟩
  obtain ⟨t, ht, hq⟩ := hbody cdv (hr.deeper _)
  have I := inv_startH (CX := CX0) (K := K) (mg := mg) (base := base) (f := f) (E := E) S hpin e0 hl r z
  refine wpAny_mono (ht.run [] s1 (L2.start N vs) H _ I hq) (fun fl s' hs => ?_) fun e s' hs => hs
  cases fl with
  | ret u =>
    obtain ⟨v, σ', H', J, rv, hq⟩ := hs
    exact ⟨v, H', J.os, J.bare, J.base, J.hok, rv, hq⟩
  | next =>
    obtain ⟨σ', H', J, hq⟩ := hs
    exact ⟨.non, H', J.os, J.bare, J.base, J.hok, rfl, hq⟩
  | brk =>
    obtain ⟨_, _, _, z⟩ := hs
    exact False.elim z
  | cont =>
    obtain ⟨_, _, _, z⟩ := hs
    exact False.elim z
def tPin (i : Nat) (a : Addr) (sp : Hp → VK → Prop) : TE := fun σ H Q => σ[i]? = some (some (.ref a)) ∧ sp H Q
open L2H in
theorem pe_pin {X : Cx} {x y qual : Str} {st : Stmt} {f a : Addr} {oe : Obj} {N : List Str} {k i : Nat} {sp : Hp → VK → Prop} {z : Str} {p p2 pos : Pos} (hp : (a, oe) ∈ X.pn)
    (F : ∃ fd, FunD X.K x qual (defArgs st) (defBody st) (defScope st) [] [] f fd) (S : FnScope N [z] (defScope st))
    (hb : ∀ (kV doc pm : Value) (an : Option Addr) (cdv ct u : Value), bindArgs (PySem.W.fnOf x qual (defArgs st) (defBody st) (defScope st) .none kV doc pm an cdv ct) ⟨[u], []⟩ = pure [(z, u)])
    (hr : RoomH (k + 1) X.A) (hm : X.mg x = some (.ref f)) (hk : PySem.W.keepIn X.K (.ref f) = true) (hN : X.N[i]? = some y) (hv : Vis X.env.scope y)
    (hbody : ∀ (A : Around) (outer : List Env) (s : Shared) (H : Hp) (Q : VK) (cdv : Value), RoomH k (A.deeper (envOfC qual (defScope st) s.heap.objs.size f cdv)) → sp H Q → ∃ t, PSs (cxH CX0 X.prog X.w X.K X.mg X.base N qual (defScope st) f cdv A outer s H (fun _ _ _ => False) (a, oe)) (defBody st) t ∧ t { nx := fun _ H' => Q .non H', rt := Q } (L2.start N [.ref a]) H)
    (hg : Gl X x := by rfl) (hdx : (x == ("__debug__" : Str)) = false := by decide) (hd : (y == ("__debug__" : Str)) = false := by decide) (hcd : (y == ("__classdict__" : Str)) = false := by decide)
    (he : starEach [.Name y p2] X.env = (false, eval (.Name y p2) X.env) :: starEach [] X.env := by rfl) (hpl : (backTo pos (starEach [] X.env)).any (·.1) = false := by rfl) :
    PE X (.Call (.Name x p) [.Name y p2] [] pos) (tPin i a sp) := by
  refine ⟨fun pins s σ H Q I h => ?_⟩
  obtain ⟨hs, hq⟩ := h
  refine wpAny_Call_Name_kw (ld_glob I hg hm ?_ hdx)
  refine PySem.W.callWith_K (h₀ := X.base) I.ok.mod.kin hk (thn ((pa_cons (pe_var hN hv hd hcd) pa_nil (hs := he)).run pos pins s σ H (fun vs H1 => vs = [.ref a] ∧ H1 = H) I ⟨.ref a, hs, rfl, rfl⟩) fun us s1 ⟨vs, H1, I1, r1, ev, eH⟩ => ⟨I1.kIn, ?_⟩) he hpl
  subst ev eH
  obtain ⟨g1, g2, g3, g4, g5⟩ := I1.pin (a, oe) (List.mem_append.mpr (.inl hp))
  have hpin : PinOk X.stack H1 s1 (a, oe) := ⟨g1, g2, fun m => (List.mem_cons.mp (I1.stkSub _ m)).elim g3 g4, g5⟩
  refine wpAny_call (codeAny_mono (fnP_at (Q := Q) (E := fun _ _ _ => False) (N := N) (ps := [z]) F S (fun kV doc pm an cdv ct us hl => match us, hl with | [u], _ => hb kV doc pm an cdv ct u) hr I1.env0 hpin r1 rfl fun cdv h => hbody _ _ _ _ _ cdv h hq) fun r s' z => ?_)
  cases r with
  | error e => exact z.elim
  | ok fl =>
    cases fl with
    | ret u => exact I1.after z
    | next => exact False.elim z
    | brk => exact False.elim z
    | cont => exact False.elim z
end TB
namespace TB
open PySem PySem.Spec PyProof.Rows L2 L2H
theorem pe_cls {X : Cx} {x : Str} {C : Addr} {pos : Pos} (hm : X.mg x = some (.ref C)) (hg : Gl X x := by rfl) (hd : (x == ("__debug__" : Str)) = false := by decide) : PE X (.Name x pos) (tC (.ref C)) := pe_glob (v := .ref C) hg hm rfl hd
theorem rd_is {K : PySem.W.Frag} {D a C : Addr} {d : Option Addr} {b : Bool} {σ : L2.St} {H : Hp} {F : Bool → Hp → Prop} (hs : σ[0]? = some (some (.ref a))) (hk : PySem.W.kitOne K (.ref D) (.ref C) = some b) (hd : ∀ dd, d = some dd → ∃ fs, H dd = some (.xd fs)) (q : F b H) :
    tB (tCB (rIsX K D a d) (tCons (tVar 0) (tCons (tC (.ref C)) tNil))) σ H F := ⟨_, hs, _, _, b, rfl, fun u r => r, hk, hd, b, rfl, q⟩
theorem exc_NoAxis {w : World} {K : PySem.W.Frag} {mg : Str → Option Value} (T : TX w K mg) : ExcC K (He.ga K "NoAxis") := let X := xfB_ok (nx_xf T); ⟨X.ga, X.gg, X.exC, X.hdC, nx_cl T, tc2_Yard T, tc3_Yard T, nx_ob T⟩
theorem exc_NothingToUndo {w : World} {K : PySem.W.Frag} {mg : Str → Option Value} (T : TX w K mg) : ExcC K (He.ga K "NothingToUndo") := let X := xfB_ok (nu_xf T); ⟨X.ga, X.gg, X.exC, X.hdC, nu_cl T, tc2_Yard T, tc3_Yard T, nu_ob T⟩
theorem sc_first_name : FnScope ["error"] ["error"] (defScope s_first_name) := ⟨rfl, rfl, rfl, by decide +kernel, rfl, by decide +kernel, by decide +kernel⟩
theorem sc_name_of : FnScope ["error", "found"] ["error"] (defScope s_name_of) := ⟨rfl, rfl, rfl, by decide +kernel, rfl, by decide +kernel, by decide +kernel⟩
section
variable {X : Cx} {a : Addr} {oe : Obj} {d : Option Addr} {i k : Nat} {p p2 pos : Pos}
theorem pe_first (T : TX X.w X.K X.mg) (hp : (a, oe) ∈ X.pn) (hz : Zc (.ref (He.ga X.K "NoAxis")) d oe) (hv : ∃ vs, oe.data = .fields vs) (hr : RoomH (k + 1) X.A) (hN : X.N[i]? = some ("error" : Str)) (hvs : Vis X.env.scope "error") (hg : Gl X "first_name" := by rfl)
    (he : starEach [.Name "error" p2] X.env = (false, eval (.Name "error" p2) X.env) :: starEach [] X.env := by rfl) (hpl : (backTo pos (starEach [] X.env)).any (·.1) = false := by rfl) :
    PE X (.Call (.Name "first_name" p) [.Name "error" p2] [] pos) (tPin i a fun H Q => (∀ dd, d = some dd → ∃ fs, H dd = some (.xd fs)) ∧ Q (.str "NoAxis") H) := by
  have C := exc_NoAxis T
  refine pe_pin (k := k) (z := "error") (N := ["error"]) hp (f_first_name T) sc_first_name (fun _ _ _ _ _ _ _ => rfl) hr (g_first_name T) (kp_first_name T) hN hvs (fun A outer s H Q cdv hr h => ?_) hg (by decide) (by decide) (by decide) he hpl
  obtain ⟨hd, q⟩ := h
  have hp : (a, oe) ∈ [(a, oe)] := List.mem_cons_self
  refine ⟨_, (pss_cons (ps_if (pt_val (pe_callB (is_pin C hp hz hv) (by rfl) (n_isinstance T) b_isinstance (pa_cons (pv 0) (pa_cons (pe_cls (g_BadBatch T)) pa_nil)))) (pss_one (ps_ret pe_str)) pss_nil) (pss_cons (ps_if (pt_val (pe_callB (is_pin C hp hz hv) (by rfl) (n_isinstance T) b_isinstance (pa_cons (pv 0) (pa_cons (pe_cls (g_BadBox T)) pa_nil)))) (pss_one (ps_ret pe_str)) pss_nil) (pss_cons (ps_if (pt_val (pe_callB (is_pin C hp hz hv) (by rfl) (n_isinstance T) b_isinstance (pa_cons (pv 0) (pa_cons (pe_cls (g_BadKinds T)) pa_nil)))) (pss_one (ps_ret pe_str)) pss_nil) (pss_cons (ps_if (pt_val (pe_callB (is_pin C hp hz hv) (by rfl) (n_isinstance T) b_isinstance (pa_cons (pv 0) (pa_cons (pe_cls (g_BadOrder T)) pa_nil)))) (pss_one (ps_ret pe_str)) pss_nil) (pss_cons (ps_if (pt_val (pe_callB (is_pin C hp hz hv) (by rfl) (n_isinstance T) b_isinstance (pa_cons (pv 0) (pa_cons (pe_cls (g_BadPaper T)) pa_nil)))) (pss_one (ps_ret pe_str)) pss_nil) (pss_cons (ps_if (pt_val (pe_callB (is_pin C hp hz hv) (by rfl) (n_isinstance T) b_isinstance (pa_cons (pv 0) (pa_cons (pe_cls (g_BadSide T)) pa_nil)))) (pss_one (ps_ret pe_str)) pss_nil) (pss_cons (ps_if (pt_val (pe_callB (is_pin C hp hz hv) (by rfl) (n_isinstance T) b_isinstance (pa_cons (pv 0) (pa_cons (pe_cls (g_BadText T)) pa_nil)))) (pss_one (ps_ret pe_str)) pss_nil) (pss_cons (ps_if (pt_val (pe_callB (is_pin C hp hz hv) (by rfl) (n_isinstance T) b_isinstance (pa_cons (pv 0) (pa_cons (pe_cls (g_Busy T)) pa_nil)))) (pss_one (ps_ret pe_str)) pss_nil) (pss_cons (ps_if (pt_val (pe_callB (is_pin C hp hz hv) (by rfl) (n_isinstance T) b_isinstance (pa_cons (pv 0) (pa_cons (pe_cls (g_NoAxis T)) pa_nil)))) (pss_one (ps_ret pe_str)) pss_nil) (pss_cons (ps_if (pt_val (pe_callB (is_pin C hp hz hv) (by rfl) (n_isinstance T) b_isinstance (pa_cons (pv 0) (pa_cons (pe_cls (g_NoKind T)) pa_nil)))) (pss_one (ps_ret pe_str)) pss_nil) (pss_one (ps_ret pe_non)))))))))))), ?_⟩
  refine rd_is rfl (k1_BadBatch T) hd (iteF ?_)
  refine rd_is rfl (k1_BadBox T) hd (iteF ?_)
  refine rd_is rfl (k1_BadKinds T) hd (iteF ?_)
  refine rd_is rfl (k1_BadOrder T) hd (iteF ?_)
  refine rd_is rfl (k1_BadPaper T) hd (iteF ?_)
  refine rd_is rfl (k1_BadSide T) hd (iteF ?_)
  refine rd_is rfl (k1_BadText T) hd (iteF ?_)
  refine rd_is rfl (k1_Busy T) hd (iteF ?_)
  exact rd_is rfl (k1_NoAxis T) hd (iteT q)
theorem pe_name_na (T : TX X.w X.K X.mg) (hp : (a, oe) ∈ X.pn) (hz : Zc (.ref (He.ga X.K "NoAxis")) d oe) (hv : ∃ vs, oe.data = .fields vs) (hr : RoomH (k + 2) X.A) (hN : X.N[i]? = some ("error" : Str)) (hvs : Vis X.env.scope "error") (hg : Gl X "name_of" := by rfl)
    (he : starEach [.Name "error" p2] X.env = (false, eval (.Name "error" p2) X.env) :: starEach [] X.env := by rfl) (hpl : (backTo pos (starEach [] X.env)).any (·.1) = false := by rfl) :
    PE X (.Call (.Name "name_of" p) [.Name "error" p2] [] pos) (tPin i a fun H Q => (∀ dd, d = some dd → ∃ fs, H dd = some (.xd fs)) ∧ Q (.str "NoAxis") H) := by
  have C := exc_NoAxis T
  refine pe_pin (k := k + 1) (z := "error") (N := ["error", "found"]) hp (f_name_of T) sc_name_of (fun _ _ _ _ _ _ _ => rfl) hr (g_name_of T) (kp_name_of T) hN hvs (fun A outer s H Q cdv hr h => ?_) hg (by decide) (by decide) (by decide) he hpl
  obtain ⟨hd, q⟩ := h
  have hp : (a, oe) ∈ [(a, oe)] := List.mem_cons_self
  refine ⟨_, (pss_cons (ps_if (pt_val (pe_callB (is_pin C hp hz hv) (by rfl) (n_isinstance T) b_isinstance (pa_cons (pv 0) (pa_cons (pe_cls (g_NoNumber T)) pa_nil)))) (pss_one (ps_ret pe_str)) pss_nil) (pss_cons (ps_if (pt_val (pe_callB (is_pin C hp hz hv) (by rfl) (n_isinstance T) b_isinstance (pa_cons (pv 0) (pa_cons (pe_cls (g_NoSeam T)) pa_nil)))) (pss_one (ps_ret pe_str)) pss_nil) (pss_cons (ps_if (pt_val (pe_callB (is_pin C hp hz hv) (by rfl) (n_isinstance T) b_isinstance (pa_cons (pv 0) (pa_cons (pe_cls (g_NoVersion T)) pa_nil)))) (pss_one (ps_ret pe_str)) pss_nil) (pss_cons (ps_if (pt_val (pe_callB (is_pin C hp hz hv) (by rfl) (n_isinstance T) b_isinstance (pa_cons (pv 0) (pa_cons (pe_cls (g_NotFilled T)) pa_nil)))) (pss_one (ps_ret pe_str)) pss_nil) (pss_cons (ps_if (pt_val (pe_callB (is_pin C hp hz hv) (by rfl) (n_isinstance T) b_isinstance (pa_cons (pv 0) (pa_cons (pe_cls (g_NothingToUndo T)) pa_nil)))) (pss_one (ps_ret pe_str)) pss_nil) (pss_cons (ps_if (pt_val (pe_callB (is_pin C hp hz hv) (by rfl) (n_isinstance T) b_isinstance (pa_cons (pv 0) (pa_cons (pe_cls (g_Rejected T)) pa_nil)))) (pss_one (ps_ret pe_str)) pss_nil) (pss_cons (ps_if (pt_val (pe_callB (is_pin C hp hz hv) (by rfl) (n_isinstance T) b_isinstance (pa_cons (pv 0) (pa_cons (pe_cls (g_TooLarge T)) pa_nil)))) (pss_one (ps_ret pe_str)) pss_nil) (pss_cons (ps_if (pt_val (pe_callB (is_pin C hp hz hv) (by rfl) (n_isinstance T) b_isinstance (pa_cons (pv 0) (pa_cons (pe_cls (g_TooManyEdits T)) pa_nil)))) (pss_one (ps_ret pe_str)) pss_nil) (pss_cons (ps_if (pt_val (pe_callB (is_pin C hp hz hv) (by rfl) (n_isinstance T) b_isinstance (pa_cons (pv 0) (pa_cons (pe_cls (g_UnlikeAxes T)) pa_nil)))) (pss_one (ps_ret pe_str)) pss_nil) (pss_cons (ps_if (pt_val (pe_callB (is_pin C hp hz hv) (by rfl) (n_isinstance T) b_isinstance (pa_cons (pv 0) (pa_cons (pe_cls (g_Unfit T)) pa_nil)))) (pss_one (ps_ret pe_str)) pss_nil) (pss_cons (ps_set (i := 1) sc_name_of.nd rfl (Or.inl rfl) (pe_first (k := k) (i := 0) T hp hz hv hr rfl (.inl rfl))) (pss_one (ps_ret (pe_ifExp (pt_cmpR op_isN (pv 1) pe_non (nomark _)) pe_str (pv 1))))))))))))))), ?_⟩
  refine rd_is rfl (k1_NoNumber T) hd (iteF ?_)
  refine rd_is rfl (k1_NoSeam T) hd (iteF ?_)
  refine rd_is rfl (k1_NoVersion T) hd (iteF ?_)
  refine rd_is rfl (k1_NotFilled T) hd (iteF ?_)
  refine rd_is rfl (k1_NothingToUndo T) hd (iteF ?_)
  refine rd_is rfl (k1_Rejected T) hd (iteF ?_)
  refine rd_is rfl (k1_TooLarge T) hd (iteF ?_)
  refine rd_is rfl (k1_TooManyEdits T) hd (iteF ?_)
  refine rd_is rfl (k1_UnlikeAxes T) hd (iteF ?_)
  refine rd_is rfl (k1_Unfit T) hd (iteF ?_)
  exact ⟨rfl, hd, _, rfl, rfl, _, rfl, iteF ⟨_, rfl, q⟩⟩
theorem pe_name_nu (T : TX X.w X.K X.mg) (hp : (a, oe) ∈ X.pn) (hz : Zc (.ref (He.ga X.K "NothingToUndo")) d oe) (hv : ∃ vs, oe.data = .fields vs) (hr : RoomH (k + 2) X.A) (hN : X.N[i]? = some ("error" : Str)) (hvs : Vis X.env.scope "error") (hg : Gl X "name_of" := by rfl)
    (he : starEach [.Name "error" p2] X.env = (false, eval (.Name "error" p2) X.env) :: starEach [] X.env := by rfl) (hpl : (backTo pos (starEach [] X.env)).any (·.1) = false := by rfl) :
    PE X (.Call (.Name "name_of" p) [.Name "error" p2] [] pos) (tPin i a fun H Q => (∀ dd, d = some dd → ∃ fs, H dd = some (.xd fs)) ∧ Q (.str "NothingToUndo") H) := by
  have C := exc_NothingToUndo T
  refine pe_pin (k := k + 1) (z := "error") (N := ["error", "found"]) hp (f_name_of T) sc_name_of (fun _ _ _ _ _ _ _ => rfl) hr (g_name_of T) (kp_name_of T) hN hvs (fun A outer s H Q cdv hr h => ?_) hg (by decide) (by decide) (by decide) he hpl
  obtain ⟨hd, q⟩ := h
  have hp : (a, oe) ∈ [(a, oe)] := List.mem_cons_self
  refine ⟨_, (pss_cons (ps_if (pt_val (pe_callB (is_pin C hp hz hv) (by rfl) (n_isinstance T) b_isinstance (pa_cons (pv 0) (pa_cons (pe_cls (g_NoNumber T)) pa_nil)))) (pss_one (ps_ret pe_str)) pss_nil) (pss_cons (ps_if (pt_val (pe_callB (is_pin C hp hz hv) (by rfl) (n_isinstance T) b_isinstance (pa_cons (pv 0) (pa_cons (pe_cls (g_NoSeam T)) pa_nil)))) (pss_one (ps_ret pe_str)) pss_nil) (pss_cons (ps_if (pt_val (pe_callB (is_pin C hp hz hv) (by rfl) (n_isinstance T) b_isinstance (pa_cons (pv 0) (pa_cons (pe_cls (g_NoVersion T)) pa_nil)))) (pss_one (ps_ret pe_str)) pss_nil) (pss_cons (ps_if (pt_val (pe_callB (is_pin C hp hz hv) (by rfl) (n_isinstance T) b_isinstance (pa_cons (pv 0) (pa_cons (pe_cls (g_NotFilled T)) pa_nil)))) (pss_one (ps_ret pe_str)) pss_nil) (pss_cons (ps_if (pt_val (pe_callB (is_pin C hp hz hv) (by rfl) (n_isinstance T) b_isinstance (pa_cons (pv 0) (pa_cons (pe_cls (g_NothingToUndo T)) pa_nil)))) (pss_one (ps_ret pe_str)) pss_nil) pss_never))))), ?_⟩
  refine rd_is rfl (k2_NoNumber T) hd (iteF ?_)
  refine rd_is rfl (k2_NoSeam T) hd (iteF ?_)
  refine rd_is rfl (k2_NoVersion T) hd (iteF ?_)
  refine rd_is rfl (k2_NotFilled T) hd (iteF ?_)
  exact rd_is rfl (k2_NothingToUndo T) hd (iteT q)
end
end TB
namespace TB
open PySem PySem.Spec PyProof.Rows L2
/-! ### words: items said, joined -/
def sayV : V → Str
  | .int i => Str.ofString (toString i)
  | .str s => s
  | _ => Str.empty
def okW (x : V) : Prop := (∃ i : Int, x = .int i ∧ 0 ≤ i ∧ i < 10 ^ 60) ∨ ∃ s : Str, x = .str s ∧ s.length ≤ 60
theorem sayV_len {x : V} (h : okW x) : (sayV x).length ≤ 60 := by
  rcases h with ⟨i, rfl, h0, h1⟩ | ⟨s, rfl, h⟩
  · exact PyProof.Rows.toString_length_le h0 (by decide) h1
  · exact h
theorem log_ok {i : Int} (h0 : 0 ≤ i) (h1 : i < 10 ^ 60) : i.natAbs.log2 < 1920 := by
  by_cases z : i.natAbs = 0
  · rw [z]; decide
  · exact (Nat.log2_lt z).mpr (Nat.lt_of_lt_of_le (show i.natAbs < 10 ^ 60 by omega) (by decide +kernel))
theorem call_say {X : Cx} : CallR X (.type "str") (fun xs H Q => ∃ x, xs = [x] ∧ okW x ∧ Q (.str (sayV x)) H) := by
  intro pins s σ H xs us Q I r h
  obtain ⟨x, rfl, ok, q⟩ := h
  rcases ok with ⟨i, rfl, h0, h1⟩ | ⟨y, rfl, _⟩
  · exact call_str_int pins s σ H _ _ Q I r ⟨i, rfl, log_ok h0 h1, q⟩
  · exact SkE.call_str_str pins s σ H _ _ Q I r ⟨y, rfl, q⟩
def sayJ (sep : Str) (xs : List V) : Str := Txt.join sep (xs.map sayV)
theorem sum_len : ∀ {xs : List V}, (∀ x ∈ xs, okW x) → ((xs.map sayV).map (·.length)).sum ≤ 60 * xs.length
  | [], _ => Nat.le_refl _
  | x :: xs, h => by
    have h1 := sayV_len (h x (List.mem_cons_self ..))
    have h2 := sum_len (xs := xs) fun y hy => h y (List.mem_cons_of_mem _ hy)
    simp only [List.map_cons, List.sum_cons, List.length_cons]
    omega
theorem say_take {xs : List V} {i : Nat} {y : V} (h : xs[i]? = some y) : ((xs.take (i + 1)).map fun x => V.str (sayV x)) = ((xs.take i).map fun x => V.str (sayV x)) ++ [V.str (sayV y)] := by
  rw [List.take_succ, h, List.map_append]; rfl
/-- sep.join([str(x) for x in t]), t a tuple: behind the pieces -/
theorem rd_say {X : Cx} {K : PySem.W.Frag} {sep : Str} {xs : List V} {H1 : Hp} {D : Addr} {Q : VK} (hD : H1 D = none) (hok : ∀ x ∈ xs, okW x) (hl : xs.length ≤ 30) (hs : sep.length ≤ 10) (q : ∀ H', Kp [] H1 H' → Q (.str (sayJ sep xs)) H') :
    ∀ H', PvL [] H1 D (fun i => (xs.take i).map fun x => V.str (sayV x)) xs.length H' → ∃ a p, ∃ ys : List Str, V.str sep = .str a ∧ [V.ref D] = [.ref p] ∧ (SqL K H' p (ys.map V.str) ∨ SqT K H' p (ys.map V.str)) ∧ (ys.map (·.length)).sum + ys.length * a.length ≤ 16777216 ∧ Q (.str (Txt.join a ys)) H' := by
  intro H' ⟨k, hd⟩
  refine ⟨sep, D, xs.map sayV, rfl, rfl, .inl (SqL.of ?_), ?_, q H' k⟩
  · rw [hd]; show some (HO.lst ((xs.take xs.length).map _)) = _; rw [List.take_length, List.map_map]; rfl
  · have := sum_len hok
    have : (xs.map sayV).length * sep.length ≤ 30 * 10 := by rw [List.length_map]; exact Nat.mul_le_mul hl hs
    omega
section
variable {P : Program} {w : World} {K : PySem.W.Frag} {mg : Str → Option Value} {base : Heap}
def sp_say (sep : Str) : Sp := fun vs H Q _ => ∃ v xs, vs = [v] ∧ Tu H v xs ∧ (∀ x ∈ xs, okW x) ∧ xs.length ≤ 30 ∧ ∀ H', Kp [] H H' → Q (.str (sayJ sep xs)) H'
theorem sc_sides_text : FnScope ["sides", "side"] ["sides"] (defScope s_sides_text) := ⟨rfl, rfl, rfl, by decide +kernel, rfl, by decide +kernel, by decide +kernel⟩
theorem ok_sides_text (T : TX w K mg) : FnR P w K mg base CX0 1 (a_sides_text K) (sp_say "x") :=
  fnr0 (f_sides_text T) sc_sides_text (fun vs H Q E ⟨_, _, e, _⟩ => by rw [e]; rfl) (fun _ _ _ _ _ _ us hl => match us, hl with | [_], _ => rfl) fun cdv A outer s H vs Q E hr h => by
    obtain ⟨v, xs, rfl, ⟨a, rfl, ha⟩, hok, hl, q⟩ := h
    have nd := sc_sides_text.nd
    refine ⟨_, pss_one (ps_ret (pe_join pe_str (pe_lc (own := [("side", 1)]) rfl nd (pi_tup (pv 0)) (blkOk_by (N := ["sides", "side"]) (sc := defScope s_sides_text) (by decide +kernel))
      (fun _ _ _ _ _ => pg_name (i := 1) nd rfl (Or.inl rfl)) (fun _ _ _ _ _ => pts_nil) (fun _ _ _ _ _ => pe_callTy call_say (by rfl) (n_str T) b_str (pa_cons (pv 1) pa_nil))))), ?_⟩
    refine ⟨⟨_, rfl⟩, _, rfl, a, rfl, ⟨_, SqT.of ha⟩, fun D hD => ?_⟩
    refine lcP walk_tup [] (fun i => (xs.take i).map fun x => V.str (sayV x)) hD rfl (fun i H' p => SqT.of (p.1.tup a _ ha)) (fun i x H1 H2 hi p y => ?_) (rd_say (X := (cxOf CX0 P w K mg base ["sides", "side"] "sides_text" (defScope s_sides_text) (a_sides_text K) cdv A outer s H E).nox) hD hok hl (by decide) q)
    obtain ⟨rfl, hx⟩ := y
    have hDD := p.2
    refine ⟨rfl, tYesI ⟨_, rfl, x, rfl, hok x (List.mem_of_getElem? hx), ?_⟩⟩
    exact lcAdd hD p.1 hDD (by simp only [List.length_map, List.length_take]; omega) (say_take hx)
theorem sc_spoken : FnScope ["items", "item"] ["items"] (defScope s_spoken) := ⟨rfl, rfl, rfl, by decide +kernel, rfl, by decide +kernel, by decide +kernel⟩
theorem ok_spoken (T : TX w K mg) : FnR P w K mg base CX0 1 (a_spoken K) (sp_say " ") :=
  fnr0 (f_spoken T) sc_spoken (fun vs H Q E ⟨_, _, e, _⟩ => by rw [e]; rfl) (fun _ _ _ _ _ _ us hl => match us, hl with | [_], _ => rfl) fun cdv A outer s H vs Q E hr h => by
    obtain ⟨v, xs, rfl, ⟨a, rfl, ha⟩, hok, hl, q⟩ := h
    have nd := sc_spoken.nd
    refine ⟨_, pss_one (ps_ret (pe_join pe_str (pe_lc (own := [("item", 1)]) rfl nd (pi_tup (pv 0)) (blkOk_by (N := ["items", "item"]) (sc := defScope s_spoken) (by decide +kernel))
      (fun _ _ _ _ _ => pg_name (i := 1) nd rfl (Or.inl rfl)) (fun _ _ _ _ _ => pts_nil) (fun _ _ _ _ _ => pe_callTy call_say (by rfl) (n_str T) b_str (pa_cons (pv 1) pa_nil))))), ?_⟩
    refine ⟨⟨_, rfl⟩, _, rfl, a, rfl, ⟨_, SqT.of ha⟩, fun D hD => ?_⟩
    refine lcP walk_tup [] (fun i => (xs.take i).map fun x => V.str (sayV x)) hD rfl (fun i H' p => SqT.of (p.1.tup a _ ha)) (fun i x H1 H2 hi p y => ?_) (rd_say (X := (cxOf CX0 P w K mg base ["items", "item"] "spoken" (defScope s_spoken) (a_spoken K) cdv A outer s H E).nox) hD hok hl (by decide) q)
    obtain ⟨rfl, hx⟩ := y
    have hDD := p.2
    refine ⟨rfl, tYesI ⟨_, rfl, x, rfl, hok x (List.mem_of_getElem? hx), ?_⟩⟩
    exact lcAdd hD p.1 hDD (by simp only [List.length_map, List.length_take]; omega) (say_take hx)
theorem sc__law_words : FnScope ["_law_items", "_law_item"] ["_law_items"] (defScope s__law_words) := ⟨rfl, rfl, rfl, by decide +kernel, rfl, by decide +kernel, by decide +kernel⟩
theorem ok__law_words (T : TX w K mg) : FnR P w K mg base CX0 1 (a__law_words K) (sp_say " ") :=
  fnr0 (f__law_words T) sc__law_words (fun vs H Q E ⟨_, _, e, _⟩ => by rw [e]; rfl) (fun _ _ _ _ _ _ us hl => match us, hl with | [_], _ => rfl) fun cdv A outer s H vs Q E hr h => by
    obtain ⟨v, xs, rfl, ⟨a, rfl, ha⟩, hok, hl, q⟩ := h
    have nd := sc__law_words.nd
    refine ⟨_, pss_one (ps_ret (pe_join pe_str (pe_lc (own := [("_law_item", 1)]) rfl nd (pi_tup (pv 0)) (blkOk_by (N := ["_law_items", "_law_item"]) (sc := defScope s__law_words) (by decide +kernel))
      (fun _ _ _ _ _ => pg_name (i := 1) nd rfl (Or.inl rfl)) (fun _ _ _ _ _ => pts_nil) (fun _ _ _ _ _ => pe_callTy call_say (by rfl) (n_str T) b_str (pa_cons (pv 1) pa_nil))))), ?_⟩
    refine ⟨⟨_, rfl⟩, _, rfl, a, rfl, ⟨_, SqT.of ha⟩, fun D hD => ?_⟩
    refine lcP walk_tup [] (fun i => (xs.take i).map fun x => V.str (sayV x)) hD rfl (fun i H' p => SqT.of (p.1.tup a _ ha)) (fun i x H1 H2 hi p y => ?_) (rd_say (X := (cxOf CX0 P w K mg base ["_law_items", "_law_item"] "_law_words" (defScope s__law_words) (a__law_words K) cdv A outer s H E).nox) hD hok hl (by decide) q)
    obtain ⟨rfl, hx⟩ := y
    have hDD := p.2
    refine ⟨rfl, tYesI ⟨_, rfl, x, rfl, hok x (List.mem_of_getElem? hx), ?_⟩⟩
    exact lcAdd hD p.1 hDD (by simp only [List.length_map, List.length_take]; omega) (say_take hx)
end
end TB
namespace TB
open PySem PySem.Spec PyProof.Rows L2
/-! ### len(set(t)), t a tuple of ints without repeats -/
def tLenSetT (ta : TE) : TE := fun σ H Q => ta σ H fun x H1 => ∃ ns : List Int, Ti H1 x ns ∧ ns.length ≤ 100 ∧ ns.Nodup ∧ Q (.int (ns.length : Nat)) H1
theorem nodup_len {l m : List Int} (hl : l.Nodup) (hm : m.Nodup) (h : ∀ k, k ∈ l ↔ k ∈ m) : l.length = m.length :=
  Nat.le_antisymm (hl.length_le_of_subset fun k hk => (h k).mp hk) (hm.length_le_of_subset fun k hk => (h k).mpr hk)
theorem pe_lenSetT {X : Cx} {a : PySem.Expr} {ta : TE} {p p2 q pos : Pos} (hc : X.calm = true) (hm : X.mg "len" = none) (hm2 : X.mg "set" = none) (ha : PE X a ta) (hg : Gl X "len" := by rfl) (hg2 : Gl X "set" := by rfl)
    (na : starEach [a] X.env = (false, eval a X.env) :: starEach [] X.env := by rfl) : PE X (.Call (.Name "len" p) [.Call (.Name "set" p2) [a] [] q] [] pos) (tLenSetT ta) := by
  refine ⟨fun pins s σ H Q I h => ?_⟩
  refine Call_ (ld_blt I hg hm PySem.boot_len ?_)
  refine PyProof.Rows.callWith_builtin1 (PyProof.Rows.args_cons ?_ rfl) rfl rfl
  refine Call_ (ld_blt I hg2 hm2 PyProof.Rows.boot_set ?_)
  refine PyProof.Rows.callWith_type1 (PyProof.Rows.args_cons (thn (ha.run pins s σ H _ I h) fun v s1 ⟨x, H1, I1, r1, q1⟩ => PyProof.Rows.args_nil ?_) na) na rfl
  obtain ⟨ns, ⟨l, rfl, hq⟩, hl, hnd, q1⟩ := q1
  cases r1
  obtain ⟨its, rv, pt, hz⟩ := I1.tuple (SqT.of hq)
  refine call_set_tupI ns (I1.ok.hd hc) (show s1.heap.IsTuple l its.toArray from pt) (ints_of_vals rv) (by unfold scanBound; omega) fun h' tk c hR hcn k => ?_
  obtain ⟨o, es, ep, t, ho, hex, hdt, g, nd, hm2, hb, hf, hn, hr, hl2⟩ := hR
  refine PyProof.Rows.args_nil ?_
  have I2 : Inv X pins σ H1 { s1 with heap := h', toks := tk } := I1.kept k
  have ec : es.size = ns.length := by
    have z := nodup_len nd hnd fun j => (hm2 j).symm.trans (by simp)
    rw [← z]; simp
  exact call_len_set ho hex hdt hf (by omega) ⟨.int (ns.length : Nat), H1, I2.tok _, ⟨_, by rw [ec]⟩, q1⟩
/-! ### an abstract page -/
structure Pg where
  one : List Int
  other : List Int
  box : List Int
def PgV (H : Hp) (v : V) (S : Pg) : Prop := ∃ x y, Tu H v [x, y] ∧ TP2 H x S.one S.other ∧ Ti H y S.box
theorem PgV.kp {Ss : List Addr} {H H' : Hp} {v : V} {S : Pg} (h : PgV H v S) (k : Kp Ss H H') : PgV H' v S := let ⟨x, y, a, b, c⟩ := h; ⟨x, y, a.kp k, b.kp k, c.kp k⟩
theorem PgV.kt {Ss : List Addr} {H H' : Hp} {v : V} {S : Pg} (h : PgV H v S) (k : KT Ss H H') : PgV H' v S := let ⟨x, y, a, b, c⟩ := h; ⟨x, y, a.kt k, b.kt k, c.kt k⟩
/-- sides up to M -/
def SdM (M : Int) (n : Nat) (ns : List Int) : Prop := ns.length = n ∧ ∀ x ∈ ns, 0 < x ∧ x ≤ M
structure PgOk (M : Int) (n : Nat) (S : Pg) : Prop where
  one : SdM M n S.one
  other : SdM M n S.other
  box : SdM M n S.box
  n1 : 1 ≤ n
  n4 : n ≤ 4
theorem SdM.sds {M : Int} {n : Nat} {ns : List Int} (h : SdM M n ns) (hM : M ≤ 1048576) : Sds n ns := ⟨h.1, fun x hx => ⟨(h.2 x hx).1, Int.le_trans (h.2 x hx).2 hM⟩⟩
theorem SdM.mono {M M' : Int} {n : Nat} {ns : List Int} (h : SdM M n ns) (hM : M ≤ M') : SdM M' n ns := ⟨h.1, fun x hx => ⟨(h.2 x hx).1, Int.le_trans (h.2 x hx).2 hM⟩⟩
theorem PgOk.mono {M M' : Int} {n : Nat} {S : Pg} (h : PgOk M n S) (hM : M ≤ M') : PgOk M' n S := ⟨h.one.mono hM, h.other.mono hM, h.box.mono hM, h.n1, h.n4⟩
theorem SdM.set {M : Int} {n k : Nat} {ns : List Int} {x : Int} (h : SdM M n ns) (h0 : 0 < x) (h1 : x ≤ M) : SdM M n (ns.set k x) :=
  ⟨by rw [List.length_set]; exact h.1, fun y hy => (List.mem_or_eq_of_mem_set hy).elim (h.2 y) fun e => by rw [e]; exact ⟨h0, h1⟩⟩
section
variable {P : Program} {w : World} {K : PySem.W.Frag} {mg : Str → Option Value} {base : Heap}
theorem sayJ_len {sep : Str} {xs : List V} (h : ∀ x ∈ xs, okW x) : (sayJ sep xs).length ≤ 60 * xs.length + xs.length * sep.length := by
  have a := StrLaws.join_length_le sep (xs.map sayV)
  have b := sum_len h
  unfold sayJ
  rw [TL.join_eq]
  rw [List.length_map] at a
  omega
theorem okW_int {i : Int} (h0 : 0 ≤ i) (h1 : i ≤ 1000000000000000000) : okW (.int i) := .inl ⟨i, rfl, h0, Int.lt_of_le_of_lt h1 (by decide)⟩
theorem okW_sides {n : Nat} {ns : List Int} (h : Sds n ns) : ∀ x ∈ ns.map V.int, okW x := fun x hx => by
  obtain ⟨i, hi, rfl⟩ := List.mem_map.mp hx
  obtain ⟨a, b⟩ := h.2 i hi
  exact okW_int (by omega) (by omega)
theorem sc_kinds_text : FnScope ["kinds", "sides"] ["kinds"] (defScope s_kinds_text) := ⟨rfl, rfl, rfl, by decide +kernel, rfl, by decide +kernel, by decide +kernel⟩
def sidesT (ns : List Int) : Str := sayJ "x" (ns.map V.int)
def kindsT (one other : List Int) : Str := Txt.join " " [sidesT one, sidesT other]
def sp_kinds_text : Sp := fun vs H Q _ => ∃ v one other n, vs = [v] ∧ TP2 H v one other ∧ Sds n one ∧ Sds n other ∧ n ≤ 4 ∧ ∀ H', Kp [] H H' → Q (.str (kindsT one other)) H'
theorem ok_kinds_text (T : TX w K mg) : FnR P w K mg base CX0 2 (a_kinds_text K) sp_kinds_text :=
  fnr0 (f_kinds_text T) sc_kinds_text (fun vs H Q E ⟨_, _, _, _, e, _⟩ => by rw [e]; rfl) (fun _ _ _ _ _ _ us hl => match us, hl with | [_], _ => rfl) fun cdv A outer s H vs Q E hr h => by
    obtain ⟨v, one, other, n, rfl, ⟨x, y, ⟨a, rfl, ha⟩, hx, hy⟩, h1, h2, n4, q⟩ := h
    have nd := sc_kinds_text.nd
    refine ⟨_, pss_one (ps_ret (pe_join pe_str (pe_lc (own := [("sides", 1)]) rfl nd (pi_tup (pv 0)) (blkOk_by (N := ["kinds", "sides"]) (sc := defScope s_kinds_text) (by decide +kernel))
      (fun _ _ _ _ _ => pg_name (i := 1) nd rfl (Or.inl rfl)) (fun _ _ _ _ _ => pts_nil) (fun _ _ _ _ _ => pe_f (ok_sides_text T) (g_sides_text T) (kp_sides_text T) hr (pa_cons (pv 1) pa_nil))))), ?_⟩
    refine ⟨⟨_, rfl⟩, _, rfl, a, rfl, ⟨_, SqT.of ha⟩, fun D hD => ?_⟩
    refine lcP walk_tup [] (fun i => ([one, other].take i).map fun ns => V.str (sidesT ns)) hD rfl (fun i H' p => SqT.of (p.1.tup a _ ha)) (fun i z H1 H2 hi p yy => ?_) (fun H' p => ?_)
    · obtain ⟨rfl, hz⟩ := yy
      have hDD := p.2
      have k1 := p.1
      refine ⟨rfl, tYesI ?_⟩
      have key : ∀ ns, Ti H2 z ns → Sds n ns → ∀ Q' : VK, (∀ H', Kp [] H2 H' → Q' (.str (sidesT ns)) H') → tCallR (sp_say "x") E0 (tCons (tVar 1) tNil) [some (.ref a), some z] H2 Q' := fun ns hns hs Q' hq => by
        refine ⟨_, rfl, z, ns.map V.int, rfl, hns, okW_sides hs, ?_, hq⟩
        rw [List.length_map, hs.1]; omega
      match i, hz, hi with
      | 0, hz, _ =>
        cases hz
        exact key one (hx.kp k1) h1 _ fun H3 k3 => lcAdd hD (k1.trans k3) (k3.get hDD) (Nat.le_of_ble_eq_true rfl) rfl
      | 1, hz, _ =>
        cases hz
        exact key other (hy.kp k1) h2 _ fun H3 k3 => lcAdd hD (k1.trans k3) (k3.get hDD) (Nat.le_of_ble_eq_true rfl) rfl
    · refine ⟨" ", D, [sidesT one, sidesT other], rfl, rfl, .inl (SqL.of p.2), ?_, q H' p.1⟩
      have l1 := sayJ_len (sep := "x") (okW_sides h1)
      have l2 := sayJ_len (sep := "x") (okW_sides h2)
      rw [List.length_map, h1.1] at l1
      rw [List.length_map, h2.1] at l2
      have e1 : ("x" : Str).length = 1 := rfl
      rw [e1] at l1 l2
      show ((sidesT one).length + ((sidesT other).length + 0)) + 2 * 1 ≤ 16777216
      unfold sidesT
      omega
end
end TB
namespace TB
open PySem PySem.Spec PyProof.Rows L2
/-! ### defs that may raise NoAxis -/
/-- a promise that lets nothing out, among those that may -/
theorem FnR.up {P : Program} {w : World} {K : PySem.W.Frag} {mg : Str → Option Value} {base : Heap} {k : Nat} {f : Addr} {sp : Sp} (F : FnR P w K mg base CX0 k f sp) : FnR P w K mg base (L2.CX P w) k f sp :=
  fun A outer s H us vs Q E hr e0 r h => codeAny_mono (F A outer s H us vs Q E hr e0 r h) fun z s' hq => match z, hq with
    | .ok (.ret _), hq => hq
/-- f(e, ..) with the frame's slots in what it may let out -/
theorem wp_fnS {X : Cx} {pins : List (Addr × Obj)} {σ : L2.St} {H : Hp} {s : Shared} {CX : CXT} {k j : Nat} {f : Addr} {sp : Sp} {E : L2.St → XK} {Q : VK} {us : List Value} {vs : List V} (F : FnR X.prog X.w X.K X.mg X.base CX k f sp) (hr : Room j X.A) (hk : k ≤ j) (hx : PassesAt CX X σ (E σ)) (I : Inv X pins σ H s) (r : Vals vs us) (h : sp vs H Q (E σ)) :
    wpAny (model X.prog X.w) X.A (call (.ref f) us) (EP X pins σ Q) X.xe s := by
  refine wpAny_call (codeAny_mono (F X.A X.stack s H us vs Q (E σ) (hr.mono hk) I.env0 r h) fun z s' hq => ?_)
  cases z with
  | error e => exact hx pins H s e s' I hq
  | ok fl =>
    cases fl with
    | ret u => exact I.after hq
    | next => exact False.elim hq
    | brk => exact False.elim hq
    | cont => exact False.elim hq
section
variable {X : Cx} {x : Str} {e : PySem.Expr} {es : List PySem.Expr} {t : L2.TA} {pos p : Pos}
theorem pe_fS {CX : CXT} {k j : Nat} {f : Addr} {sp : Sp} {E : L2.St → XK} (F : FnR X.prog X.w X.K X.mg X.base CX k f sp) (hm : X.mg x = some (.ref f)) (hk : PySem.W.keepIn X.K (.ref f) = true) (hr : Room j X.A) (ha : PA X (e :: es) t) (hx : ∀ σ, PassesAt CX X σ (E σ))
    (hkj : k ≤ j := by decide) (hg : Gl X x := by rfl) (hdb : (x == ("__debug__" : Str)) = false := by decide) (he : starEach (e :: es) X.env = (false, eval e X.env) :: starEach es X.env := by rfl) (hpl : (backTo pos (starEach es X.env)).any (·.1) = false := by rfl) :
    PE X (.Call (.Name x p) (e :: es) [] pos) (tCallS sp E t) := by
  refine ⟨fun pins s σ H Q I h => ?_⟩
  refine wpAny_Call_Name_kw (ld_glob I hg hm ?_ hdb)
  refine PySem.W.callWith_K (h₀ := X.base) I.ok.mod.kin hk (thn (ha.run pos pins s σ H _ I h) fun us s1 ⟨vs, H1, I1, r, q⟩ => ⟨I1.kIn, ?_⟩) he hpl
  exact wp_fnS F hr hkj (hx σ) I1 r q
end
/-- what a body of a def that may raise takes -/
theorem tkX {P : Program} {w : World} {K : PySem.W.Frag} {mg : Str → Option Value} {base : Heap} {N : List Str} {q : Str} {sc : Scope} {f : Addr} {cd : Value} {A : Around} {outer : List Env} {s : Shared} {H : Hp} {E : XK} :
    Takes (cxOf (L2.CX P w) P w K mg base N q sc f cd A outer s H E) (fun cls d _ H => E cls d H) := takes_of rfl rfl rfl rfl
theorem psX {P : Program} {w : World} {K : PySem.W.Frag} {mg : Str → Option Value} {base : Heap} {N : List Str} {q : Str} {sc : Scope} {f : Addr} {cd : Value} {A : Around} {outer : List Env} {s : Shared} {H : Hp} {E : XK} :
    Passes (L2.CX P w) (cxOf (L2.CX P w) P w K mg base N q sc f cd A outer s H E) E := passes_call tkX fun _ _ _ _ h => h
/-- NoAxis(k) is let out -/
def NAx (K : PySem.W.Frag) (H : Hp) (k : Int) (E : XK) : Prop := ∀ d H', Kp [] H H' → H' d = some (.xd [("given", .int k)]) → E (.ref (He.ga K "NoAxis")) (some d) H'
theorem NAx.kp {K : PySem.W.Frag} {H H1 : Hp} {k : Int} {E : XK} (h : NAx K H k E) (kk : Kp [] H H1) : NAx K H1 k E := fun d H' k1 e => h d H' (kk.trans k1) e
section
variable {w : World} {K : PySem.W.Frag} {mg : Str → Option Value} {base : Heap}
theorem sc_require_axis : FnScope ["box", "axis"] ["box", "axis"] (defScope s_require_axis) := ⟨rfl, rfl, rfl, by decide +kernel, rfl, by decide +kernel, by decide +kernel⟩
def sp_require_axis (K : PySem.W.Frag) : Sp := fun vs H Q E => ∃ (u : V) (xs : List V) (k : Nat), vs = [u, .int (k : Nat)] ∧ Tu H u xs ∧ (k < xs.length → Q .non H) ∧ (¬ k < xs.length → NAx K H k E)
theorem ok_require_axis (T : TX w K mg) : FnR PW w K mg base (L2.CX PW w) 3 (a_require_axis K) (sp_require_axis K) :=
  fnrX (f_require_axis T) sc_require_axis (fun vs H Q E ⟨_, _, _, e, _⟩ => by rw [e]; rfl) (fun _ _ _ _ _ _ us hl => match us, hl with | [_, _], _ => rfl) fun cdv A outer s H vs Q E hr h => by
    obtain ⟨u, xs, k, rfl, hu, q1, q2⟩ := h
    refine ⟨_, pss_one (ps_if (pt_not (pt_val (pe_f (ok_is_integer T) (g_is_integer T) (kp_is_integer T) hr (pa_cons (pv 1) (pa_cons pe_int (pa_cons (pe_op op_sub (pe_callB call_lenU (by rfl) (n_len T) b_len (pa_cons (pv 0) pa_nil)) pe_int) pa_nil))))))
      (pss_one (ps_raise rfl tkX (pmk_na (k := 0) rfl T hr (pv 1)))) pss_nil), ?_⟩
    refine ⟨_, rfl, _, rfl, _, _, rfl, .inl hu, _, _, rfl, rfl, _, _, _, rfl, _, rfl, ?_⟩
    by_cases c : k < xs.length
    · rw [show decide ((0 : Int) ≤ (k : Nat) ∧ ((k : Nat) : Int) ≤ (xs.length : Nat) - 1) = true from decide_eq_true ⟨by omega, by omega⟩]
      exact iteF (q1 c)
    · rw [show decide ((0 : Int) ≤ (k : Nat) ∧ ((k : Nat) : Int) ≤ (xs.length : Nat) - 1) = false from decide_eq_false (by omega)]
      exact iteT ⟨_, rfl, rd_na fun d H2 k2 e => q2 c d H2 k2 e⟩
theorem sc_require_side : FnScope ["number"] ["number"] (defScope s_require_side) := ⟨rfl, rfl, rfl, by decide +kernel, rfl, by decide +kernel, by decide +kernel⟩
def sp_require_side : Sp := fun vs H Q _ => ∃ k : Int, vs = [.int k] ∧ 1 ≤ k ∧ k ≤ 1000000000000 ∧ Q .non H
theorem ok_require_side {P : Program} (T : TX w K mg) : FnR P w K mg base CX0 2 (a_require_side K) sp_require_side :=
  fnr0 (f_require_side T) sc_require_side (fun vs H Q E ⟨_, e, _⟩ => by rw [e]; rfl) (fun _ _ _ _ _ _ us hl => match us, hl with | [_], _ => rfl) fun cdv A outer s H vs Q E hr h => by
    obtain ⟨k, rfl, k1, k2, q⟩ := h
    refine ⟨_, pss_one (ps_if (pt_not (pt_val (pe_f (ok_is_integer T) (g_is_integer T) (kp_is_integer T) hr (pa_cons (pv 0) (pa_cons pe_int (pa_cons (pe_gi (i_MAX_SIDE T)) pa_nil)))))) pss_never pss_nil), ?_⟩
    refine ⟨_, rfl, _, _, _, rfl, _, rfl, ?_⟩
    rw [show decide ((1 : Int) ≤ k ∧ k ≤ 1000000000000) = true from decide_eq_true ⟨k1, k2⟩]
    exact iteF q
/-! ### deeds -/
def sideP (S : Pg) (k : Nat) (x : Int) : Pg := { S with box := S.box.set k x }
def brickP (S : Pg) (b k : Nat) (x : Int) : Pg := if b = 0 then { S with one := S.one.set k x } else { S with other := S.other.set k x }
def swapP (S : Pg) : Pg := ⟨S.other, S.one, S.box⟩
theorem sc_put_side : FnScope ["page", "axis", "number", "pair", "box"] ["page", "axis", "number"] (defScope s_put_side) := ⟨rfl, rfl, rfl, by decide +kernel, rfl, by decide +kernel, by decide +kernel⟩
def sp_put_side (K : PySem.W.Frag) : Sp := fun vs H Q E => ∃ (v : V) (S : Pg) (n k : Nat) (x : Int), vs = [v, .int (k : Nat), .int x] ∧ PgV H v S ∧ PgOk 1048576 n S ∧ 1 ≤ x ∧ x ≤ 1000000000000 ∧
  (k < n → ∀ r H', Kp [] H H' → PgV H' r (sideP S k x) → Q r H') ∧ (¬ k < n → NAx K H k E)
theorem ok_put_side (T : TX w K mg) : FnR PW w K mg base (L2.CX PW w) 4 (a_put_side K) (sp_put_side K) :=
  fnrX (f_put_side T) sc_put_side (fun vs H Q E ⟨_, _, _, _, _, e, _⟩ => by rw [e]; rfl) (fun _ _ _ _ _ _ us hl => match us, hl with | [_, _, _], _ => rfl) fun cdv A outer s H vs Q E hr h => by
    obtain ⟨v, S, n, k, x, rfl, ⟨pr, bx, hv, hp, hb⟩, ok, x1, x2, q1, q2⟩ := h
    have nd := sc_put_side.nd
    have sb := ok.box.sds (Int.le_refl _)
    refine ⟨_, pss_cons (ps_asg (pv 0) (pg_tupU (n := 2) rfl (pgs_cons (pg_name (i := 3) nd rfl (Or.inl rfl)) (pgs_cons (pg_name (i := 4) nd rfl (Or.inl rfl)) pgs_nil))))
      (pss_cons (ps_expr (pe_f (E := E) (ok_require_axis T) (g_require_axis T) (kp_require_axis T) hr (pa_cons (pv 4) (pa_cons (pv 1) pa_nil)) psX))
      (pss_cons (ps_expr (pe_f (ok_require_side T) (g_require_side T) (kp_require_side T) hr (pa_cons (pv 2) pa_nil)))
      (pss_one (ps_ret (pe_tupU (pa_cons (pv 3) (pa_cons (pe_f (ok_with_side T) (g_with_side T) (kp_with_side T) hr (pa_cons (pv 4) (pa_cons (pv 1) (pa_cons (pv 2) pa_nil)))) pa_nil))))))), ?_⟩
    refine ⟨_, rfl, _, hv, rfl, _, _, rfl, _, _, rfl, rfl, _, rfl, _, rfl, bx, _, k, rfl, hb, fun c => ?_, fun c => ?_⟩
    · have c : k < n := by simpa [sb.1] using c
      refine ⟨_, rfl, x, rfl, x1, x2, ?_⟩
      refine ⟨_, rfl, _, rfl, _, rfl, _, rfl, bx, n, S.box, k, x, rfl, hb, sb, ok.n4, c, fun b2 H1 k1 hb2 => ?_⟩
      refine ⟨Nat.le_of_ble_eq_true rfl, fun r H2 k2 hr2 => q1 c r H2 (k1.trans k2) ⟨_, _, hr2, (hp.kp k1).kp k2, hb2.kp k2⟩⟩
    · have c : ¬ k < n := by simpa [sb.1] using c
      exact q2 c
section
variable {P : Program}
theorem sc_put_brick : FnScope ["page", "kind", "axis", "number", "pair", "box", "changed"] ["page", "kind", "axis", "number"] (defScope s_put_brick) := ⟨rfl, rfl, rfl, by decide +kernel, rfl, by decide +kernel, by decide +kernel⟩
def sp_put_brick : Sp := fun vs H Q _ => ∃ (v : V) (S : Pg) (n b k : Nat) (x : Int), vs = [v, .int (b : Nat), .int (k : Nat), .int x] ∧ PgV H v S ∧ PgOk 1048576 n S ∧ 1 ≤ x ∧ x ≤ 1000000000000 ∧ b < 2 ∧ k < n ∧ ∀ r H', Kp [] H H' → PgV H' r (brickP S b k x) → Q r H'
theorem ok_put_brick (T : TX w K mg) : FnR PW w K mg base CX0 4 (a_put_brick K) sp_put_brick :=
  fnr0 (f_put_brick T) sc_put_brick (fun vs H Q E ⟨_, _, _, _, _, _, e, _⟩ => by rw [e]; rfl) (fun _ _ _ _ _ _ us hl => match us, hl with | [_, _, _, _], _ => rfl) fun cdv A outer s H vs Q E hr h => by
    obtain ⟨v, S, n, b, k, x, rfl, ⟨pr, bx, hv, ⟨x1, y1, hp, hx, hy⟩, hb⟩, ok, l1, l2, b2, hk, q⟩ := h
    have nd := sc_put_brick.nd
    have sb := ok.box.sds (Int.le_refl _)
    have s1 := ok.one.sds (Int.le_refl _)
    have s2 := ok.other.sds (Int.le_refl _)
    refine ⟨_, pss_cons (ps_asg (pv 0) (pg_tupU (n := 2) rfl (pgs_cons (pg_name (i := 4) nd rfl (Or.inl rfl)) (pgs_cons (pg_name (i := 5) nd rfl (Or.inl rfl)) pgs_nil))))
      (pss_cons (ps_if (pt_not (pt_val (pe_f (ok_is_integer T) (g_is_integer T) (kp_is_integer T) hr (pa_cons (pv 1) (pa_cons pe_int (pa_cons pe_int pa_nil)))))) pss_never pss_nil)
      (pss_cons (ps_expr (pe_f (ok_require_axis T) (g_require_axis T) (kp_require_axis T) hr (pa_cons (pv 5) (pa_cons (pv 2) pa_nil))))
      (pss_cons (ps_expr (pe_f (ok_require_side T) (g_require_side T) (kp_require_side T) hr (pa_cons (pv 3) pa_nil)))
      (pss_cons (ps_set (i := 6) nd rfl (Or.inl rfl) (pe_f (ok_with_side T) (g_with_side T) (kp_with_side T) hr (pa_cons (pe_ix ix_tupU (pv 4) (pv 1) (fun _ _ => rfl)) (pa_cons (pv 2) (pa_cons (pv 3) pa_nil)))))
      (pss_one (ps_ret (pe_tupU (pa_cons (pe_ifExp (pt_cmpR op_eq (pv 1) pe_int (nomark _)) (pe_tupU (pa_cons (pv 6) (pa_cons (pe_ix ix_tupU (pv 4) pe_int (fun _ _ => rfl)) pa_nil))) (pe_tupU (pa_cons (pe_ix ix_tupU (pv 4) pe_int (fun _ _ => rfl)) (pa_cons (pv 6) pa_nil)))) (pa_cons (pv 5) pa_nil))))))))), ?_⟩
    refine ⟨_, rfl, _, hv, rfl, _, _, rfl, _, _, rfl, rfl, _, rfl, _, _, _, rfl, _, rfl, ?_⟩
    rw [show decide ((0 : Int) ≤ (b : Nat) ∧ ((b : Nat) : Int) ≤ 1) = true from decide_eq_true ⟨by omega, by omega⟩]
    refine iteF ⟨_, rfl, _, rfl, bx, _, k, rfl, hb, fun _ => ?_, fun c => absurd (by simpa [sb.1] using hk) c⟩
    refine ⟨_, rfl, x, rfl, l1, l2, ?_⟩
    have main : ∀ (u : V) (ns : List Int), ([x1, y1] : List V)[b]? = some u → Ti H u ns → Sds n ns → (∀ r H', Kp [] H H' → ∀ c, Ti H' c (ns.set k x) → Tu H' r [c, c] → True) → ∀ R : V → Hp → Prop, (∀ v' H', Kp [] H H' → Ti H' v' (ns.set k x) → R v' H') →
        tCallR sp_with_side E0 (tCons (tOp rIxU (tVar 4) (tVar 1)) (tCons (tVar 2) (tCons (tVar 3) tNil))) [some v, some (.int (b : Nat)), some (.int (k : Nat)), some (.int x), some pr, some bx, none] H R := fun u ns hu hns hs _ R hR => by
      exact ⟨_, rfl, _, rfl, _, _, _, hp, rfl, atI_n b rfl hu, _, rfl, _, rfl, u, n, ns, k, x, rfl, hns, hs, ok.n4, hk, hR⟩
    unfold brickP at q
    match b, b2 with
    | 0, _ =>
      refine main x1 S.one rfl hx s1 (fun _ _ _ _ _ _ => trivial) _ fun c H1 k1 hc => ?_
      refine ⟨_, rfl, rfl, _, rfl, iteT ⟨_, rfl, _, rfl, _, _, _, hp.kp k1, rfl, atI_n 1 rfl rfl, Nat.le_of_ble_eq_true rfl, fun r1 H2 k2 hr1 => ?_⟩⟩
      refine ⟨_, rfl, Nat.le_of_ble_eq_true rfl, fun r H3 k3 hr3 => q r H3 ((k1.trans k2).trans k3) ⟨_, _, hr3, ⟨_, _, hr1.kp k3, (hc.kp k2).kp k3, ((hy.kp k1).kp k2).kp k3⟩, ((hb.kp k1).kp k2).kp k3⟩⟩
    | 1, _ =>
      refine main y1 S.other rfl hy s2 (fun _ _ _ _ _ _ => trivial) _ fun c H1 k1 hc => ?_
      refine ⟨_, rfl, rfl, _, rfl, iteF ⟨_, rfl, _, _, _, hp.kp k1, rfl, atI_n 0 rfl rfl, _, rfl, Nat.le_of_ble_eq_true rfl, fun r1 H2 k2 hr1 => ?_⟩⟩
      refine ⟨_, rfl, Nat.le_of_ble_eq_true rfl, fun r H3 k3 hr3 => q r H3 ((k1.trans k2).trans k3) ⟨_, _, hr3, ⟨_, _, hr1.kp k3, ((hx.kp k1).kp k2).kp k3, (hc.kp k2).kp k3⟩, ((hb.kp k1).kp k2).kp k3⟩⟩
theorem sc_swapped : FnScope ["page", "pair", "box"] ["page"] (defScope s_swapped) := ⟨rfl, rfl, rfl, by decide +kernel, rfl, by decide +kernel, by decide +kernel⟩
def sp_swapped : Sp := fun vs H Q _ => ∃ (v : V) (S : Pg), vs = [v] ∧ PgV H v S ∧ ∀ r H', Kp [] H H' → PgV H' r (swapP S) → Q r H'
theorem ok_swapped (T : TX w K mg) : FnR P w K mg base CX0 1 (a_swapped K) sp_swapped :=
  fnr0 (f_swapped T) sc_swapped (fun vs H Q E ⟨_, _, e, _⟩ => by rw [e]; rfl) (fun _ _ _ _ _ _ us hl => match us, hl with | [_], _ => rfl) fun cdv A outer s H vs Q E hr h => by
    obtain ⟨v, S, rfl, ⟨pr, bx, hv, ⟨x1, y1, hp, hx, hy⟩, hb⟩, q⟩ := h
    have nd := sc_swapped.nd
    refine ⟨_, pss_cons (ps_asg (pv 0) (pg_tupU (n := 2) rfl (pgs_cons (pg_name (i := 1) nd rfl (Or.inl rfl)) (pgs_cons (pg_name (i := 2) nd rfl (Or.inl rfl)) pgs_nil))))
      (pss_one (ps_ret (pe_tupU (pa_cons (pe_tupU (pa_cons (pe_ix ix_tupU (pv 1) pe_int (fun _ _ => rfl)) (pa_cons (pe_ix ix_tupU (pv 1) pe_int (fun _ _ => rfl)) pa_nil))) (pa_cons (pv 2) pa_nil))))), ?_⟩
    refine ⟨_, rfl, _, hv, rfl, _, _, rfl, _, _, rfl, rfl, _, rfl, _, _, _, hp, rfl, atI_n 1 rfl rfl, _, rfl, _, _, _, hp, rfl, atI_n 0 rfl rfl, Nat.le_of_ble_eq_true rfl, fun r1 H1 k1 h1 => ?_⟩
    exact ⟨_, rfl, Nat.le_of_ble_eq_true rfl, fun r H2 k2 h2 => q r H2 (k1.trans k2) ⟨_, _, h2, ⟨_, _, h1.kp k2, (hy.kp k1).kp k2, (hx.kp k1).kp k2⟩, (hb.kp k1).kp k2⟩⟩
end
end
end TB
namespace TB
open PySem PySem.Spec PyProof.Rows L2
/-- an order of n axes -/
structure Ord (n : Nat) (o : List Nat) : Prop where
  len : o.length = n
  lt : ∀ i ∈ o, i < n
  nd : o.Nodup
def ordI (o : List Nat) : List Int := o.map fun i => ((i : Nat) : Int)
theorem ordI_nd {o : List Nat} (h : o.Nodup) : (ordI o).Nodup := by
  unfold ordI
  exact List.Pairwise.map _ (fun a b hab e => hab (Int.ofNat.inj e)) h
theorem ordI_get {o : List Nat} {j i : Nat} (h : o[j]? = some i) : ((ordI o).map V.int)[j]? = some (.int (i : Nat)) := by
  unfold ordI; rw [List.getElem?_map, List.getElem?_map, h]; rfl
theorem ordI_inv {o : List Nat} {j : Nat} {x : V} (h : ((ordI o).map V.int)[j]? = some x) : ∃ i, o[j]? = some i ∧ x = .int (i : Nat) := by
  unfold ordI at h
  rw [List.getElem?_map, List.getElem?_map] at h
  cases e : o[j]? with
  | none => rw [e] at h; cases h
  | some i => rw [e] at h; cases h; exact ⟨i, rfl, rfl⟩
theorem all_true : ∀ n, (List.replicate n true).all id = true
  | 0 => rfl
  | n + 1 => by rw [List.replicate_succ, List.all_cons, all_true n]; rfl
section
variable {P : Program} {w : World} {K : PySem.W.Frag} {mg : Str → Option Value} {base : Heap}
theorem sc_is_order : FnScope ["box", "value", "axis"] ["box", "value"] (defScope s_is_order) := ⟨rfl, rfl, rfl, by decide +kernel, rfl, by decide +kernel, by decide +kernel⟩
def sp_is_order : Sp := fun vs H Q _ => ∃ (b v : V) (n : Nat) (ns : List Int) (o : List Nat), vs = [b, v] ∧ Ti H b ns ∧ ns.length = n ∧ Ti H v (ordI o) ∧ Ord n o ∧ n ≤ 4 ∧ ∀ H', Kp [] H H' → Q (.bl true) H'
theorem ok_is_order (T : TX w K mg) : FnR P w K mg base CX0 2 (a_is_order K) sp_is_order :=
  fnr0 (f_is_order T) sc_is_order (fun vs H Q E ⟨_, _, _, _, _, e, _⟩ => by rw [e]; rfl) (fun _ _ _ _ _ _ us hl => match us, hl with | [_, _], _ => rfl) fun cdv A outer s H vs Q E hr h => by
    obtain ⟨b, v, n, ns, o, rfl, hb, hn, hv, ho, n4, q⟩ := h
    have nd := sc_is_order.nd
    refine ⟨_, pss_cons (ps_if (PW.pt (pw_or (pt_not (pt_val (pe_callB call_isB (by rfl) (n_isinstance T) b_isinstance (pa_cons (pv 1) (pa_cons (pe_ty (n_tuple T) b_tuple) pa_nil)))))
        (pw_or1 (pt_cmpR op_ne (pe_callB call_lenU (by rfl) (n_len T) b_len (pa_cons (pv 1) pa_nil)) (pe_callB call_lenU (by rfl) (n_len T) b_len (pa_cons (pv 0) pa_nil)) (nomark _))))) pss_never pss_nil)
      (pss_one (ps_ret (pe_and (pe_callB (cr_all rfl) (by rfl) (n_all T) (show bootBuiltins "all" = some (.builtin "all") by decide +kernel) (pa_cons (pe_lc (own := [("axis", 2)]) rfl nd (pi_tup (pv 1)) (blkOk_by (N := ["box", "value", "axis"]) (sc := defScope s_is_order) (by decide +kernel))
          (fun _ _ _ _ _ => pg_name (i := 2) nd rfl (Or.inl rfl)) (fun _ _ _ _ _ => pts_nil)
          (fun _ _ _ _ _ => pe_f (ok_is_integer T) (g_is_integer T) (kp_is_integer T) hr (pa_cons (pv 2) (pa_cons pe_int (pa_cons (pe_op op_sub (pe_callB call_lenU (by rfl) (n_len T) b_len (pa_cons (pv 0) pa_nil)) pe_int) pa_nil))))) pa_nil))
        (pe_one (pe_cmpR op_eq (pe_lenSetT rfl (n_len T) (n_set T) (pv 1)) (pe_callB call_lenU (by rfl) (n_len T) b_len (pa_cons (pv 0) pa_nil)) (nomark _)))))), ?_⟩
    have lo : (ordI o).length = n := by unfold ordI; rw [List.length_map]; exact ho.len
    obtain ⟨a, rfl, ha⟩ := id hv
    refine ⟨_, rfl, _, _, _, _, rfl, .base (.tup ha), kit_tup_tup, _, rfl, iteF ?_⟩
    refine ⟨_, rfl, _, _, rfl, .inl hv, _, rfl, _, _, rfl, .inl hb, rfl, _, rfl, ?_⟩
    rw [show (!decide (V.int (((ordI o).map V.int).length : Nat) = V.int ((ns.map V.int).length : Nat))) = false by simp [lo, hn]]
    refine iteF ?_
    refine ⟨_, rfl, a, rfl, ⟨_, SqT.of ha⟩, fun D hD => ?_⟩
    have hl : ((ordI o).map V.int).length = n := by rw [List.length_map, lo]
    refine lcP walk_tup [] (fun i => List.replicate i (V.bl true)) hD rfl (fun i H' p => SqT.of (p.1.tup a _ ha)) (fun i x H1 H2 hi p yy => ?_) (fun H' p => ?_)
    · obtain ⟨rfl, hx⟩ := yy
      obtain ⟨j, hj, rfl⟩ := ordI_inv hx
      have hjn := ho.lt j (List.mem_of_getElem? hj)
      have hDD := p.2
      refine ⟨rfl, tYesI ⟨_, rfl, _, rfl, _, _, rfl, .inl (hb.kp p.1), _, _, rfl, rfl, _, _, _, rfl, ?_⟩⟩
      rw [show decide ((0 : Int) ≤ (j : Nat) ∧ ((j : Nat) : Int) ≤ ((ns.map V.int).length : Nat) - 1) = true from decide_eq_true ⟨by omega, by rw [List.length_map, hn]; omega⟩]
      rw [hl] at hi
      exact lcAdd hD p.1 hDD (by rw [List.length_replicate]; omega) (by rw [List.replicate_succ'])
    · refine ⟨D, List.replicate n true, rfl, SqL.of ?_, true, (congrArg V.bl (all_true n)), iteT ?_⟩
      · rw [p.2, hl, List.map_replicate]
      · refine ⟨_, rfl, ordI o, hv.kp p.1, by omega, ordI_nd ho.nd, _, rfl, _, _, rfl, .inl (hb.kp p.1), rfl, ?_⟩
        rw [show decide (V.int ((ordI o).length : Nat) = V.int ((ns.map V.int).length : Nat)) = true by simp [lo, hn]]
        exact q _ p.1
def permI (xs : List Int) (o : List Nat) : List Int := o.map (at_ xs)
def turnP (S : Pg) (o : List Nat) : Pg := ⟨permI S.one o, permI S.other o, permI S.box o⟩
theorem perm_take {xs : List Int} {o : List Nat} {j i : Nat} (h : o[j]? = some i) : ((permI xs o).take (j + 1)).map V.int = ((permI xs o).take j).map V.int ++ [V.int (at_ xs i)] := by
  unfold permI
  have e : (o.map (at_ xs))[j]? = some (at_ xs i) := by rw [List.getElem?_map, h]; rfl
  rw [List.take_succ, e, List.map_append]; rfl
def pgL (S : Pg) : List (List Int) := [S.one, S.other, S.box]
theorem take_map {α β : Type} {f : α → β} {l : List α} {i : Nat} {x : α} (h : l[i]? = some x) : ((l.take (i + 1)).map f) = ((l.take i).map f) ++ [f x] := by
  rw [List.take_succ, h, List.map_append]; rfl
theorem Tus.three {H : Hp} {ws : List V} {a b c : List V} (h : Tus H ws [a, b, c]) : ∃ x y z, ws = [x, y, z] ∧ Tu H x a ∧ Tu H y b ∧ Tu H z c := by
  cases h with
  | cons h1 t => cases t with
    | cons h2 t => cases t with
      | cons h3 t => cases t; exact ⟨_, _, _, rfl, h1, h2, h3⟩
theorem pi_tupK {X : Cx} {K : PySem.W.Frag} {tg l : PySem.Expr} {tl : TE} (hK : X.K = K) (hl : PE X l tl) : PI X tg l (iTup K tl) := hK ▸ pi_tup hl
def rTupU : List V → Hp → VK → Prop := fun xs H Q => ∃ v ys, xs = [v] ∧ Ls H v ys ∧ ∀ r H', Kp [] H H' → Tu H' r ys → Q r H'
theorem call_tupU {X : Cx} : CallR X (.type "tuple") rTupU := CallR.imp call_tuple_of fun xs H Q ⟨v, ys, e, ⟨p, e2, h⟩, q⟩ => ⟨p, ys, by rw [e, e2], .inl ⟨SqL.of h, fun l hl => q _ _ (.upd hl) .new⟩⟩
/-- three ints' max -/
theorem nuMax3_int (a b c : Int) : nuMax3 (.int a) (.int b) (.int c) = some (.int (if (if a < b then b else a) < c then c else (if a < b then b else a))) := by
  have e : ∀ x y : Int, nuMax2 (.int x) (.int y) = some (.int (if x < y then y else x)) := fun x y => by
    show (some (decide (x < y))).map _ = _
    by_cases z : x < y <;> simp [z]
  unfold nuMax3
  rw [e]
  exact e _ _
abbrev trSc : Scope := { kind := .function, names := [(".0", .local), ("sides", .cell), ("tuple", .globalImplicit), ("order", .cell)], isGenerator := false, isCoroutine := false }
theorem sc_turned : FnScope ["page", "order", "pair", "box", "sides", "axis", "first", "second", "third"] ["page", "order"] (defScope s_turned) := ⟨rfl, rfl, rfl, by decide +kernel, rfl, by decide +kernel, by decide +kernel⟩
def sp_turned : Sp := fun vs H Q _ => ∃ (v u : V) (S : Pg) (n : Nat) (o : List Nat), vs = [v, u] ∧ PgV H v S ∧ PgOk 1048576 n S ∧ Ti H u (ordI o) ∧ Ord n o ∧ ∀ r H', Kp [] H H' → PgV H' r (turnP S o) → Q r H'
theorem ok_turned (T : TX w K mg) : FnR P w K mg base CX0 3 (a_turned K) sp_turned :=
  fnr0 (f_turned T) sc_turned (fun vs H Q E ⟨_, _, _, _, _, e, _⟩ => by rw [e]; rfl) (fun _ _ _ _ _ _ us hl => match us, hl with | [_, _], _ => rfl) fun cdv A outer s H vs Q E hr h => by
    obtain ⟨v, u, S, n, o, rfl, ⟨pr, bx, hv, ⟨x1, y1, hp, hx, hy⟩, hb⟩, ok, hu, ho, q⟩ := h
    have nd := sc_turned.nd
    have s1 := ok.one.sds (Int.le_refl _)
    have s2 := ok.other.sds (Int.le_refl _)
    have s3 := ok.box.sds (Int.le_refl _)
    refine ⟨_, pss_cons (ps_asg (pv 0) (pg_tupU (n := 2) rfl (pgs_cons (pg_name (i := 2) nd rfl (Or.inl rfl)) (pgs_cons (pg_name (i := 3) nd rfl (Or.inl rfl)) pgs_nil))))
      (pss_cons (ps_if (pt_not (pt_val (pe_f (ok_is_order T) (g_is_order T) (kp_is_order T) hr (pa_cons (pv 3) (pa_cons (pv 1) pa_nil))))) pss_never pss_nil)
      (pss_cons (ps_asg (pe_lc (own := [("sides", 4)]) rfl nd (pi_tup (pe_tupU (pa_cons (pe_ix ix_tupU (pv 2) pe_int (fun _ _ => rfl)) (pa_cons (pe_ix ix_tupU (pv 2) pe_int (fun _ _ => rfl)) (pa_cons (pv 3) pa_nil))))) (blkOk_by (N := ["page", "order", "pair", "box", "sides", "axis", "first", "second", "third"]) (sc := defScope s_turned) (by decide +kernel))
          (fun _ _ _ _ _ => pg_name (i := 4) nd rfl (Or.inr rfl)) (fun _ _ _ _ _ => pts_nil)
          (fun _ _ _ _ _ => pe_callTy call_tupU (by rfl) (n_tuple T) b_tuple (pa_cons (pe_lc (own := [("axis", 5)]) rfl nd (pi_tupK (K := K) rfl (pv 1)) (blkOk_by (N := ["page", "order", "pair", "box", "sides", "axis", "first", "second", "third"]) (sc := trSc) (by decide +kernel))
            (fun _ _ _ _ _ => pg_name (i := 5) nd rfl (Or.inl rfl)) (fun _ _ _ _ _ => pts_nil)
            (fun _ _ _ _ _ => pe_ix ix_tupU (pv 4) (pv 5) (fun _ _ => rfl))) pa_nil)))
          (pg_lst (n := 3) rfl (pgs_cons (pg_name (i := 6) nd rfl (Or.inl rfl)) (pgs_cons (pg_name (i := 7) nd rfl (Or.inl rfl)) (pgs_cons (pg_name (i := 8) nd rfl (Or.inl rfl)) pgs_nil)))))
      (pss_one (ps_ret (pe_tupU (pa_cons (pe_tupU (pa_cons (pv 6) (pa_cons (pv 7) pa_nil))) (pa_cons (pv 8) pa_nil))))))), ?_⟩
    obtain ⟨ua, rfl, hua⟩ := hu
    refine ⟨_, rfl, _, hv, rfl, _, _, rfl, _, _, rfl, rfl, _, rfl, _, rfl, bx, _, n, S.box, o, rfl, hb, s3.1, ⟨ua, rfl, hua⟩, ho, ok.n4, fun H1 k1 => ⟨_, rfl, iteF ?_⟩⟩
    refine ⟨_, rfl, _, _, _, hp.kp k1, rfl, atI_n 0 rfl rfl, _, rfl, _, _, _, hp.kp k1, rfl, atI_n 1 rfl rfl, _, rfl, Nat.le_of_ble_eq_true rfl, fun r H2 k2 h2 => ?_⟩
    obtain ⟨b, rfl, hb2⟩ := h2
    have k02 := k1.trans k2
    refine ⟨b, rfl, ⟨_, SqT.of hb2⟩, fun D hD => ?_⟩
    refine lc_it walk_tup (fun i H' => Kp [] H2 H' ∧ ∃ ws, H' D = some (.lst ws) ∧ Tus H' ws (((pgL S).take i).map fun ns => (permI ns o).map V.int)) ⟨.upd hD, [], upd_same, .nil⟩ (fun i H' _ p => SqT.of (p.1.tup b _ hb2)) (fun i z H3 H3' hi pp yy => ?_) fun H' pp => ?_
    · obtain ⟨k3, ws, hD3, ht⟩ := pp
      obtain ⟨rfl, hz⟩ := yy
      have k03 := k02.trans k3
      have kz : ∃ ns, Ti H3' z ns ∧ Sds n ns ∧ (pgL S)[i]? = some ns := by
        match i, hz with
        | 0, e => cases e; exact ⟨_, hx.kp k03, s1, rfl⟩
        | 1, e => cases e; exact ⟨_, hy.kp k03, s2, rfl⟩
        | 2, e => cases e; exact ⟨_, hb.kp k03, s3, rfl⟩
      obtain ⟨ns, hns, hs, hpi⟩ := kz
      have hi3 : i < 3 := hi
      refine ⟨rfl, tYesI ?_⟩
      refine ⟨_, rfl, ua, rfl, ⟨_, SqT.of (k03.tup ua _ hua)⟩, fun D2 hD2 => ?_⟩
      have hl : ((ordI o).map V.int).length = n := by unfold ordI; rw [List.length_map, List.length_map]; exact ho.len
      have n4 := ok.n4
      refine lcP walk_tup [] (fun j => ((permI ns o).take j).map V.int) hD2 rfl (fun j H' p => SqT.of (p.1.tup ua _ (k03.tup ua _ hua))) (fun j x H4 H4' hj p yy => ?_) (fun H' p => ?_)
      · obtain ⟨rfl, hx'⟩ := yy
        obtain ⟨m, hm, rfl⟩ := ordI_inv hx'
        have hmn := ho.lt m (List.mem_of_getElem? hm)
        rw [hl] at hj
        refine ⟨rfl, tYesI ⟨_, rfl, _, rfl, _, _, _, hns.kp p.1, rfl, atI_n m rfl (at_V hs hmn), ?_⟩⟩
        exact lcAdd hD2 p.1 p.2 (by rw [List.length_map, List.length_take]; omega) (perm_take hm)
      · refine ⟨_, _, rfl, ⟨D2, rfl, p.2⟩, fun r5 H5 k5 hr5 => ?_⟩
        rw [hl] at hr5
        have hr5 : Tu H5 r5 (((permI ns o).take n).map V.int) := hr5
        rw [List.take_of_length_le (by unfold permI; rw [List.length_map, ho.len]; exact Nat.le_refl _)] at hr5
        have k35 := p.1.trans k5
        have hD5 := k35.get hD3
        have wl := ht.len
        rw [List.length_map, List.length_take] at wl
        have kk : Kp [D] H5 (upd H5 D (.lst (ws ++ [r5]))) := Kp.wr hD5 (fun xs z => by cases z) (List.mem_cons_self ..)
        refine ⟨ws, hD5, small1000 (by omega), (k3.trans k35).updn hD (fun xs z => by rw [hD5] at z; cases z), ws ++ [r5], upd_same, ?_⟩
        rw [take_map hpi]
        exact Tus.app ((ht.kp k35).kp kk) (.cons (hr5.kp kk) .nil)
    · obtain ⟨k3, ws, hD3, ht⟩ := pp
      obtain ⟨r1, r2, r3, rfl, t1, t2, t3⟩ := Tus.three (show Tus H' ws [(permI S.one o).map V.int, (permI S.other o).map V.int, (permI S.box o).map V.int] from ht)
      refine ⟨D, _, rfl, SqL.of hD3, rfl, _, _, rfl, _, _, rfl, _, _, rfl, rfl, ?_⟩
      refine ⟨_, rfl, _, rfl, Nat.le_of_ble_eq_true rfl, fun p1 H4 k4 hp1 => ⟨_, rfl, Nat.le_of_ble_eq_true rfl, fun r H5 k5 hr => q r H5 (((k02.trans k3).trans k4).trans k5) ⟨_, _, hr, ⟨_, _, hp1.kp k5, (t1.kp k4).kp k5, (t2.kp k4).kp k5⟩, (t3.kp k4).kp k5⟩⟩⟩
def setM (xs : List Int) (k : Nat) (x : Int) : List Int := xs.set k (at_ xs k * x)
def stretchP (S : Pg) (k : Nat) (x : Int) : Pg := ⟨setM S.one k x, setM S.other k x, setM S.box k x⟩
theorem sc_stretched : FnScope ["page", "axis", "number", "pair", "box", "sides", "first", "second", "third"] ["page", "axis", "number"] (defScope s_stretched) := ⟨rfl, rfl, rfl, by decide +kernel, rfl, by decide +kernel, by decide +kernel⟩
def sp_stretched : Sp := fun vs H Q _ => ∃ (v : V) (S : Pg) (n k : Nat) (x : Int), vs = [v, .int (k : Nat), .int x] ∧ PgV H v S ∧ PgOk 1048576 n S ∧ 1 ≤ x ∧ x ≤ 64 ∧ k < n ∧ ∀ r H', Kp [] H H' → PgV H' r (stretchP S k x) → Q r H'
theorem ok_stretched (T : TX w K mg) : FnR PW w K mg base CX0 4 (a_stretched K) sp_stretched :=
  fnr0 (f_stretched T) sc_stretched (fun vs H Q E ⟨_, _, _, _, _, e, _⟩ => by rw [e]; rfl) (fun _ _ _ _ _ _ us hl => match us, hl with | [_, _, _], _ => rfl) fun cdv A outer s H vs Q E hr h => by
    obtain ⟨v, S, n, k, x, rfl, ⟨pr, bx, hv, ⟨x1, y1, hp, hx, hy⟩, hb⟩, ok, l1, l2, hk, q⟩ := h
    have nd := sc_stretched.nd
    have s1 := ok.one.sds (Int.le_refl _)
    have s2 := ok.other.sds (Int.le_refl _)
    have s3 := ok.box.sds (Int.le_refl _)
    refine ⟨_, pss_cons (ps_asg (pv 0) (pg_tupU (n := 2) rfl (pgs_cons (pg_name (i := 3) nd rfl (Or.inl rfl)) (pgs_cons (pg_name (i := 4) nd rfl (Or.inl rfl)) pgs_nil))))
      (pss_cons (ps_expr (pe_f (ok_require_axis T) (g_require_axis T) (kp_require_axis T) hr (pa_cons (pv 4) (pa_cons (pv 1) pa_nil))))
      (pss_cons (ps_expr (pe_f (ok_require_side T) (g_require_side T) (kp_require_side T) hr (pa_cons (pv 2) pa_nil)))
      (pss_cons (ps_if (pt_cmpR op_gt (pe_op op_mul (pe_callB (call_max3Nu rfl) (by rfl) (n_max T) b_max (pa_cons (pe_ix ix_tupU (pe_ix ix_tupU (pv 3) pe_int (fun _ _ => rfl)) (pv 1) (fun _ _ => rfl)) (pa_cons (pe_ix ix_tupU (pe_ix ix_tupU (pv 3) pe_int (fun _ _ => rfl)) (pv 1) (fun _ _ => rfl)) (pa_cons (pe_ix ix_tupU (pv 4) (pv 1) (fun _ _ => rfl)) pa_nil)))) (pv 2)) (pe_gi (i_MAX_SIDE T)) (nomark _)) pss_never pss_nil)
      (pss_cons (ps_asg (pe_lc (own := [("sides", 5)]) rfl nd (pi_tup (pe_tupU (pa_cons (pe_ix ix_tupU (pv 3) pe_int (fun _ _ => rfl)) (pa_cons (pe_ix ix_tupU (pv 3) pe_int (fun _ _ => rfl)) (pa_cons (pv 4) pa_nil))))) (blkOk_by (N := ["page", "axis", "number", "pair", "box", "sides", "first", "second", "third"]) (sc := defScope s_stretched) (by decide +kernel))
          (fun _ _ _ _ _ => pg_name (i := 5) nd rfl (Or.inl rfl)) (fun _ _ _ _ _ => pts_nil)
          (fun _ _ _ _ _ => pe_f (ok_with_side T) (g_with_side T) (kp_with_side T) hr (pa_cons (pv 5) (pa_cons (pv 1) (pa_cons (pe_op op_mul (pe_ix ix_tupU (pv 5) (pv 1) (fun _ _ => rfl)) (pv 2)) pa_nil)))))
          (pg_lst (n := 3) rfl (pgs_cons (pg_name (i := 6) nd rfl (Or.inl rfl)) (pgs_cons (pg_name (i := 7) nd rfl (Or.inl rfl)) (pgs_cons (pg_name (i := 8) nd rfl (Or.inl rfl)) pgs_nil)))))
      (pss_one (ps_ret (pe_tupU (pa_cons (pe_tupU (pa_cons (pv 6) (pa_cons (pv 7) pa_nil))) (pa_cons (pv 8) pa_nil))))))))), ?_⟩
    obtain ⟨a1, a2⟩ := at_Sd s1 hk
    obtain ⟨b1, b2⟩ := at_Sd s2 hk
    obtain ⟨c1, c2⟩ := at_Sd s3 hk
    refine ⟨_, rfl, _, hv, rfl, _, _, rfl, _, _, rfl, rfl, _, rfl, _, rfl, bx, _, k, rfl, hb, fun _ => ?_, fun c => absurd (by simpa [s3.1] using hk) c⟩
    refine ⟨_, rfl, x, rfl, l1, by omega, ?_⟩
    refine ⟨_, rfl, _, _, _, hp, rfl, atI_n 0 rfl rfl, _, rfl, _, _, _, hx, rfl, atI_n k rfl (at_V s1 hk), ?_⟩
    refine ⟨_, rfl, _, _, _, hp, rfl, atI_n 1 rfl rfl, _, rfl, _, _, _, hy, rfl, atI_n k rfl (at_V s2 hk), ?_⟩
    refine ⟨_, rfl, _, rfl, _, _, _, hb, rfl, atI_n k rfl (at_V s3 hk), _, _, _, _, rfl, nuMax3_int _ _ _, ?_⟩
    generalize hm : (if (if at_ S.one k < at_ S.other k then at_ S.other k else at_ S.one k) < at_ S.box k then at_ S.box k else (if at_ S.one k < at_ S.other k then at_ S.other k else at_ S.one k)) = m
    have m1 : 0 < m ∧ m ≤ 1048576 := by rw [← hm]; constructor <;> (repeat' split) <;> omega
    have m2 : m * x ≤ 1048576 * 64 := Int.mul_le_mul m1.2 l2 (by omega) (by omega)
    refine ⟨_, rfl, _, _, rfl, rfl, .inl ⟨by omega, by omega⟩, _, _, rfl, rfl, _, rfl, ?_⟩
    rw [show decide ((1000000000000 : Int) < m * x) = false from decide_eq_false (by omega)]
    refine iteF ?_
    refine ⟨_, rfl, _, _, _, hp, rfl, atI_n 0 rfl rfl, _, rfl, _, _, _, hp, rfl, atI_n 1 rfl rfl, _, rfl, Nat.le_of_ble_eq_true rfl, fun r H2 k2 h2 => ?_⟩
    obtain ⟨b, rfl, hb2⟩ := h2
    refine ⟨b, rfl, ⟨_, SqT.of hb2⟩, fun D hD => ?_⟩
    refine lc_it walk_tup (fun i H' => Kp [] H2 H' ∧ ∃ ws, H' D = some (.lst ws) ∧ Tus H' ws (((pgL S).take i).map fun ns => (setM ns k x).map V.int)) ⟨.upd hD, [], upd_same, .nil⟩ (fun i H' _ p => SqT.of (p.1.tup b _ hb2)) (fun i z H3 H3' hi pp yy => ?_) fun H' pp => ?_
    · obtain ⟨k3, ws, hD3, ht⟩ := pp
      obtain ⟨rfl, hz⟩ := yy
      have k03 := k2.trans k3
      have kz : ∃ ns, Ti H3' z ns ∧ Sds n ns ∧ (pgL S)[i]? = some ns := by
        match i, hz with
        | 0, e => cases e; exact ⟨_, hx.kp k03, s1, rfl⟩
        | 1, e => cases e; exact ⟨_, hy.kp k03, s2, rfl⟩
        | 2, e => cases e; exact ⟨_, hb.kp k03, s3, rfl⟩
      obtain ⟨ns, hns, hs, hpi⟩ := kz
      have hi3 : i < 3 := hi
      obtain ⟨d1, d2⟩ := at_Sd hs hk
      refine ⟨rfl, tYesI ?_⟩
      refine ⟨_, rfl, _, rfl, _, rfl, _, rfl, _, _, _, hns, rfl, atI_n k rfl (at_V hs hk), _, rfl, _, _, rfl, rfl, .inl ⟨by omega, by omega⟩, ?_⟩
      refine ⟨z, n, ns, k, _, rfl, hns, hs, ok.n4, hk, fun r5 H5 k35 hr5 => ?_⟩
      have hD5 := k35.get hD3
      have wl := ht.len
      rw [List.length_map, List.length_take] at wl
      have kk : Kp [D] H5 (upd H5 D (.lst (ws ++ [r5]))) := Kp.wr hD5 (fun xs z => by cases z) (List.mem_cons_self ..)
      refine ⟨ws, hD5, small1000 (by omega), (k3.trans k35).updn hD (fun xs z => by rw [hD5] at z; cases z), ws ++ [r5], upd_same, ?_⟩
      rw [take_map hpi]
      exact Tus.app ((ht.kp k35).kp kk) (.cons (hr5.kp kk) .nil)
    · obtain ⟨k3, ws, hD3, ht⟩ := pp
      obtain ⟨r1, r2, r3, rfl, t1, t2, t3⟩ := Tus.three (show Tus H' ws [(setM S.one k x).map V.int, (setM S.other k x).map V.int, (setM S.box k x).map V.int] from ht)
      refine ⟨D, _, rfl, SqL.of hD3, rfl, _, _, rfl, _, _, rfl, _, _, rfl, rfl, ?_⟩
      refine ⟨_, rfl, _, rfl, Nat.le_of_ble_eq_true rfl, fun p1 H4 k4 hp1 => ⟨_, rfl, Nat.le_of_ble_eq_true rfl, fun r H5 k5 hr => q r H5 (((k2.trans k3).trans k4).trans k5) ⟨_, _, hr, ⟨_, _, hp1.kp k5, (t1.kp k4).kp k5, (t2.kp k4).kp k5⟩, (t3.kp k4).kp k5⟩⟩⟩
def moreP (S : Pg) (x : Int) : Pg := { S with box := S.box.map fun y => y + x }
theorem sc_more : FnScope ["page", "number", "pair", "box", "axis", "side"] ["page", "number"] (defScope s_more) := ⟨rfl, rfl, rfl, by decide +kernel, rfl, by decide +kernel, by decide +kernel⟩
def sp_more : Sp := fun vs H Q _ => ∃ (v : V) (S : Pg) (n : Nat) (x : Int), vs = [v, .int x] ∧ PgV H v S ∧ PgOk 1048576 n S ∧ 1 ≤ x ∧ x ≤ 1000000 ∧ ∀ r H', Kp [] H H' → PgV H' r (moreP S x) → Q r H'
theorem ok_more (T : TX w K mg) : FnR PW w K mg base CX0 3 (a_more K) sp_more :=
  fnr0 (f_more T) sc_more (fun vs H Q E ⟨_, _, _, _, e, _⟩ => by rw [e]; rfl) (fun _ _ _ _ _ _ us hl => match us, hl with | [_, _], _ => rfl) fun cdv A outer s H vs Q E hr h => by
    obtain ⟨v, S, n, x, rfl, ⟨pr, bx, hv, hp, hb⟩, ok, l1, l2, q⟩ := h
    have nd := sc_more.nd
    have s3 := ok.box.sds (Int.le_refl _)
    refine ⟨_, pss_cons (ps_asg (pv 0) (pg_tupU (n := 2) rfl (pgs_cons (pg_name (i := 2) nd rfl (Or.inl rfl)) (pgs_cons (pg_name (i := 3) nd rfl (Or.inl rfl)) pgs_nil))))
      (pss_cons (ps_expr (pe_f (ok_require_side T) (g_require_side T) (kp_require_side T) hr (pa_cons (pv 1) pa_nil)))
      (pss_cons (ps_for PassesOwn.never rfl (pi_enumT (n_enumerate T) (pa_cons (pv 3) pa_nil)) (pg_tupU rfl (pgs_cons (pg_name (i := 4) nd rfl (Or.inl rfl)) (pgs_cons (pg_name (i := 5) nd rfl (Or.inl rfl)) pgs_nil)))
        (pss_one (ps_if (pt_cmpR op_gt (pe_op op_add (pv 5) (pv 1)) (pe_gi (i_MAX_SIDE T)) (nomark _)) pss_never pss_nil)))
      (pss_one (ps_ret (pe_tupU (pa_cons (pv 2) (pa_cons (pe_callTy call_tupU (by rfl) (n_tuple T) b_tuple (pa_cons (pe_lc (own := [("side", 5)]) rfl nd (pi_tup (pv 3)) (blkOk_by (N := ["page", "number", "pair", "box", "axis", "side"]) (sc := defScope s_more) (by decide +kernel))
          (fun _ _ _ _ _ => pg_name (i := 5) nd rfl (Or.inl rfl)) (fun _ _ _ _ _ => pts_nil) (fun _ _ _ _ _ => pe_op op_add (pv 5) (pv 1))) pa_nil)) pa_nil))))))), ?_⟩
    obtain ⟨a, rfl, ha⟩ := id hb
    refine ⟨_, rfl, _, hv, rfl, _, _, rfl, _, _, rfl, rfl, _, rfl, x, rfl, l1, by omega, ?_⟩
    refine ⟨_, rfl, a, _, rfl, ha, ?_⟩
    have hl : (S.box.map V.int).length = n := by rw [List.length_map, s3.1]
    have n4 := ok.n4
    refine for_P walk_P (fun i σ H' => Kp [] H H' ∧ ∃ t1 t2, σ = [some v, some (.int x), some pr, some (.ref a), t1, t2]) ⟨.refl, _, _, rfl⟩ (fun i σ H' _ p => p.1.tup a _ ha) (fun i z σ H1 H2 hi pp yy => ?_) fun σ H' pp => ?_
    · obtain ⟨k1, t1, t2, rfl⟩ := pp
      obtain ⟨i', y', k2, hz, rfl, hy'⟩ := yy
      rw [hl] at hi
      rw [at_V s3 hi] at hy'
      cases hy'
      obtain ⟨c1, c2⟩ := at_Sd s3 hi
      refine ⟨_, hz, rfl, _, _, rfl, _, _, rfl, rfl, _, rfl, _, rfl, _, _, rfl, rfl, _, _, rfl, rfl, _, rfl, ?_⟩
      rw [show decide ((1000000000000 : Int) < at_ S.box i + x) = false from decide_eq_false (by omega)]
      exact iteF ⟨k1.trans k2, _, _, rfl⟩
    · obtain ⟨k1, t1, t2, rfl⟩ := pp
      refine ⟨_, rfl, _, rfl, a, rfl, ⟨_, SqT.of (k1.tup a _ ha)⟩, fun D hD => ?_⟩
      refine lcP walk_tup [] (fun i => (S.box.take i).map fun y => V.int (y + x)) hD rfl (fun i H' p => SqT.of (p.1.tup a _ (k1.tup a _ ha))) (fun i z H2 H2' hi pp yy => ?_) fun H2 pp => ?_
      · obtain ⟨rfl, hz⟩ := yy
        rw [hl] at hi
        rw [at_V s3 hi] at hz
        cases hz
        refine ⟨rfl, tYesI ⟨_, rfl, _, rfl, _, _, rfl, rfl, lcAdd hD pp.1 pp.2 (by rw [List.length_map, List.length_take]; omega) (take_map (at_get s3 hi))⟩⟩
      · refine ⟨_, _, rfl, ⟨D, rfl, pp.2⟩, fun r5 H5 k5 hr5 => ?_⟩
        have hr5 : Tu H5 r5 ((S.box.take (S.box.map V.int).length).map fun y => V.int (y + x)) := hr5
        rw [List.length_map, List.take_length] at hr5
        have e : Ti H5 r5 (S.box.map fun y => y + x) := by unfold Ti; rw [List.map_map]; exact hr5
        have kk := (k1.trans pp.1).trans k5
        refine ⟨Nat.le_of_ble_eq_true rfl, fun r H6 k6 hr6 => q r H6 (kk.trans k6) ⟨_, _, hr6, (hp.kp kk).kp k6, e.kp k6⟩⟩
end
end TB
namespace TB
open PySem PySem.Spec PyProof.Rows L2
/-! ### own classes: truth, bool(..), properties -/
section
variable {X : Cx} {CX : CXT} {C g p : Addr} {n j : Nat} {sp : Sp} {E : XK} {f : Str}
/-- truth of an instance with __bool__ -/
def rTruOwn (C : Addr) (sp : Sp) (E : XK) : V → Hp → (Bool → Hp → Prop) → Prop := fun x H Q => ∃ a dx fs, x = .ref a ∧ H a = some (.ins C dx fs) ∧ sp [x] H (fun z H' => ∃ b, z = .bl b ∧ Q b H') E
theorem truthy_at {pins : List (Addr × Obj)} {σ : L2.St} {H : Hp} {s : Shared} {A : Around} {x : V} {v : Value} {Q : Bool → Hp → Prop} (hs : PySem.W.findIn X.K (.ref C) "__bool__" = some (some (.ref g))) (hf : PySem.W.isFn X.K (.ref g) = true) (F : FnR X.prog X.w X.K X.mg X.base CX n g sp)
    (hr : Room n A) (e0 : Env0 X.prog X.w X.K X.mg X.base A X.stack s H) (hx : Passes CX X E) (I : Inv X pins σ H s) (r : RelV x v) (h : rTruOwn C sp E x H Q) : wpAny (model X.prog X.w) A (truthy v) (TP X pins σ Q) X.xe s := by
  obtain ⟨a, dx, fs, rfl, ea, h⟩ := h
  obtain rfl : v = Value.ref a := r
  obtain ⟨mA, O, _, _, _, _⟩ := ins_get I.hok ea
  obtain ⟨od, J, _⟩ := O.look
  obtain ⟨m, hF⟩ := I.fr
  refine PySem.W.truthy_K hF I.ok.mod.kin J hs hf ?_
  refine wpAny_mono (wpAny_call (SlX.run_at (us := [.ref a]) (ws := [.ref a]) F hr e0 hx I (.cons rfl .nil) h)) (fun u s' z => ?_) fun _ _ z => z
  obtain ⟨z', H', I', rz, b, rfl, q⟩ := z
  obtain rfl : u = .bool b := rz
  exact ⟨H', I', q⟩
theorem tru_own (hs : PySem.W.findIn X.K (.ref C) "__bool__" = some (some (.ref g))) (hf : PySem.W.isFn X.K (.ref g) = true) (F : FnR X.prog X.w X.K X.mg X.base CX n g sp) (hr : Room j X.A) (hx : Passes CX X E) (hk : n ≤ j := by decide) : TruR X (rTruOwn C sp E) :=
  fun pins s σ H x v Q I r h => truthy_at hs hf F (hr.mono hk) I.env0 hx I r h
end
section
variable {prog : Program} {w : World}
theorem meets_bool_own (x : Value) : MeetsIn prog w (Builtin.«bool.__new__» ⟨[.type "bool", x], []⟩) (fun A R s => wpAny (model prog w) A.in1 (truthy x) (fun b s' => R (.ok (.ret (.bool b))) s') (fun e s' => R (.error e) s') s) :=
  MeetsIn.of_wp fun A R s hs => by
    have f1 := F.conv_sub_bool
    unfold Builtin.«bool.__new__»
    repeat (any_goals (first | assumption | (with_reducible refine wpAny_bind (wpAny_mono hs (fun b s' z => ?_) fun _ _ z => z)) | wp_step))
    all_goals first | exact ⟨_, rfl, z⟩ | skip
end
section
variable {X : Cx} {CX : CXT} {C g p : Addr} {n j : Nat} {sp : Sp} {E : XK} {f : Str}
/-- bool(x) of such an instance -/
def rBoolOwn (C : Addr) (sp : Sp) (E : XK) : List V → Hp → VK → Prop := fun xs H Q => ∃ x, xs = [x] ∧ rTruOwn C sp E x H fun b H' => Q (.bl b) H'
theorem call_boolOwn (hs : PySem.W.findIn X.K (.ref C) "__bool__" = some (some (.ref g))) (hf : PySem.W.isFn X.K (.ref g) = true) (F : FnR X.prog X.w X.K X.mg X.base CX n g sp) (hr : Room j X.A) (hx : Passes CX X E) (hk : n + 2 ≤ j := by decide) : CallR X (.type "bool") (rBoolOwn C sp E) := by
  intro pins s σ H xs us Q I r h
  obtain ⟨x, rfl, h⟩ := h
  obtain ⟨u, rfl, ru⟩ := vals1 r
  have hr2 : Room n X.A.in1.in1 := (show Room (n + 1) X.A.in1 from Room.in1 (hr.mono hk)).in1
  refine callType_newIn (prog := X.prog) (w := X.w) PySem.F.called_bool PySem.F.newNe_bool (PySem.F.typeCall_bool_1 u) (PySem.F.newCall_bool_1 u) (fun obj => PySem.F.args_object_init_2 obj u) PySem.F.entry_bool_new (meets_bool_own u) ?_
  refine wpAny_mono (truthy_at hs hf F hr2 I.env0.in1.in1 hx I ru h) (fun b s' z => ?_) fun e s' z => z
  obtain ⟨H', I', q⟩ := z
  exact ⟨rfl, .bl b, H', I', rfl, q⟩
/-- e.f, a property, its getter told by a positional promise -/
def tPropR (C : Addr) (sp : Sp) (ta : TE) : TE := fun σ H Q => ta σ H fun x H1 => ∃ a dx fs, x = .ref a ∧ H1 a = some (.ins C dx fs) ∧ sp [x] H1 Q E0
theorem pe_propR {e : PySem.Expr} {ta : TE} {pos : Pos} (he : PE X e ta) (c : Cls X.K C) (hp : PropOf X.K C f p g) (F : FnR X.prog X.w X.K X.mg X.base CX0 n g sp) (hr : Room j X.A) (hk : n + 1 ≤ j := by decide)
    (hab : attributeBase e f X.env (eval e X.env) = eval e X.env := by rfl) : PE X (.Attribute e f pos) (tPropR C sp ta) := by
  refine ⟨fun pins s σ H Q I h => ?_⟩
  have main : ∀ (s1 : Shared) (H1 : Hp) (u : Value) (x : V), Inv X pins σ H1 s1 → RelV x u → (∃ a dx fs, x = .ref a ∧ H1 a = some (.ins C dx fs) ∧ sp [x] H1 Q E0) → ∀ b, wpAny (model X.prog X.w) X.A (getAttr u f b) (EP X pins σ Q) X.xe s1 := fun s1 H1 u x I1 ru hq b => by
    obtain ⟨a, dx, fs, rfl, ea, q⟩ := hq
    obtain rfl : u = Value.ref a := ru
    obtain ⟨mA, O, _, _, _, _⟩ := ins_get I1.hok ea
    obtain ⟨od, J, _⟩ := O.look
    obtain ⟨rest, hrec⟩ := hp.rec_
    have I2 := I1.tok (s1.toks + 1)
    have hc : (PySem.W.clsIn X.K C).isSome = true := by
      obtain ⟨cd, hc, _⟩ := PySem.W.any_some c.hd
      rw [hc]; rfl
    refine PySem.W.get_bind I1.kIn J (PySem.W.plainGet_of (c.get f)).1 (PySem.W.findObj_data hc hp.at_ hp.get hp.tak) (PySem.W.plainGet_of (c.get f)).2 (wpAny_call (PySem.W.prop_get (s := { s1 with toks := s1.toks + 1 }) I1.kIn hrec ?_))
    refine codeAny_mono (F X.A.in1 X.stack _ H1 [.ref a] [.ref a] Q E0 (Room.in1 (hr.mono hk)) I2.env0.in1 (.cons rfl .nil) q) fun r s' hq => ?_
    cases r with
    | error e => exact False.elim hq
    | ok fl =>
      cases fl with
      | ret u2 =>
        obtain ⟨v, H', I3, rv, q3⟩ := I2.after hq
        show wpAny _ _ (handedOut u2) _ _ _
        rw [PySem.W.handedOut_of (handed_of rv)]
        exact wpAny_pure ⟨v, H', I3, rv, q3⟩
      | next => exact False.elim hq
      | brk => exact False.elim hq
      | cont => exact False.elim hq
  exact attr_of hab (thn (he.run pins s σ H _ I h) fun u s1 ⟨x, H1, I1, rx, q⟩ => main s1 H1 u x I1 rx q _)
end
end TB
namespace TB
open PySem PySem.Spec PyProof.Rows L2
/-! ### yards -/
structure YS where
  pages : List Pg
  word : Str
inductive Pgs (H : Hp) : List V → List Pg → Prop
  | nil : Pgs H [] []
  | cons {v : V} {vs : List V} {S : Pg} {Ss : List Pg} (h : PgV H v S) (t : Pgs H vs Ss) : Pgs H (v :: vs) (S :: Ss)
theorem Pgs.kp {A : List Addr} {H H' : Hp} {vs : List V} {Ss : List Pg} (h : Pgs H vs Ss) (k : Kp A H H') : Pgs H' vs Ss := by
  induction h with
  | nil => exact .nil
  | cons h _ ih => exact .cons (h.kp k) ih
theorem Pgs.kt {A : List Addr} {H H' : Hp} {vs : List V} {Ss : List Pg} (h : Pgs H vs Ss) (k : KT A H H') : Pgs H' vs Ss := by
  induction h with
  | nil => exact .nil
  | cons h _ ih => exact .cons (h.kt k) ih
theorem Pgs.len {H : Hp} {vs : List V} {Ss : List Pg} (h : Pgs H vs Ss) : vs.length = Ss.length := by
  induction h with
  | nil => rfl
  | cons _ _ ih => simp [ih]
theorem Pgs.snoc {H : Hp} {vs : List V} {Ss : List Pg} {v : V} {S : Pg} (h : Pgs H vs Ss) (hv : PgV H v S) : Pgs H (vs ++ [v]) (Ss ++ [S]) := by
  induction h with
  | nil => exact .cons hv .nil
  | cons h _ ih => exact .cons h ih
theorem Pgs.init {H : Hp} {vs : List V} {Ss : List Pg} (h : Pgs H vs Ss) : Pgs H vs.dropLast Ss.dropLast := by
  induction h with
  | nil => exact .nil
  | @cons v vs S Ss h t ih =>
    cases t with
    | nil => exact .nil
    | cons h2 t2 => exact .cons h ih
/-- the last page -/
def lastP : List Pg → Pg
  | [] => ⟨[], [], []⟩
  | [S] => S
  | _ :: S :: r => lastP (S :: r)
theorem lastP_snoc : ∀ (Ss : List Pg) (S : Pg), lastP (Ss ++ [S]) = S
  | [], S => rfl
  | [_], S => rfl
  | a :: b :: r, S => lastP_snoc (b :: r) S
theorem Pgs.last {H : Hp} {vs : List V} {Ss : List Pg} {v : V} (h : Pgs H vs Ss) (e : vs.getLast? = some v) : PgV H v (lastP Ss) := by
  induction h with
  | nil => cases e
  | @cons u us S Ss h t ih =>
    cases t with
    | nil => cases e; exact h
    | @cons u2 us2 S2 Ss2 h2 t2 =>
      rw [List.getLast?_cons_cons] at e
      exact ih e
theorem last_snoc {vs : List V} {v : V} : (vs ++ [v]).getLast? = some v := by simp
theorem atI_last {xs : List V} {v : V} (h : xs.getLast? = some v) : atI xs (-1) = some v := by
  have hne : xs ≠ [] := fun z => by rw [z] at h; cases h
  have hl : 0 < xs.length := List.length_pos_iff.mpr hne
  rw [List.getLast?_eq_getElem?] at h
  unfold atI ixN
  rw [if_neg (by decide), if_pos (by omega)]
  have e : ((xs.length : Int) + -1).toNat = xs.length - 1 := by omega
  show xs[((xs.length : Int) + -1).toNat]? = some v
  rw [e]; exact h
theorem rec_of {l : Option (List Value)} {g : Addr} (h : l.bind (·.head?) = some (.ref g)) : ∃ rest, l = some (.ref g :: rest) := by
  cases l with
  | none => cases h
  | some l =>
    cases l with
    | nil => cases h
    | cons x r => cases h; exact ⟨r, rfl⟩
structure YAt (K : PySem.W.Frag) (H : Hp) (a : Addr) (Y : YS) : Prop where
  ex : ∃ dx fs pv vs lv last, H a = some (.ins (He.ga K "Yard") dx fs) ∧ fs.length ≤ 20 ∧ (∀ f : Str, f ≠ "word" → f ≠ "is_busy" → f ≠ "pages" → f ≠ "look" → lk fs f = none) ∧ lk fs "word" = some (.str Y.word) ∧ lk fs "is_busy" = some (.bl false) ∧
    lk fs "pages" = some pv ∧ Tu H pv vs ∧ Pgs H vs Y.pages ∧ lk fs "look" = some lv ∧ Tu H lv [.str "yard", last] ∧ vs.getLast? = some last
theorem YAt.kp {K : PySem.W.Frag} {S : List Addr} {H H' : Hp} {a : Addr} {Y : YS} (h : YAt K H a Y) (k : Kp S H H') (n : a ∉ S) : YAt K H' a Y :=
  let ⟨dx, fs, pv, vs, lv, last, h1, h2, h3, h4, h5, h6, h7, h8, h9, h10, h11⟩ := h.ex; ⟨dx, fs, pv, vs, lv, last, k.old a _ h1 n, h2, h3, h4, h5, h6, h7.kp k, h8.kp k, h9, h10.kp k, h11⟩
theorem YAt.kp0 {K : PySem.W.Frag} {H H' : Hp} {a : Addr} {Y : YS} (h : YAt K H a Y) (k : Kp [] H H') : YAt K H' a Y := h.kp k fun q => nomatch q
theorem YAt.kt {K : PySem.W.Frag} {S : List Addr} {H H' : Hp} {a : Addr} {Y : YS} (h : YAt K H a Y) (k : KT S H H') (n : a ∉ S) : YAt K H' a Y :=
  let ⟨dx, fs, pv, vs, lv, last, h1, h2, h3, h4, h5, h6, h7, h8, h9, h10, h11⟩ := h.ex; ⟨dx, fs, pv, vs, lv, last, k.old a _ h1 n (fun _ z => nomatch z), h2, h3, h4, h5, h6, h7.kt k, h8.kt k, h9, h10.kt k, h11⟩
theorem YAt.isIns {K : PySem.W.Frag} {H : Hp} {a : Addr} {Y : YS} (h : YAt K H a Y) : ∃ C dx fs, H a = some (.ins C dx fs) := let ⟨dx, fs, _, _, _, _, h1, _⟩ := h.ex; ⟨_, dx, fs, h1⟩
section
variable {P : Program} {w : World} {K : PySem.W.Frag} {mg : Str → Option Value} {base : Heap}
theorem pr_pair (T : TX w K mg) : PropOf K (He.ga K "Yard") "pair" (He.ma K (He.ga K "Yard") "pair") (pg K "Yard" "pair") := ⟨p1_Yard_pair T, p2_Yard_pair T, p3_Yard_pair T, rec_of (p4_Yard_pair T)⟩
theorem pr_box (T : TX w K mg) : PropOf K (He.ga K "Yard") "box" (He.ma K (He.ga K "Yard") "box") (pg K "Yard" "box") := ⟨p1_Yard_box T, p2_Yard_box T, p3_Yard_box T, rec_of (p4_Yard_box T)⟩
theorem pr_version (T : TX w K mg) : PropOf K (He.ga K "Yard") "version" (He.ma K (He.ga K "Yard") "version") (pg K "Yard" "version") := ⟨p1_Yard_version T, p2_Yard_version T, p3_Yard_version T, rec_of (p4_Yard_version T)⟩
theorem pr_news (T : TX w K mg) : PropOf K (He.ga K "Yard") "news" (He.ma K (He.ga K "Yard") "news") (pg K "Yard" "news") := ⟨p1_Yard_news T, p2_Yard_news T, p3_Yard_news T, rec_of (p4_Yard_news T)⟩
theorem pr_paper (T : TX w K mg) : PropOf K (He.ga K "Yard") "paper" (He.ma K (He.ga K "Yard") "paper") (pg K "Yard" "paper") := ⟨p1_Yard_paper T, p2_Yard_paper T, p3_Yard_paper T, rec_of (p4_Yard_paper T)⟩
theorem sc_pair : FnScope ["self"] ["self"] (defScope s_Yard_pair) := ⟨rfl, rfl, rfl, by decide +kernel, rfl, by decide +kernel, by decide +kernel⟩
def sp_pair (K : PySem.W.Frag) : Sp := fun vs H Q _ => ∃ a Y, vs = [.ref a] ∧ YAt K H a Y ∧ ∀ v, TP2 H v (lastP Y.pages).one (lastP Y.pages).other → Q v H
theorem ok_pair (T : TX w K mg) : FnR P w K mg base CX0 1 (pg K "Yard" "pair") (sp_pair K) :=
  fnr0 (f_Yard_pair T) sc_pair (fun vs H Q E ⟨_, _, e, _⟩ => by rw [e]; rfl) (fun _ _ _ _ _ _ us hl => match us, hl with | [_], _ => rfl) fun cdv A outer s H vs Q E hr h => by
    obtain ⟨a, Y, rfl, hY, q⟩ := h
    refine ⟨_, pss_one (ps_ret (pe_ix ix_tupU (pe_ix ix_tupU (pe_fld (pv 0) rfl) (pe_un un_neg pe_int) (fun _ _ => rfl)) pe_int (fun _ _ => rfl))), ?_⟩
    obtain ⟨dx, fs, pv, us, lv, last, h1, h2, h3, h4, h5, h6, h7, h8, h9, h10, h11⟩ := hY.ex
    obtain ⟨x, y, hl, hp, hb⟩ := h8.last h11
    exact ⟨_, rfl, a, _, dx, fs, _, rfl, h1, cl_Yard T, na_Yard_pages T, h6, _, rfl, _, _, _, h7, rfl, atI_last h11, _, _, _, hl, rfl, atI_n 0 rfl rfl, q _ hp⟩
theorem sc_box : FnScope ["self"] ["self"] (defScope s_Yard_box) := ⟨rfl, rfl, rfl, by decide +kernel, rfl, by decide +kernel, by decide +kernel⟩
def sp_box (K : PySem.W.Frag) : Sp := fun vs H Q _ => ∃ a Y, vs = [.ref a] ∧ YAt K H a Y ∧ ∀ v, Ti H v (lastP Y.pages).box → Q v H
theorem ok_box (T : TX w K mg) : FnR P w K mg base CX0 1 (pg K "Yard" "box") (sp_box K) :=
  fnr0 (f_Yard_box T) sc_box (fun vs H Q E ⟨_, _, e, _⟩ => by rw [e]; rfl) (fun _ _ _ _ _ _ us hl => match us, hl with | [_], _ => rfl) fun cdv A outer s H vs Q E hr h => by
    obtain ⟨a, Y, rfl, hY, q⟩ := h
    refine ⟨_, pss_one (ps_ret (pe_ix ix_tupU (pe_ix ix_tupU (pe_fld (pv 0) rfl) (pe_un un_neg pe_int) (fun _ _ => rfl)) pe_int (fun _ _ => rfl))), ?_⟩
    obtain ⟨dx, fs, pv, us, lv, last, h1, h2, h3, h4, h5, h6, h7, h8, h9, h10, h11⟩ := hY.ex
    obtain ⟨x, y, hl, hp, hb⟩ := h8.last h11
    exact ⟨_, rfl, a, _, dx, fs, _, rfl, h1, cl_Yard T, na_Yard_pages T, h6, _, rfl, _, _, _, h7, rfl, atI_last h11, _, _, _, hl, rfl, atI_n 1 rfl rfl, q _ hb⟩
theorem sc_version : FnScope ["self"] ["self"] (defScope s_Yard_version) := ⟨rfl, rfl, rfl, by decide +kernel, rfl, by decide +kernel, by decide +kernel⟩
def sp_version (K : PySem.W.Frag) : Sp := fun vs H Q _ => ∃ a Y, vs = [.ref a] ∧ YAt K H a Y ∧ Q (.int ((Y.pages.length : Nat) - 1)) H
theorem ok_version (T : TX w K mg) : FnR P w K mg base CX0 1 (pg K "Yard" "version") (sp_version K) :=
  fnr0 (f_Yard_version T) sc_version (fun vs H Q E ⟨_, _, e, _⟩ => by rw [e]; rfl) (fun _ _ _ _ _ _ us hl => match us, hl with | [_], _ => rfl) fun cdv A outer s H vs Q E hr h => by
    obtain ⟨a, Y, rfl, hY, q⟩ := h
    refine ⟨_, pss_one (ps_ret (pe_op op_sub (pe_callB call_lenU (by rfl) (n_len T) b_len (pa_cons (pe_fld (pv 0) rfl) pa_nil)) pe_int)), ?_⟩
    obtain ⟨dx, fs, pv, us, lv, last, h1, h2, h3, h4, h5, h6, h7, h8, h9, h10, h11⟩ := hY.ex
    rw [← h8.len] at q
    exact ⟨_, rfl, a, _, dx, fs, _, rfl, h1, cl_Yard T, na_Yard_pages T, h6, _, _, rfl, .inl h7, _, _, rfl, rfl, q⟩
theorem sc_news : FnScope ["self"] ["self"] (defScope s_Yard_news) := ⟨rfl, rfl, rfl, by decide +kernel, rfl, by decide +kernel, by decide +kernel⟩
def sp_news (K : PySem.W.Frag) : Sp := fun vs H Q _ => ∃ a Y, vs = [.ref a] ∧ YAt K H a Y ∧ Q (.str Y.word) H
theorem ok_news (T : TX w K mg) : FnR P w K mg base CX0 1 (pg K "Yard" "news") (sp_news K) :=
  fnr0 (f_Yard_news T) sc_news (fun vs H Q E ⟨_, _, e, _⟩ => by rw [e]; rfl) (fun _ _ _ _ _ _ us hl => match us, hl with | [_], _ => rfl) fun cdv A outer s H vs Q E hr h => by
    obtain ⟨a, Y, rfl, hY, q⟩ := h
    refine ⟨_, pss_one (ps_ret (pe_fld (pv 0) rfl)), ?_⟩
    obtain ⟨dx, fs, pv, us, lv, last, h1, h2, h3, h4, h5, h6, h7, h8, h9, h10, h11⟩ := hY.ex
    exact ⟨_, rfl, a, _, dx, fs, _, rfl, h1, cl_Yard T, na_Yard_word T, h4, q⟩
/-- a page's sides are in order -/
def POk (S : Pg) : Prop := ∃ n, PgOk 1048576 n S
theorem sc_paperY : FnScope ["self"] ["self"] (defScope s_Yard_paper) := ⟨rfl, rfl, rfl, by decide +kernel, rfl, by decide +kernel, by decide +kernel⟩
def pgPaper (S : Pg) : List V := paperF S.one S.other S.box S.box.length
def pgFill (S : Pg) : Bool := filledF S.one S.other S.box S.box.length
def sp_paperY (K : PySem.W.Frag) : Sp := fun vs H Q _ => ∃ a Y, vs = [.ref a] ∧ YAt K H a Y ∧ POk (lastP Y.pages) ∧ ∀ r H', Kp [] H H' → Tu H' r (pgPaper (lastP Y.pages)) → Q r H'
theorem ok_paperY (T : TX w K mg) : FnR P w K mg base CX0 5 (pg K "Yard" "paper") (sp_paperY K) :=
  fnr0 (f_Yard_paper T) sc_paperY (fun vs H Q E ⟨_, _, e, _⟩ => by rw [e]; rfl) (fun _ _ _ _ _ _ us hl => match us, hl with | [_], _ => rfl) fun cdv A outer s H vs Q E hr h => by
    obtain ⟨a, Y, rfl, hY, ⟨n, ok⟩, q⟩ := h
    refine ⟨_, pss_one (ps_ret (pe_f (ok_paper T) ((g_paper_papers T).trans (congrArg (fun a => some (Value.ref a)) (e_paper T))) (kp_paper T) hr (pa_cons (pe_propR (pv 0) (cl_Yard T) (pr_pair T) (ok_pair T) hr) (pa_cons (pe_propR (pv 0) (cl_Yard T) (pr_box T) (ok_box T) hr) pa_nil)))), ?_⟩
    obtain ⟨dx, fs, h1⟩ : ∃ dx fs, H a = some (.ins (He.ga K "Yard") dx fs) := let ⟨dx, fs, _, _, _, _, h1, _⟩ := hY.ex; ⟨dx, fs, h1⟩
    have e : (lastP Y.pages).box.length = n := ok.box.1
    unfold pgPaper at q
    rw [e] at q
    exact ⟨_, rfl, a, dx, fs, rfl, h1, a, Y, rfl, hY, fun v hv => ⟨_, rfl, a, dx, fs, rfl, h1, a, Y, rfl, hY, fun u hu => ⟨_, _, n, _, _, _, rfl, hv, hu, ok.one.sds (Int.le_refl _), ok.other.sds (Int.le_refl _), ok.box.sds (Int.le_refl _), ok.n1, ok.n4, q⟩⟩⟩
end
end TB
namespace TB
open PySem PySem.Spec PyProof.Rows L2
theorem len_put {f : Str} {v : V} : ∀ {fs : List (Str × V)}, fs.lookup f ≠ none → (putF f v fs).length = fs.length
  | [], h => absurd rfl h
  | (g, x) :: r, h => by
    unfold putF
    by_cases e : g = f
    · rw [if_pos e]; rfl
    · rw [if_neg e, List.length_cons, List.length_cons, len_put]
      intro z
      apply h
      rw [List.lookup_cons, show (f == g) = false from beq_eq_false_iff_ne.mpr (Ne.symm e)]
      exact z
def OnlyF (fs : List (Str × V)) : Prop := ∀ f : Str, f ≠ "word" → f ≠ "is_busy" → f ≠ "pages" → f ≠ "look" → lk fs f = none
theorem OnlyF.put {fs : List (Str × V)} {f : Str} {v : V} (h : OnlyF fs) (hf : f = "word" ∨ f = "is_busy" ∨ f = "pages" ∨ f = "look") : OnlyF (putF f v fs) := fun g g1 g2 g3 g4 => by
  have ne : g ≠ f := fun e => by
    rcases hf with z | z | z | z
    · exact g1 (e.trans z)
    · exact g2 (e.trans z)
    · exact g3 (e.trans z)
    · exact g4 (e.trans z)
  exact (lk_ne ne).trans (h g g1 g2 g3 g4)
section
variable {P : Program} {w : World} {K : PySem.W.Frag} {mg : Str → Option Value} {base : Heap}
theorem con_SORT (T : TX w K mg) : ∃ u, Con K (He.ga K "Yard") "SORT" (.str "yard") u := He.conB_ok (c_SORT T)
theorem sc_stand : FnScope ["self", "pages"] ["self", "pages"] (defScope s_Yard_stand) := ⟨rfl, rfl, rfl, by decide +kernel, rfl, by decide +kernel, by decide +kernel⟩
def sp_stand (K : PySem.W.Frag) : Sp := fun vs H Q _ => ∃ a pv dx fs us Ss wd, vs = [.ref a, pv] ∧ H a = some (.ins (He.ga K "Yard") dx fs) ∧ OnlyF fs ∧ lk fs "word" = some (.str wd) ∧ lk fs "is_busy" = some (.bl false) ∧
  (fs.length ≤ 10 ∨ (lk fs "pages" ≠ none ∧ lk fs "look" ≠ none ∧ fs.length ≤ 20)) ∧ Tu H pv us ∧ Pgs H us Ss ∧ us ≠ [] ∧ ∀ H', Kp [a] H H' → YAt K H' a ⟨Ss, wd⟩ → Q .non H'
theorem ok_stand (T : TX w K mg) : FnR P w K mg base CX0 1 (a_Yard_stand K) (sp_stand K) :=
  fnr0 (f_Yard_stand T) sc_stand (fun vs H Q E ⟨_, _, _, _, _, _, _, e, _⟩ => by rw [e]; rfl) (fun _ _ _ _ _ _ us hl => match us, hl with | [_, _], _ => rfl) fun cdv A outer s H vs Q E hr h => by
    obtain ⟨a, pv, dx, fs, us, Ss, wd, rfl, ha, only, hw, hb, hl, hp, hg, hne, q⟩ := h
    have cl := cl_Yard T
    obtain ⟨uS, hS⟩ := con_SORT T
    refine ⟨_, pss_one (ps_asg (pe_tupU (pa_cons (L2.pv 1) (pa_cons (pe_tupU (pa_cons (pe_con (L2.pv 0) rfl) (pa_cons (pe_ix ix_tupU (L2.pv 1) (pe_un un_neg pe_int) (fun _ _ => rfl)) pa_nil))) pa_nil))) (pg_tupU (n := 2) rfl (pgs_cons (pg_fldU (L2.pv 0)) (pgs_cons (pg_fldU (L2.pv 0)) pgs_nil)))), ?_⟩
    obtain ⟨last, hlast⟩ : ∃ last, us.getLast? = some last := by
      cases e : us.getLast? with
      | none => exact absurd (List.getLast?_eq_none_iff.mp e) hne
      | some x => exact ⟨x, rfl⟩
    have l1 : (putF "pages" pv fs).length ≤ 20 := by
      rcases hl with z | ⟨z1, z2, z3⟩
      · have := length_putF "pages" pv fs; omega
      · rw [len_put z1]; exact z3
    refine ⟨_, rfl, _, rfl, a, _, dx, fs, _, uS, rfl, ha, cl, hS, only _ (by decide) (by decide) (by decide) (by decide), _, rfl, _, rfl, _, _, _, hp, rfl, atI_last hlast, Nat.le_of_ble_eq_true rfl, fun lv H1 k1 hlv => ?_⟩
    refine ⟨Nat.le_of_ble_eq_true rfl, fun t H2 k2 ht => ?_⟩
    have k02 := k1.trans k2
    have ha2 := k02.get ha
    refine ⟨_, ht, rfl, _, _, rfl, _, rfl, a, _, dx, fs, rfl, ha2, cl, na_Yard_pages T, by omega, fun H3 k3 e3 => ?_⟩
    refine ⟨_, _, rfl, _, rfl, a, _, dx, _, rfl, e3, cl, na_Yard_look T, by omega, fun H4 k4 e4 => ⟨rfl, ?_⟩⟩
    have k : Kp [a] H H4 := (k02.nil.trans k3).trans k4
    have l2 : (putF "look" lv (putF "pages" pv fs)).length ≤ 20 := by
      rcases hl with z | ⟨z1, z2, z3⟩
      · have h1 := length_putF "look" lv (putF "pages" pv fs); have h2 := length_putF "pages" pv fs; omega
      · rw [len_put (fun z => z2 ((lk_ne (by decide)).symm.trans z)), len_put z1]; exact z3
    refine q H4 k ⟨dx, _, pv, us, lv, last, e4, l2, (only.put (.inr (.inr (.inl rfl)))).put (.inr (.inr (.inr rfl))), ?_, ?_, ?_, hp.kp k, hg.kp k, lk_same, ((hlv.kp k2).kp k3).kp k4, hlast⟩
    · exact (lk_ne (by decide)).trans ((lk_ne (by decide)).trans hw)
    · exact (lk_ne (by decide)).trans ((lk_ne (by decide)).trans hb)
    · exact (lk_ne (by decide)).trans lk_same
theorem sc_judge : FnScope ["self", "page"] ["self", "page"] (defScope s_Yard_judge) := ⟨rfl, rfl, rfl, by decide +kernel, rfl, by decide +kernel, by decide +kernel⟩
theorem ok_judge (T : TX w K mg) : FnR P w K mg base CX0 1 (a_Yard_judge K) (fun vs H Q _ => vs.length = 2 ∧ Q .non H) :=
  fnr0 (f_Yard_judge T) sc_judge (fun vs H Q E ⟨e, _⟩ => e) (fun _ _ _ _ _ _ us hl => match us, hl with | [_, _], _ => rfl) fun cdv A outer s H vs Q E hr h => ⟨_, pss_one ps_pass, h.2⟩
theorem sc_require_free : FnScope ["self"] ["self"] (defScope s_Yard_require_free) := ⟨rfl, rfl, rfl, by decide +kernel, rfl, by decide +kernel, by decide +kernel⟩
def sp_require_free (K : PySem.W.Frag) : Sp := fun vs H Q _ => ∃ a Y, vs = [.ref a] ∧ YAt K H a Y ∧ Q .non H
theorem ok_require_free (T : TX w K mg) : FnR P w K mg base CX0 1 (a_Yard_require_free K) (sp_require_free K) :=
  fnr0 (f_Yard_require_free T) sc_require_free (fun vs H Q E ⟨_, _, e, _⟩ => by rw [e]; rfl) (fun _ _ _ _ _ _ us hl => match us, hl with | [_], _ => rfl) fun cdv A outer s H vs Q E hr h => by
    obtain ⟨a, Y, rfl, hY, q⟩ := h
    obtain ⟨dx, fs, pv, us, lv, last, h1, h2, h3, h4, h5, h6, h7, h8, h9, h10, h11⟩ := hY.ex
    refine ⟨_, pss_one (ps_if (pt_val (pe_fld (L2.pv 0) rfl)) pss_never pss_nil), ?_⟩
    exact ⟨_, rfl, a, _, dx, fs, _, rfl, h1, cl_Yard T, na_Yard_is_busy T, h5, _, rfl, iteF q⟩
theorem sc_boolY : FnScope ["self"] ["self"] (defScope s_Yard_bool) := ⟨rfl, rfl, rfl, by decide +kernel, rfl, by decide +kernel, by decide +kernel⟩
def sp_boolY (K : PySem.W.Frag) : Sp := fun vs H Q _ => ∃ a Y, vs = [.ref a] ∧ YAt K H a Y ∧ POk (lastP Y.pages) ∧ ∀ H', Kp [] H H' → Q (.bl (pgFill (lastP Y.pages))) H'
theorem ok_boolY (T : TX w K mg) : FnR P w K mg base CX0 6 (a_Yard_bool K) (sp_boolY K) :=
  fnr0 (f_Yard_bool T) sc_boolY (fun vs H Q E ⟨_, _, e, _⟩ => by rw [e]; rfl) (fun _ _ _ _ _ _ us hl => match us, hl with | [_], _ => rfl) fun cdv A outer s H vs Q E hr h => by
    obtain ⟨a, Y, rfl, hY, ⟨n, ok⟩, q⟩ := h
    refine ⟨_, pss_one (ps_ret (pe_callTy call_bool1 (by rfl) (n_bool T) b_bool (pa_cons (pe_f (ok_is_filled T) (g_is_filled T) (kp_is_filled T) hr (pa_cons (pe_propR (L2.pv 0) (cl_Yard T) (pr_pair T) (ok_pair T) hr) (pa_cons (pe_propR (L2.pv 0) (cl_Yard T) (pr_box T) (ok_box T) hr) pa_nil))) pa_nil))), ?_⟩
    obtain ⟨dx, fs, h1⟩ : ∃ dx fs, H a = some (.ins (He.ga K "Yard") dx fs) := let ⟨dx, fs, _, _, _, _, h1, _⟩ := hY.ex; ⟨dx, fs, h1⟩
    have e : (lastP Y.pages).box.length = n := ok.box.1
    unfold pgFill at q
    rw [e] at q
    exact ⟨_, rfl, a, dx, fs, rfl, h1, a, Y, rfl, hY, fun v hv => ⟨_, rfl, a, dx, fs, rfl, h1, a, Y, rfl, hY, fun u hu => ⟨_, _, n, _, _, _, rfl, hv, hu, ok.one.sds (Int.le_refl _), ok.other.sds (Int.le_refl _), ok.box.sds (Int.le_refl _), ok.n1, ok.n4, fun H' k => .inr ⟨_, rfl, q H' k⟩⟩⟩⟩
/-- bool(yard), in any body -/
theorem pe_boolY {X : Cx} (T : TX X.w X.K X.mg) {j : Nat} {e : PySem.Expr} {te : TE} {p pos : Pos} (hr : Room j X.A) (he : PE X e te) (hk : 8 ≤ j := by decide) (hg : Gl X "bool" := by rfl) (hst : starEach [e] X.env = (false, eval e X.env) :: starEach [] X.env := by rfl) (hpl : (backTo pos (starEach [] X.env)).any (·.1) = false := by rfl) :
    PE X (.Call (.Name "bool" p) [e] [] pos) (tCB (rBoolOwn (He.ga X.K "Yard") (sp_boolY X.K) E0) (tCons te tNil)) :=
  pe_callTy (call_boolOwn (me_Yard_bool T).at_ (me_Yard_bool T).fn (ok_boolY T) hr pass0 hk) hg (n_bool T) b_bool (pa_cons he pa_nil (hs := hst)) (by decide) (by decide) hst hpl
theorem sc_tell : FnScope ["self", "was_filled", "is_now"] ["self", "was_filled"] (defScope s_Yard_tell) := ⟨rfl, rfl, rfl, by decide +kernel, rfl, by decide +kernel, by decide +kernel⟩
def tellF (now was : Bool) : Str := if now = was then "same" else if now = true then "filled" else "barred"
def sp_tell (K : PySem.W.Frag) : Sp := fun vs H Q _ => ∃ a b Y, vs = [.ref a, .bl b] ∧ YAt K H a Y ∧ POk (lastP Y.pages) ∧ ∀ H', Kp [a] H H' → YAt K H' a ⟨Y.pages, tellF (pgFill (lastP Y.pages)) b⟩ → Q .non H'
theorem ok_tell (T : TX w K mg) : FnR P w K mg base CX0 9 (a_Yard_tell K) (sp_tell K) :=
  fnr0 (f_Yard_tell T) sc_tell (fun vs H Q E ⟨_, _, _, e, _⟩ => by rw [e]; rfl) (fun _ _ _ _ _ _ us hl => match us, hl with | [_, _], _ => rfl) fun cdv A outer s H vs Q E hr h => by
    obtain ⟨a, b, Y, rfl, hY, ok, q⟩ := h
    have nd := sc_tell.nd
    refine ⟨_, pss_cons (ps_set (i := 2) nd rfl (Or.inl rfl) (pe_boolY T hr (L2.pv 0)))
      (pss_one (ps_fldU (L2.pv 0) (pe_ifExp (pt_cmpR op_eq (L2.pv 2) (L2.pv 1) (nomark _)) (pe_gs (z_SAME T)) (pe_ifExp (pt_val (L2.pv 2)) (pe_gs (z_FILLED T)) (pe_gs (z_BARRED T)))))), ?_⟩
    obtain ⟨dx0, fs0, h1⟩ : ∃ dx fs, H a = some (.ins (He.ga K "Yard") dx fs) := let ⟨dx, fs, _, _, _, _, h1, _⟩ := hY.ex; ⟨dx, fs, h1⟩
    refine ⟨_, rfl, _, rfl, a, dx0, fs0, rfl, h1, a, Y, rfl, hY, ok, fun H1 k1 => ⟨_, rfl, ?_⟩⟩
    have hY1 := hY.kp0 k1
    obtain ⟨dx, fs, pv, us, lv, last, h1, h2, h3, h4, h5, h6, h7, h8, h9, h10, h11⟩ := hY1.ex
    have fin : ∀ z : Str, z = tellF (pgFill (lastP Y.pages)) b → tVar 0 [some (.ref a), some (.bl b), some (.bl (pgFill (lastP Y.pages)))] H1 (fun x H2 => ∃ a C dx fs, x = .ref a ∧ H2 a = some (.ins C dx fs) ∧ Cls K C ∧ NoAttr K C "word" ∧ fs.length < 1000 ∧ ∀ H3, Kp [a] H2 H3 → H3 a = some (.ins C dx (putF "word" (.str z) fs)) → Q .non H3) := fun z hz => by
      refine ⟨_, rfl, a, _, dx, fs, rfl, h1, cl_Yard T, na_Yard_word T, by omega, fun H3 k3 e3 => q H3 (k1.nil.trans k3) ?_⟩
      refine ⟨dx, _, pv, us, lv, last, e3, ?_, OnlyF.put h3 (.inl rfl), ?_, ?_, ?_, h7.kp k3, h8.kp k3, ?_, h10.kp k3, h11⟩
      · rw [len_put (fun z => nomatch h4.symm.trans z)]; exact h2
      · rw [← hz]; exact lk_same
      · exact (lk_ne (by decide)).trans h5
      · exact (lk_ne (by decide)).trans h6
      · exact (lk_ne (by decide)).trans h9
    refine ⟨_, rfl, _, rfl, rfl, _, rfl, ?_⟩
    by_cases c : pgFill (lastP Y.pages) = b
    · rw [show decide (V.bl (pgFill (lastP Y.pages)) = V.bl b) = true by simp [c]]
      exact iteT (fin _ (by unfold tellF; rw [if_pos c]))
    · rw [show decide (V.bl (pgFill (lastP Y.pages)) = V.bl b) = false by simp [c]]
      refine iteF ⟨_, rfl, _, rfl, ?_⟩
      cases c2 : pgFill (lastP Y.pages) with
      | true => rw [c2] at c fin; exact iteT (fin _ (by unfold tellF; rw [if_neg c, if_pos rfl]))
      | false => rw [c2] at c fin; exact iteF (fin _ (by unfold tellF; rw [if_neg c, if_neg (by decide)]))
end
end TB
namespace TB
open PySem PySem.Spec PyProof.Rows L2
/-! ### x(e, *t), x a local that holds a def of the top -/
def tLocS (X : Cx) (k i : Nat) (E : XK) (t1 t2 : TE) : TE := fun σ H Q => ∃ f sp, σ[i]? = some (some (.ref f)) ∧ PySem.W.keepIn X.K (.ref f) = true ∧ FnR X.prog X.w X.K X.mg X.base (L2.CX X.prog X.w) k f sp ∧
  t1 σ H fun y1 H1 => t2 σ H1 fun y2 H2 => ∃ b vs, y2 = .ref b ∧ H2 b = some (.tup vs) ∧ sp (y1 :: vs) H2 Q E
theorem pe_locS {X : Cx} {k j i : Nat} {x : Str} {E : XK} {e1 e2 : PySem.Expr} {t1 t2 : TE} {np p pos : Pos} (hN : X.N[i]? = some x) (hv : Vis X.env.scope x) (hr : Room j X.A) (hx : Passes (L2.CX X.prog X.w) X E) (h1 : PE X e1 t1) (h2 : PE X e2 t2) (hk : k ≤ j := by decide)
    (hd : (x == ("__debug__" : Str)) = false := by decide) (hcd : (x == ("__classdict__" : Str)) = false := by decide) (hst : starEach [e1, .Starred e2 p] X.env = [(false, eval e1 X.env), (true, eval e2 X.env)] := by rfl) :
    PE X (.Call (.Name x np) [e1, .Starred e2 p] [] pos) (tLocS X k i E t1 t2) := by
  refine ⟨fun pins s σ H Q I h => ?_⟩
  obtain ⟨f, sp, hs, hkp, F, h⟩ := h
  refine wpAny_Call_Name_kw (ld_var I hN hv hs (fun u ru => ?_) hd hcd)
  obtain rfl : u = Value.ref f := ru
  rw [hst]
  refine PySem.W.ks_call (P := fun hh => X.K.In hh) (first := []) rfl (PySem.W.keeps_K hkp) (Calls.evalArgs_plain (Calls.spliced_cons (thn (h1.run pins s σ _ _ I h) fun v1 s3 ⟨y1, H1, I3, ry1, q2⟩ =>
    PySem.W.ks_spliced (thn (h2.run pins s3 σ H1 _ I3 q2) fun v2 s4 ⟨y2, H2, I4, ry2, b, vs, ey, ht, hsp⟩ => ?_))))
  subst ey
  obtain rfl : v2 = Value.ref b := ry2
  refine StX.star_any I4 (.inl (SqT.of ht)) fun us s5 I5 rv => Calls.spliced_nil ⟨I5.kIn, ?_⟩
  show wpAny _ _ (call (.ref f) (v1 :: (us ++ [])) []) _ _ _
  rw [List.append_nil]
  exact wp_fnR F hr hk hx I5 (.cons ry1 rv) hsp
/-! ### def f(a, .., *v) -/
theorem fnrS {P : Program} {w : World} {K : PySem.W.Frag} {mg : Str → Option Value} {base : Heap} {x qual pv : Str} {st : Stmt} {f : Addr} {N ps : List Str} {k : Nat} {sp : Sp}
    (F : ∃ fd, FunD K x qual (defArgs st) (defBody st) (defScope st) [] [] f fd) (S : FnScope N (ps ++ [pv]) (defScope st))
    (hb : ∀ (kV doc pm : Value) (an : Option Addr) (cdv ct : Value) (us rest : List Value), us.length = ps.length → bindArgs (PySem.W.fnOf x qual (defArgs st) (defBody st) (defScope st) .none kV doc pm an cdv ct) ⟨us ++ rest, []⟩ = (newTuple rest >>= fun t => pure (ps.zip us ++ [(pv, t)])))
    (hbody : ∀ (cdv : Value) (A : Around) (outer : List Env) (s : Shared) (H : Hp) (vs : List V) (Q : VK) (E : XK), Room k (A.deeper (envOfC qual (defScope st) s.heap.objs.size f cdv)) → sp vs H Q E →
      ∃ t, PSs (cxOf (L2.CX P w) P w K mg base N qual (defScope st) f cdv A outer s H E) (defBody st) t ∧ t { nx := fun _ H' => Q .non H', rt := Q } (start N vs) H) :
    FnR P w K mg base (L2.CX P w) (k + 1) f (fun vs H Q E => ∃ ws rest, vs = ws ++ rest ∧ ws.length = ps.length ∧ rest.length ≤ sizeLine ∧ ∀ p, H p = none → sp (ws ++ [V.ref p]) (upd H p (.tup rest)) Q E) := by
  obtain ⟨fd, F⟩ := F
  obtain ⟨oc, od, dV, kV, doc, pm, an, cdv, ct, osl, rfl, lk, hcd, hD, _⟩ := F.ex
  have e : dV = .none := by
    rcases hD with ⟨_, e⟩ | ⟨e, _⟩
    · exact e
    · exact absurd rfl e
  subst e
  exact StX.fn_star lk hcd S StX.cxUp (hb kV doc pm an cdv ct) (hbody cdv)
/-! ### edits -/
inductive Ed
  | side (k : Nat) (x : Int)
  | brick (b k : Nat) (x : Int)
  | swap
  | turn (o : List Nat)
  | stretch (k : Nat) (x : Int)
  | more (x : Int)
def edName : Ed → Str
  | .side .. => "side"
  | .brick .. => "brick"
  | .swap => "swap"
  | .turn _ => "turn"
  | .stretch .. => "stretch"
  | .more _ => "more"
def EdV (H : Hp) : Ed → List V → Prop
  | .side k x, vs => vs = [.int (k : Nat), .int x]
  | .brick b k x, vs => vs = [.int (b : Nat), .int (k : Nat), .int x]
  | .swap, vs => vs = []
  | .turn o, vs => ∃ u, vs = [u] ∧ Ti H u (ordI o)
  | .stretch k x, vs => vs = [.int (k : Nat), .int x]
  | .more x, vs => vs = [.int x]
theorem EdV.kp {S : List Addr} {H H' : Hp} {e : Ed} {vs : List V} (h : EdV H e vs) (k : Kp S H H') : EdV H' e vs := by
  cases e with
  | turn o => obtain ⟨u, e, h⟩ := h; exact ⟨u, e, h.kp k⟩
  | _ => exact h
def edP (S : Pg) : Ed → Pg
  | .side k x => sideP S k x
  | .brick b k x => brickP S b k x
  | .swap => swapP S
  | .turn o => turnP S o
  | .stretch k x => stretchP S k x
  | .more x => moreP S x
def edOk (n : Nat) : Ed → Prop
  | .side _ x => 1 ≤ x ∧ x ≤ 1000000
  | .brick b k x => b < 2 ∧ k < n ∧ 1 ≤ x ∧ x ≤ 1000000
  | .swap => True
  | .turn o => Ord n o
  | .stretch k x => k < n ∧ 1 ≤ x ∧ x ≤ 64
  | .more x => 1 ≤ x ∧ x ≤ 1000000
/-- does it hit: the axis that is not there -/
def edMiss (n : Nat) : Ed → Option Nat
  | .side k _ => if k < n then none else some k
  | _ => none
section
variable {w : World} {K : PySem.W.Frag} {mg : Str → Option Value} {base : Heap}
theorem tab_DEEDS (T : TX w K mg) : ∃ es n, KDict K w (He.ga K "DEEDS") es n := T.c.x.t.tab 0
theorem tab_SHAPES (T : TX w K mg) : ∃ es n, KDict K w (He.ga K "SHAPES") es n := T.c.x.t.tab 1
theorem deed_at (T : TX w K mg) {z f : Str} (h : (z, He.Dv.glo f) ∈ [(("side" : Str), He.Dv.glo "put_side"), ("brick", .glo "put_brick"), ("swap", .glo "swapped"), ("turn", .glo "turned"), ("stretch", .glo "stretched"), ("more", .glo "more")]) : KDct K w (He.ga K "DEEDS") z (.ref (He.ga K f)) := by
  obtain ⟨es, n, D⟩ := tab_DEEDS T
  obtain ⟨u, hu, r⟩ := He.valsB_ok (v_DEEDS T) h
  exact ⟨es, n, u, D.at_, D.lit, hu, r⟩
/-- what a deed promises -/
def DeedP (K : PySem.W.Frag) (e : Ed) (sp : Sp) : Prop := ∀ (v : V) (S : Pg) (n : Nat) (H : Hp) (vs : List V) (Q : VK) (E : XK), PgV H v S → PgOk 1048576 n S → EdV H e vs → edOk n e →
  (edMiss n e = none → ∀ r H', Kp [] H H' → PgV H' r (edP S e) → Q r H') → (∀ k, edMiss n e = some k → NAx K H k E) → sp (v :: vs) H Q E
theorem upR {P : Program} {j k : Nat} {f : Addr} {sp : Sp} (F : FnR P w K mg base CX0 j f sp) (h : j ≤ k) : FnR P w K mg base (L2.CX P w) k f sp := fun A outer s H us vs Q E hr => FnR.up F A outer s H us vs Q E (hr.mono h)
theorem deeds (T : TX w K mg) (e : Ed) : ∃ f sp, KDct K w (He.ga K "DEEDS") (edName e) (.ref f) ∧ PySem.W.keepIn K (.ref f) = true ∧ FnR PW w K mg base (L2.CX PW w) 4 f sp ∧ DeedP K e sp := by
  cases e with
  | side k x =>
    refine ⟨_, _, deed_at T (f := "put_side") (by simp [edName]), kp_put_side T, ok_put_side T, fun v S n H vs Q E hv ok he ho q1 q2 => ?_⟩
    cases he
    obtain ⟨x1, x2⟩ := ho
    refine ⟨v, S, n, k, x, rfl, hv, ok, x1, by omega, fun c => q1 (if_pos c), fun c => q2 k (if_neg c)⟩
  | brick b k x =>
    refine ⟨_, _, deed_at T (f := "put_brick") (by simp [edName]), kp_put_brick T, upR (ok_put_brick T) (by decide), fun v S n H vs Q E hv ok he ho q1 q2 => ?_⟩
    cases he
    obtain ⟨b2, hk, x1, x2⟩ := ho
    exact ⟨v, S, n, b, k, x, rfl, hv, ok, x1, by omega, b2, hk, q1 rfl⟩
  | swap =>
    refine ⟨_, _, deed_at T (f := "swapped") (by simp [edName]), kp_swapped T, upR (ok_swapped T) (by decide), fun v S n H vs Q E hv ok he ho q1 q2 => ?_⟩
    cases he
    exact ⟨v, S, rfl, hv, q1 rfl⟩
  | turn o =>
    refine ⟨_, _, deed_at T (f := "turned") (by simp [edName]), kp_turned T, upR (ok_turned T) (by decide), fun v S n H vs Q E hv ok he ho q1 q2 => ?_⟩
    obtain ⟨u, rfl, hu⟩ := he
    exact ⟨v, u, S, n, o, rfl, hv, ok, hu, ho, q1 rfl⟩
  | stretch k x =>
    refine ⟨_, _, deed_at T (f := "stretched") (by simp [edName]), kp_stretched T, upR (ok_stretched T) (by decide), fun v S n H vs Q E hv ok he ho q1 q2 => ?_⟩
    cases he
    obtain ⟨hk, x1, x2⟩ := ho
    exact ⟨v, S, n, k, x, rfl, hv, ok, x1, x2, hk, q1 rfl⟩
  | more x =>
    refine ⟨_, _, deed_at T (f := "more") (by simp [edName]), kp_more T, upR (ok_more T) (by decide), fun v S n H vs Q E hv ok he ho q1 q2 => ?_⟩
    cases he
    obtain ⟨x1, x2⟩ := ho
    exact ⟨v, S, n, x, rfl, hv, ok, x1, x2, q1 rfl⟩
end
end TB
namespace TB
open PySem PySem.Spec PyProof.Rows L2
theorem YAt.ins {K : PySem.W.Frag} {H : Hp} {a : Addr} {Y : YS} (h : YAt K H a Y) : ∃ dx fs, H a = some (.ins (He.ga K "Yard") dx fs) ∧ OnlyF fs := let ⟨dx, fs, _, _, _, _, h1, _, h3, _⟩ := h.ex; ⟨dx, fs, h1, h3⟩
theorem TbI.kpY {K : PySem.W.Frag} {H H' : Hp} {a : Addr} (t : TbI K H) (k : Kp [a] H H') (h : ∃ C dx fs, H a = some (.ins C dx fs)) : TbI K H' := t.kp k fun b hb => by rw [List.mem_singleton.mp hb]; exact h
section
variable {w : World} {K : PySem.W.Frag} {mg : Str → Option Value} {base : Heap}
theorem sc_do : FnScope ["self", "name", "values", "deed", "page"] ["self", "name", "values"] (defScope s_Yard_do) := ⟨rfl, rfl, rfl, by decide +kernel, rfl, by decide +kernel, by decide +kernel⟩
def sp_do (K : PySem.W.Frag) : Sp := fun vs H Q E => ∃ a t Y e n us, vs = [.ref a, .str (edName e), t] ∧ YAt K H a Y ∧ Tu H t us ∧ EdV H e us ∧ edOk n e ∧ PgOk 1048576 n (lastP Y.pages) ∧ Y.pages.length ≤ 30 ∧
  (edMiss n e = none → ∀ H', Kp [a] H H' → YAt K H' a ⟨Y.pages ++ [edP (lastP Y.pages) e], Y.word⟩ → Q (.int (Y.pages.length : Nat)) H') ∧ (∀ k, edMiss n e = some k → NAx K H k E)
theorem ok_do (T : TX w K mg) : FnR PW w K mg base (L2.CX PW w) 5 (a_Yard_do K) (sp_do K) :=
  fnrX (f_Yard_do T) sc_do (fun vs H Q E ⟨_, _, _, _, _, _, e, _⟩ => by rw [e]; rfl) (fun _ _ _ _ _ _ us hl => match us, hl with | [_, _, _], _ => rfl) fun cdv A outer s H vs Q E hr h => by
    obtain ⟨a, t, Y, e, n, us, rfl, hY, ht, he, ho, ok, hl, q1, q2⟩ := h
    have nd := sc_do.nd
    have cl := cl_Yard T
    refine ⟨_, pss_cons (ps_if (pt_cmpR op_ge (pe_propR (L2.pv 0) cl (pr_version T) (ok_version T) hr) (pe_gi (i_HISTORY T)) (nomark _)) pss_never pss_nil)
      (pss_cons (ps_set (i := 3) nd rfl (Or.inl rfl) (pe_ix ix_kdict (pe_cls (g_DEEDS T)) (L2.pv 1) (fun _ _ => rfl)))
      (pss_cons (ps_set (i := 4) nd rfl (Or.inl rfl) (pe_locS (E := E) (k := 4) (i := 3) rfl (.inl rfl) hr psX (pe_ix ix_tupU (pe_fld (L2.pv 0) rfl) (pe_un un_neg pe_int) (fun _ _ => rfl)) (L2.pv 2)))
      (pss_cons (ps_expr (pe_m (L2.pv 0) cl (me_Yard_judge T) (ok_judge T) hr (pa_cons (L2.pv 4) pa_nil)))
      (pss_cons (ps_expr (pe_m (L2.pv 0) cl (me_Yard_stand T) (ok_stand T) hr (pa_cons (pe_op op_catU (pe_fld (L2.pv 0) rfl) (pe_tupU (pa_cons (L2.pv 4) pa_nil))) pa_nil)))
      (pss_one (ps_ret (pe_propR (L2.pv 0) cl (pr_version T) (ok_version T) hr))))))), ?_⟩
    obtain ⟨dx, fs, pv, vs, lv, last, h1, h2, h3, h4, h5, h6, h7, h8, h9, h10, h11⟩ := hY.ex
    refine ⟨_, rfl, a, dx, fs, rfl, h1, a, Y, rfl, hY, _, _, rfl, rfl, _, rfl, ?_⟩
    rw [show decide ((30 : Int) ≤ ((Y.pages.length : Nat) : Int) - 1) = false from decide_eq_false (by omega)]
    refine iteF ?_
    obtain ⟨f, sp, hk, kp, F, hD⟩ := deeds (mg := mg) (base := base) T e
    refine ⟨_, rfl, _, _, _, rfl, rfl, hk, ?_⟩
    refine ⟨f, sp, rfl, kp, F, _, rfl, a, _, dx, fs, _, rfl, h1, cl, na_Yard_pages T, h6, _, rfl, _, _, _, h7, rfl, atI_last h11, ?_⟩
    obtain ⟨tb, rfl, htb⟩ := id ht
    refine ⟨_, rfl, tb, us, rfl, htb, hD last _ n H us _ E (h8.last h11) ok he ho (fun c r H1 k1 hr1 => ?_) q2⟩
    have g1 := k1.get h1
    refine ⟨_, rfl, a, dx, fs, rfl, g1, h3 _ (by decide) (by decide) (by decide) (by decide), _, rfl, rfl, ?_⟩
    refine ⟨_, rfl, a, dx, fs, rfl, g1, h3 _ (by decide) (by decide) (by decide) (by decide), ?_⟩
    refine ⟨_, rfl, a, _, dx, fs, _, rfl, g1, cl, na_Yard_pages T, h6, _, rfl, Nat.le_of_ble_eq_true rfl, fun tp H2 k2 htp => ?_⟩
    have hlen := h8.len
    refine ⟨vs, [r], (h7.kp k1).kp k2, htp, by show vs.length + 1 ≤ 1000; omega, fun pv' H3 k3 hpv' => ?_⟩
    have k13 := (k1.trans k2).trans k3
    refine ⟨a, pv', dx, fs, vs ++ [r], Y.pages ++ [edP (lastP Y.pages) e], Y.word, rfl, k13.get h1, h3, h4, h5, .inr ⟨by rw [h6]; simp, by rw [h9]; simp, h2⟩, hpv', (h8.kp k13).snoc ((hr1.kp k2).kp k3), by simp, fun H4 k4 hY4 => ?_⟩
    obtain ⟨dx4, fs4, g4, _⟩ := hY4.ins
    refine ⟨_, rfl, a, dx4, fs4, rfl, g4, a, _, rfl, hY4, ?_⟩
    have z := q1 c H4 (k13.nil.trans k4) hY4
    show Q (.int (((Y.pages ++ [edP (lastP Y.pages) e]).length : Nat) - 1)) H4
    rw [List.length_append]
    show Q (.int ((((Y.pages.length + 1 : Nat) : Nat) : Int) - 1)) H4
    rw [show ((((Y.pages.length + 1 : Nat) : Nat) : Int) - 1) = ((Y.pages.length : Nat) : Int) by omega]
    exact z
theorem sc_edit : FnScope ["self", "name", "values", "was_filled", "version"] (["self", "name", "values"]) (defScope s_Yard_edit) := ⟨rfl, rfl, rfl, by decide +kernel, rfl, by decide +kernel, by decide +kernel⟩
/-- what an edit comes to -/
def EdPost (K : PySem.W.Frag) (a : Addr) (Y : YS) (e : Ed) (n : Nat) (H : Hp) (Q : VK) (E : XK) : Prop :=
  (edMiss n e = none → ∀ H', Kp [a] H H' → YAt K H' a ⟨Y.pages ++ [edP (lastP Y.pages) e], tellF (pgFill (edP (lastP Y.pages) e)) (pgFill (lastP Y.pages))⟩ → Q (.int (Y.pages.length : Nat)) H') ∧ (∀ k, edMiss n e = some k → NAx K H k E)
structure EdPre (K : PySem.W.Frag) (a : Addr) (Y : YS) (e : Ed) (n : Nat) (H : Hp) : Prop where
  yat : YAt K H a Y
  ok : edOk n e
  pg : PgOk 1048576 n (lastP Y.pages)
  pg2 : edMiss n e = none → PgOk 1048576 n (edP (lastP Y.pages) e)
  len : Y.pages.length ≤ 30
def sp_edit (K : PySem.W.Frag) : Sp := fun vs H Q E => ∃ a Y e n us, vs = .ref a :: .str (edName e) :: us ∧ EdPre K a Y e n H ∧ EdV H e us ∧ EdPost K a Y e n H Q E
theorem EdV.len {H : Hp} {e : Ed} {us : List V} (h : EdV H e us) : us.length ≤ 3 := by
  cases e with
  | turn o => obtain ⟨u, rfl, _⟩ := h; exact Nat.le_of_ble_eq_true rfl
  | _ => cases h; exact Nat.le_of_ble_eq_true rfl
theorem NAx.ofK {H H1 : Hp} {k : Int} {E : XK} (h : NAx K H k E) (kk : Kp [] H H1) : NAx K H1 k E := h.kp kk
theorem ok_edit (T : TX w K mg) : FnR PW w K mg base (L2.CX PW w) 10 (a_Yard_edit K) (sp_edit K) := by
  have G := fnrS (P := PW) (w := w) (K := K) (mg := mg) (base := base) (k := 9) (ps := ["self", "name"]) (pv := "values") (N := ["self", "name", "values", "was_filled", "version"])
    (sp := fun vs H Q E => ∃ a t Y e n us, vs = [.ref a, .str (edName e), .ref t] ∧ H t = some (.tup us) ∧ EdPre K a Y e n H ∧ EdV H e us ∧ EdPost K a Y e n H Q E)
    (f_Yard_edit T) sc_edit (fun kV doc pm an cdv ct us rest hl => match us, hl, rest with | [_, _], _, [] => rfl | [_, _], _, _ :: _ => rfl) fun cdv A outer s H vs Q E hr h => by
      obtain ⟨a, t, Y, e, n, us, rfl, ht, ⟨hY, ho, ok, ok2, hl⟩, he, q1, q2⟩ := h
      have nd := sc_edit.nd
      have cl := cl_Yard T
      refine ⟨_, pss_cons (ps_expr (pe_m0 (L2.pv 0) cl (me_Yard_require_free T) (ok_require_free T) hr))
        (pss_cons (ps_set (i := 3) nd rfl (Or.inl rfl) (pe_boolY T hr (L2.pv 0)))
        (pss_cons (ps_set (i := 4) nd rfl (Or.inl rfl) (pe_m (E := E) (L2.pv 0) cl (me_Yard_do T) (ok_do T) hr (pa_cons (L2.pv 1) (pa_cons (L2.pv 2) pa_nil)) psX))
        (pss_cons (ps_expr (pe_m (L2.pv 0) cl (me_Yard_tell T) (ok_tell T) hr (pa_cons (L2.pv 3) pa_nil)))
        (pss_one (ps_ret (L2.pv 4)))))), ?_⟩
      obtain ⟨dx, fs, h1, only⟩ := hY.ins
      refine ⟨_, rfl, a, dx, fs, rfl, h1, only _ (by decide) (by decide) (by decide) (by decide), a, Y, rfl, hY, ?_⟩
      refine ⟨_, rfl, _, rfl, a, dx, fs, rfl, h1, a, Y, rfl, hY, ⟨n, ok⟩, fun H1 k1 => ⟨_, rfl, ?_⟩⟩
      refine ⟨_, rfl, a, dx, fs, rfl, k1.get h1, only _ (by decide) (by decide) (by decide) (by decide), _, rfl, _, rfl, ?_⟩
      refine ⟨a, _, Y, e, n, us, rfl, hY.kp0 k1, ⟨t, rfl, k1.get ht⟩, he.kp k1, ho, ok, hl, fun c H2 k2 hY2 => ?_, fun k c => (q2 k c).kp k1⟩
      obtain ⟨dx2, fs2, g2, only2⟩ := hY2.ins
      have lastE : lastP (Y.pages ++ [edP (lastP Y.pages) e]) = edP (lastP Y.pages) e := lastP_snoc _ _
      refine ⟨_, rfl, a, dx2, fs2, rfl, g2, only2 _ (by decide) (by decide) (by decide) (by decide), _, rfl, ?_⟩
      refine ⟨a, _, _, rfl, hY2, ⟨n, by rw [lastE]; exact ok2 c⟩, fun H3 k3 hY3 => ⟨_, rfl, q1 c H3 ((k1.nil.trans k2).trans k3) ?_⟩⟩
      rw [lastE] at hY3
      exact hY3
  refine G.imp fun vs H Q E h => ?_
  obtain ⟨a, Y, e, n, us, rfl, pre, he, q1, q2⟩ := h
  have hu := he.len
  refine ⟨[.ref a, .str (edName e)], us, rfl, rfl, Nat.le_trans hu (by decide), fun p hp => ⟨a, p, Y, e, n, us, rfl, upd_same, ⟨pre.yat.kp0 (.upd hp), pre.ok, pre.pg, pre.pg2, pre.len⟩, he.kp (Kp.upd (S := []) hp), fun c H' k hY => q1 c H' ((Kp.upd hp).trans k) hY, fun k c => (q2 k c).kp (.upd hp)⟩⟩
end
end TB
namespace TB
open PySem PySem.Spec PyProof.Rows L2
section
variable {w : World} {K : PySem.W.Frag} {mg : Str → Option Value} {base : Heap}
def sp_Y (K : PySem.W.Frag) (nm : Str) : Sp := fun vs H Q E => ∃ a Y e n us, vs = .ref a :: us ∧ edName e = nm ∧ EdPre K a Y e n H ∧ EdV H e us ∧ EdPost K a Y e n H Q E
theorem sc_Yside : FnScope ["self", "axis", "number"] ["self", "axis", "number"] (defScope s_Yard_side) := ⟨rfl, rfl, rfl, by decide +kernel, rfl, by decide +kernel, by decide +kernel⟩
theorem ok_Yside (T : TX w K mg) : FnR PW w K mg base (L2.CX PW w) 11 (a_Yard_side K) (sp_Y K "side") :=
  fnrX (f_Yard_side T) sc_Yside (fun vs H Q E ⟨a, Y, e, n, us, ev, en, pre, he, _⟩ => by cases e <;> first | (exact absurd en (by simp only [edName]; decide)) | (obtain ⟨u, hu, _⟩ := he; rw [ev, hu]; rfl) | (cases he; rw [ev]; rfl)) (fun _ _ _ _ _ _ us hl => match us, hl with | [_, _, _], _ => rfl) fun cdv A outer s H vs Q E hr h => by
    obtain ⟨a, Y, e, n, us, rfl, en, pre, he, q⟩ := h
    refine ⟨_, pss_one (ps_ret (pe_m (E := E) (L2.pv 0) (cl_Yard T) (me_Yard_edit T) (ok_edit T) hr (pa_cons pe_str (pa_cons (L2.pv 1) (pa_cons (L2.pv 2) pa_nil))) psX)), ?_⟩
    obtain ⟨dx, fs, h1, only⟩ := pre.yat.ins
    have key : ∀ us', us' = us → sp_edit K (.ref a :: .str "side" :: us') H Q E := fun us' z => ⟨a, Y, e, n, us, by rw [z, en], pre, he, q⟩
    cases e <;> first
      | exact absurd en (by simp only [edName]; decide)
      | (obtain ⟨u, rfl, _⟩ := he; exact ⟨_, rfl, a, dx, fs, rfl, h1, only _ (by decide) (by decide) (by decide) (by decide), _, rfl, _, rfl, key _ rfl⟩)
      | (cases he; exact ⟨_, rfl, a, dx, fs, rfl, h1, only _ (by decide) (by decide) (by decide) (by decide), _, rfl, _, rfl, key _ rfl⟩)
theorem sc_Ybrick : FnScope ["self", "kind", "axis", "number"] ["self", "kind", "axis", "number"] (defScope s_Yard_brick) := ⟨rfl, rfl, rfl, by decide +kernel, rfl, by decide +kernel, by decide +kernel⟩
theorem ok_Ybrick (T : TX w K mg) : FnR PW w K mg base (L2.CX PW w) 11 (a_Yard_brick K) (sp_Y K "brick") :=
  fnrX (f_Yard_brick T) sc_Ybrick (fun vs H Q E ⟨a, Y, e, n, us, ev, en, pre, he, _⟩ => by cases e <;> first | (exact absurd en (by simp only [edName]; decide)) | (obtain ⟨u, hu, _⟩ := he; rw [ev, hu]; rfl) | (cases he; rw [ev]; rfl)) (fun _ _ _ _ _ _ us hl => match us, hl with | [_, _, _, _], _ => rfl) fun cdv A outer s H vs Q E hr h => by
    obtain ⟨a, Y, e, n, us, rfl, en, pre, he, q⟩ := h
    refine ⟨_, pss_one (ps_ret (pe_m (E := E) (L2.pv 0) (cl_Yard T) (me_Yard_edit T) (ok_edit T) hr (pa_cons pe_str (pa_cons (L2.pv 1) (pa_cons (L2.pv 2) (pa_cons (L2.pv 3) pa_nil)))) psX)), ?_⟩
    obtain ⟨dx, fs, h1, only⟩ := pre.yat.ins
    have key : ∀ us', us' = us → sp_edit K (.ref a :: .str "brick" :: us') H Q E := fun us' z => ⟨a, Y, e, n, us, by rw [z, en], pre, he, q⟩
    cases e <;> first
      | exact absurd en (by simp only [edName]; decide)
      | (obtain ⟨u, rfl, _⟩ := he; exact ⟨_, rfl, a, dx, fs, rfl, h1, only _ (by decide) (by decide) (by decide) (by decide), _, rfl, _, rfl, _, rfl, key _ rfl⟩)
      | (cases he; exact ⟨_, rfl, a, dx, fs, rfl, h1, only _ (by decide) (by decide) (by decide) (by decide), _, rfl, _, rfl, _, rfl, key _ rfl⟩)
theorem sc_Yswap : FnScope ["self"] ["self"] (defScope s_Yard_swap) := ⟨rfl, rfl, rfl, by decide +kernel, rfl, by decide +kernel, by decide +kernel⟩
theorem ok_Yswap (T : TX w K mg) : FnR PW w K mg base (L2.CX PW w) 11 (a_Yard_swap K) (sp_Y K "swap") :=
  fnrX (f_Yard_swap T) sc_Yswap (fun vs H Q E ⟨a, Y, e, n, us, ev, en, pre, he, _⟩ => by cases e <;> first | (exact absurd en (by simp only [edName]; decide)) | (obtain ⟨u, hu, _⟩ := he; rw [ev, hu]; rfl) | (cases he; rw [ev]; rfl)) (fun _ _ _ _ _ _ us hl => match us, hl with | [_], _ => rfl) fun cdv A outer s H vs Q E hr h => by
    obtain ⟨a, Y, e, n, us, rfl, en, pre, he, q⟩ := h
    refine ⟨_, pss_one (ps_ret (pe_m (E := E) (L2.pv 0) (cl_Yard T) (me_Yard_edit T) (ok_edit T) hr (pa_cons pe_str pa_nil) psX)), ?_⟩
    obtain ⟨dx, fs, h1, only⟩ := pre.yat.ins
    have key : ∀ us', us' = us → sp_edit K (.ref a :: .str "swap" :: us') H Q E := fun us' z => ⟨a, Y, e, n, us, by rw [z, en], pre, he, q⟩
    cases e <;> first
      | exact absurd en (by simp only [edName]; decide)
      | (obtain ⟨u, rfl, _⟩ := he; exact ⟨_, rfl, a, dx, fs, rfl, h1, only _ (by decide) (by decide) (by decide) (by decide), key _ rfl⟩)
      | (cases he; exact ⟨_, rfl, a, dx, fs, rfl, h1, only _ (by decide) (by decide) (by decide) (by decide), key _ rfl⟩)
theorem sc_Yturn : FnScope ["self", "order"] ["self", "order"] (defScope s_Yard_turn) := ⟨rfl, rfl, rfl, by decide +kernel, rfl, by decide +kernel, by decide +kernel⟩
theorem ok_Yturn (T : TX w K mg) : FnR PW w K mg base (L2.CX PW w) 11 (a_Yard_turn K) (sp_Y K "turn") :=
  fnrX (f_Yard_turn T) sc_Yturn (fun vs H Q E ⟨a, Y, e, n, us, ev, en, pre, he, _⟩ => by cases e <;> first | (exact absurd en (by simp only [edName]; decide)) | (obtain ⟨u, hu, _⟩ := he; rw [ev, hu]; rfl) | (cases he; rw [ev]; rfl)) (fun _ _ _ _ _ _ us hl => match us, hl with | [_, _], _ => rfl) fun cdv A outer s H vs Q E hr h => by
    obtain ⟨a, Y, e, n, us, rfl, en, pre, he, q⟩ := h
    refine ⟨_, pss_one (ps_ret (pe_m (E := E) (L2.pv 0) (cl_Yard T) (me_Yard_edit T) (ok_edit T) hr (pa_cons pe_str (pa_cons (L2.pv 1) pa_nil)) psX)), ?_⟩
    obtain ⟨dx, fs, h1, only⟩ := pre.yat.ins
    have key : ∀ us', us' = us → sp_edit K (.ref a :: .str "turn" :: us') H Q E := fun us' z => ⟨a, Y, e, n, us, by rw [z, en], pre, he, q⟩
    cases e <;> first
      | exact absurd en (by simp only [edName]; decide)
      | (obtain ⟨u, rfl, _⟩ := he; exact ⟨_, rfl, a, dx, fs, rfl, h1, only _ (by decide) (by decide) (by decide) (by decide), _, rfl, key _ rfl⟩)
      | (cases he; exact ⟨_, rfl, a, dx, fs, rfl, h1, only _ (by decide) (by decide) (by decide) (by decide), _, rfl, key _ rfl⟩)
theorem sc_Ystretch : FnScope ["self", "axis", "number"] ["self", "axis", "number"] (defScope s_Yard_stretch) := ⟨rfl, rfl, rfl, by decide +kernel, rfl, by decide +kernel, by decide +kernel⟩
theorem ok_Ystretch (T : TX w K mg) : FnR PW w K mg base (L2.CX PW w) 11 (a_Yard_stretch K) (sp_Y K "stretch") :=
  fnrX (f_Yard_stretch T) sc_Ystretch (fun vs H Q E ⟨a, Y, e, n, us, ev, en, pre, he, _⟩ => by cases e <;> first | (exact absurd en (by simp only [edName]; decide)) | (obtain ⟨u, hu, _⟩ := he; rw [ev, hu]; rfl) | (cases he; rw [ev]; rfl)) (fun _ _ _ _ _ _ us hl => match us, hl with | [_, _, _], _ => rfl) fun cdv A outer s H vs Q E hr h => by
    obtain ⟨a, Y, e, n, us, rfl, en, pre, he, q⟩ := h
    refine ⟨_, pss_one (ps_ret (pe_m (E := E) (L2.pv 0) (cl_Yard T) (me_Yard_edit T) (ok_edit T) hr (pa_cons pe_str (pa_cons (L2.pv 1) (pa_cons (L2.pv 2) pa_nil))) psX)), ?_⟩
    obtain ⟨dx, fs, h1, only⟩ := pre.yat.ins
    have key : ∀ us', us' = us → sp_edit K (.ref a :: .str "stretch" :: us') H Q E := fun us' z => ⟨a, Y, e, n, us, by rw [z, en], pre, he, q⟩
    cases e <;> first
      | exact absurd en (by simp only [edName]; decide)
      | (obtain ⟨u, rfl, _⟩ := he; exact ⟨_, rfl, a, dx, fs, rfl, h1, only _ (by decide) (by decide) (by decide) (by decide), _, rfl, _, rfl, key _ rfl⟩)
      | (cases he; exact ⟨_, rfl, a, dx, fs, rfl, h1, only _ (by decide) (by decide) (by decide) (by decide), _, rfl, _, rfl, key _ rfl⟩)
/-! ### undo -/
def NUx (K : PySem.W.Frag) (H : Hp) (E : XK) : Prop := ∀ H', Kp [] H H' → E (.ref (He.ga K "NothingToUndo")) none H'
theorem cut_init {xs : List V} : cutV xs none (some (-1)) = xs.dropLast := by
  show (xs.drop 0).take ((if (-1 : Int) < 0 then ((-1 : Int) + (xs.length : Int)).toNat else min (-1 : Int).toNat xs.length) - 0) = _
  rw [if_pos (by decide), List.drop_zero, Nat.sub_zero, List.dropLast_eq_take]
  congr 1
  omega
theorem dropLast_ne {vs : List V} (h : 2 ≤ vs.length) : vs.dropLast ≠ [] := fun z => by
  have := congrArg List.length z
  rw [List.length_dropLast] at this
  simp at this
  omega
theorem sc_undo : FnScope ["self", "was_filled"] ["self"] (defScope s_Yard_undo) := ⟨rfl, rfl, rfl, by decide +kernel, rfl, by decide +kernel, by decide +kernel⟩
def undoY (Y : YS) : YS := ⟨Y.pages.dropLast, tellF (pgFill (lastP Y.pages.dropLast)) (pgFill (lastP Y.pages))⟩
def UnPre (K : PySem.W.Frag) (a : Addr) (Y : YS) (H : Hp) : Prop := YAt K H a Y ∧ POk (lastP Y.pages) ∧ (2 ≤ Y.pages.length → POk (lastP Y.pages.dropLast)) ∧ 1 ≤ Y.pages.length
def UnPost (K : PySem.W.Frag) (a : Addr) (Y : YS) (H : Hp) (Q : VK) (E : XK) : Prop := (2 ≤ Y.pages.length → ∀ H', Kp [a] H H' → YAt K H' a (undoY Y) → Q (.int ((Y.pages.length : Nat) - 2)) H') ∧ (Y.pages.length = 1 → NUx K H E)
def sp_undo (K : PySem.W.Frag) : Sp := fun vs H Q E => ∃ a Y, vs = [.ref a] ∧ UnPre K a Y H ∧ UnPost K a Y H Q E
theorem ok_undo (T : TX w K mg) : FnR PW w K mg base (L2.CX PW w) 10 (a_Yard_undo K) (sp_undo K) :=
  fnrX (f_Yard_undo T) sc_undo (fun vs H Q E ⟨_, _, e, _⟩ => by rw [e]; rfl) (fun _ _ _ _ _ _ us hl => match us, hl with | [_], _ => rfl) fun cdv A outer s H vs Q E hr h => by
    obtain ⟨a, Y, rfl, ⟨hY, ok, ok2, l1⟩, q1, q2⟩ := h
    have nd := sc_undo.nd
    have cl := cl_Yard T
    refine ⟨_, pss_cons (ps_expr (pe_m0 (L2.pv 0) cl (me_Yard_require_free T) (ok_require_free T) hr))
      (pss_cons (ps_if (pt_cmpR op_eq (pe_propR (L2.pv 0) cl (pr_version T) (ok_version T) hr) pe_int (nomark _)) (pss_one (ps_raise rfl tkX (pmk_nu T))) pss_nil)
      (pss_cons (ps_set (i := 1) nd rfl (Or.inl rfl) (pe_boolY T hr (L2.pv 0)))
      (pss_cons (ps_expr (pe_m (L2.pv 0) cl (me_Yard_stand T) (ok_stand T) hr (pa_cons (pe_slice sl_tupU (pe_fld (L2.pv 0) rfl) po_none (po_some (pe_un un_neg pe_int))) pa_nil)))
      (pss_cons (ps_expr (pe_m (L2.pv 0) cl (me_Yard_tell T) (ok_tell T) hr (pa_cons (L2.pv 1) pa_nil)))
      (pss_one (ps_ret (pe_propR (L2.pv 0) cl (pr_version T) (ok_version T) hr))))))), ?_⟩
    obtain ⟨dx, fs, pv, vs, lv, last, h1, h2, h3, h4, h5, h6, h7, h8, h9, h10, h11⟩ := hY.ex
    refine ⟨_, rfl, a, dx, fs, rfl, h1, h3 _ (by decide) (by decide) (by decide) (by decide), a, Y, rfl, hY, ?_⟩
    refine ⟨_, rfl, a, dx, fs, rfl, h1, a, Y, rfl, hY, rfl, _, rfl, ?_⟩
    by_cases c : Y.pages.length = 1
    · rw [show decide (V.int (((Y.pages.length : Nat) : Int) - 1) = V.int 0) = true by simp [c]]
      exact iteT (q2 c H .refl)
    · have c2 : 2 ≤ Y.pages.length := by omega
      rw [show decide (V.int (((Y.pages.length : Nat) : Int) - 1) = V.int 0) = false by simp; omega]
      refine iteF ?_
      refine ⟨_, rfl, _, rfl, a, dx, fs, rfl, h1, a, Y, rfl, hY, ok, fun H1 k1 => ⟨_, rfl, ?_⟩⟩
      have g1 := k1.get h1
      refine ⟨_, rfl, a, dx, fs, rfl, g1, h3 _ (by decide) (by decide) (by decide) (by decide), ?_⟩
      refine ⟨_, rfl, a, _, dx, fs, _, rfl, g1, cl, na_Yard_pages T, h6, _, rfl, _, rfl, _, h7.kp k1, fun pv' H2 k2 hpv' => ?_⟩
      have k12 := k1.trans k2
      rw [show (-(1 : Int)) = -1 from rfl, cut_init] at hpv'
      have hlen := h8.len
      refine ⟨a, pv', dx, fs, _, Y.pages.dropLast, Y.word, rfl, k2.get g1, h3, h4, h5, .inr ⟨by rw [h6]; simp, by rw [h9]; simp, h2⟩, hpv', (h8.kp k12).init, dropLast_ne (by omega), fun H3 k3 hY3 => ?_⟩
      obtain ⟨dx3, fs3, g3, only3⟩ := hY3.ins
      refine ⟨_, rfl, a, dx3, fs3, rfl, g3, only3 _ (by decide) (by decide) (by decide) (by decide), _, rfl, ?_⟩
      refine ⟨a, _, _, rfl, hY3, ok2 c2, fun H4 k4 hY4 => ?_⟩
      obtain ⟨dx4, fs4, g4, only4⟩ := hY4.ins
      refine ⟨_, rfl, a, dx4, fs4, rfl, g4, a, _, rfl, hY4, ?_⟩
      have z := q1 c2 H4 ((k12.nil.trans k3).trans k4) hY4
      show Q (.int (((Y.pages.dropLast).length : Nat) - 1)) H4
      rw [List.length_dropLast, show ((((Y.pages.length - 1 : Nat) : Nat) : Int) - 1) = ((Y.pages.length : Nat) : Int) - 2 by omega]
      exact z
/-! ### making, state_at -/
theorem sc_Yinit : FnScope ["self", "pair", "box", "error"] ["self", "pair", "box"] (defScope s_Yard_init) := ⟨rfl, rfl, rfl, by decide +kernel, rfl, by decide +kernel, by decide +kernel⟩
def sp_Yinit (K : PySem.W.Frag) : Sp := fun vs H Q _ => ∃ a dx u v S n, vs = [.ref a, u, v] ∧ H a = some (.ins (He.ga K "Yard") dx []) ∧ TP2 H u S.one S.other ∧ Ti H v S.box ∧ PgOk 1048576 n S ∧ ∀ H', Kp [a] H H' → YAt K H' a ⟨[S], "same"⟩ → Q .non H'
theorem ok_Yinit {P : Program} (T : TX w K mg) : FnR P w K mg base CX0 5 (a_Yard_init K) (sp_Yinit K) :=
  fnr0 (f_Yard_init T) sc_Yinit (fun vs H Q E ⟨_, _, _, _, _, _, e, _⟩ => by rw [e]; rfl) (fun _ _ _ _ _ _ us hl => match us, hl with | [_, _, _], _ => rfl) fun cdv A outer s H vs Q E hr h => by
    obtain ⟨a, dx, u, v, S, n, rfl, h1, hu, hv, ok, q⟩ := h
    have nd := sc_Yinit.nd
    have cl := cl_Yard T
    have s1 := ok.one.sds (Int.le_refl _)
    have s2 := ok.other.sds (Int.le_refl _)
    have s3 := ok.box.sds (Int.le_refl _)
    refine ⟨_, pss_cons (ps_set (i := 3) nd rfl (Or.inl rfl) (pe_f (ok_pair_error T) (g_pair_error T) (kp_pair_error T) hr (pa_cons (L2.pv 1) pa_nil)))
      (pss_cons (ps_if (pt_cmpR op_notN (L2.pv 3) pe_non (nomark _)) pss_never pss_nil)
      (pss_cons (ps_set (i := 3) nd rfl (Or.inl rfl) (pe_f (ok_box_error T) (g_box_error T) (kp_box_error T) hr (pa_cons (L2.pv 1) (pa_cons (L2.pv 2) pa_nil))))
      (pss_cons (ps_if (pt_cmpR op_notN (L2.pv 3) pe_non (nomark _)) pss_never pss_nil)
      (pss_cons (ps_asg (pe_tupU (pa_cons (pe_gs (z_SAME T)) (pa_cons pe_bl pa_nil))) (pg_tupU (n := 2) rfl (pgs_cons (pg_fldU (L2.pv 0)) (pgs_cons (pg_fldU (L2.pv 0)) pgs_nil))))
      (pss_one (ps_expr (pe_m (L2.pv 0) cl (me_Yard_stand T) (ok_stand T) hr (pa_cons (pe_tupU (pa_cons (pe_tupU (pa_cons (L2.pv 1) (pa_cons (L2.pv 2) pa_nil))) pa_nil)) pa_nil)))))))), ?_⟩
    refine ⟨_, rfl, u, n, S.one, S.other, rfl, hu, s1, s2, ok.n1, ok.n4, fun H1 k1 => ?_⟩
    refine ⟨_, rfl, rfl, _, rfl, iteF ?_⟩
    refine ⟨_, rfl, _, rfl, u, v, n, S.one, S.other, S.box, rfl, hu.kp k1, hv.kp k1, s1, s2, s3, ok.n1, ok.n4, fun H2 k2 => ?_⟩
    have k02 := k1.trans k2
    refine ⟨_, rfl, rfl, _, rfl, iteF ?_⟩
    refine ⟨Nat.le_of_ble_eq_true rfl, fun t H3 k3 ht => ?_⟩
    have k03 := k02.trans k3
    refine ⟨_, ht, rfl, _, _, rfl, _, rfl, a, _, dx, [], rfl, k03.get h1, cl, na_Yard_word T, by decide, fun H4 k4 e4 => ?_⟩
    refine ⟨_, _, rfl, _, rfl, a, _, dx, _, rfl, e4, cl, na_Yard_is_busy T, by decide, fun H5 k5 e5 => ⟨rfl, ?_⟩⟩
    have k05 : Kp [a] H H5 := (k03.nil.trans k4).trans k5
    have only : OnlyF (putF "is_busy" (V.bl false) (putF "word" (V.str "same") [])) := (OnlyF.put (OnlyF.put (fun _ _ _ _ _ => rfl) (.inl rfl)) (.inr (.inl rfl)))
    refine ⟨_, rfl, a, dx, _, rfl, e5, only _ (by decide) (by decide) (by decide) (by decide), ?_⟩
    refine ⟨_, rfl, _, rfl, Nat.le_of_ble_eq_true rfl, fun pg H6 k6 hpg => ⟨Nat.le_of_ble_eq_true rfl, fun pv H7 k7 hpv => ?_⟩⟩
    have k67 := k6.trans k7
    refine ⟨a, pv, dx, _, [pg], [S], "same", rfl, k67.get e5, only, (lk_ne (by decide)).trans lk_same, lk_same, .inl (by decide), hpv, .cons ⟨u, v, hpg.kp k7, (hu.kp k05).kp k67, (hv.kp k05).kp k67⟩ .nil, by simp, fun H8 k8 hY => q H8 ((k05.trans k67.nil).trans k8) hY⟩
theorem sc_state_at : FnScope ["self", "version"] ["self", "version"] (defScope s_Yard_state_at) := ⟨rfl, rfl, rfl, by decide +kernel, rfl, by decide +kernel, by decide +kernel⟩
def sp_state_at (K : PySem.W.Frag) : Sp := fun vs H Q _ => ∃ a Y, vs = [.ref a] ∧ YAt K H a Y ∧ ∀ v, PgV H v (lastP Y.pages) → Q v H
theorem ok_state_at {P : Program} (T : TX w K mg) : FnR P w K mg base CX0 1 (a_Yard_state_at K) (sp_state_at K) := by
  obtain ⟨fd, F⟩ := f_Yard_state_at T
  obtain ⟨ds, hds, hb⟩ := F.binds0 (ps := ["self", "version"]) 1 (by simp) rfl fun D doc pm an cdv ct us ks h1 h2 => by
    match us, h1, ks, h2 with
    | [u], _, [k], _ => exact ⟨_, _, _, _, _, _, rfl, rfl, rfl⟩
  have G := F.ok (P := P) (w := w) (mg := mg) (base := base) (CX := CX0) (k := 0) (sp := fun vs H Q _ => ∃ a Y, vs = [.ref a, .non] ∧ YAt K H a Y ∧ ∀ v, PgV H v (lastP Y.pages) → Q v H) sc_state_at (fun vs H Q E ⟨_, _, e, _⟩ => by rw [e]; rfl) fun cdv A outer s H vs Q E hr h => by
    obtain ⟨a, Y, rfl, hY, q⟩ := h
    obtain ⟨dx, fs, pv, vs, lv, last, h1, h2, h3, h4, h5, h6, h7, h8, h9, h10, h11⟩ := hY.ex
    refine ⟨_, PSs.nox (pss_cons (ps_if (pt_cmpR op_isN (L2.pv 1) pe_non (nomark _)) (pss_one (ps_ret (pe_ix ix_tupU (pe_fld (L2.pv 0) rfl) (pe_un un_neg pe_int) (fun _ _ => rfl)))) pss_nil) pss_never), ?_⟩
    exact ⟨_, rfl, rfl, _, rfl, iteT ⟨_, rfl, a, _, dx, fs, _, rfl, h1, cl_Yard T, na_Yard_pages T, h6, _, rfl, _, _, _, h7, rfl, atI_last h11, q _ (h8.last h11)⟩⟩
  have G2 := FnOk.raw G hb hds
  exact G2.imp fun vs H Q E ⟨a, Y, e, hY, q⟩ => ⟨a, Y, by rw [e]; rfl, hY, q⟩
end
end TB
namespace TB
open PySem PySem.Spec PyProof.Rows L2
/-! ### own classes: str(..), ==, += -/
section
variable {X : Cx} {CX : CXT} {C g : Addr} {n j : Nat} {sp : Sp} {E : XK}
/-- str(x) of an instance with __str__ -/
def rStrOwn (C : Addr) (sp : Sp) (E : XK) : List V → Hp → VK → Prop := fun xs H Q => ∃ x a dx fs, xs = [x] ∧ x = .ref a ∧ H a = some (.ins C dx fs) ∧ sp [x] H (fun z H' => ∃ y, z = .str y ∧ Q z H') E
theorem call_strOwn (hs : PySem.W.findIn X.K (.ref C) "__str__" = some (some (.ref g))) (hf : PySem.W.isFn X.K (.ref g) = true) (F : FnR X.prog X.w X.K X.mg X.base CX n g sp) (hr : Room j X.A) (hx : Passes CX X E) (hk : n + 2 ≤ j := by decide) : CallR X (.type "str") (rStrOwn C sp E) := by
  intro pins s σ H xs us Q I r h
  obtain ⟨x, a, dx, fs, rfl, rfl, ea, h⟩ := h
  obtain ⟨u, rfl, ru⟩ := vals1 r
  obtain rfl : u = Value.ref a := ru
  obtain ⟨mA, O, _, _, _, _⟩ := ins_get I.hok ea
  obtain ⟨od, J, _⟩ := O.look
  have hr2 : Room n X.A.in1.in1 := (show Room (n + 1) X.A.in1 from Room.in1 (hr.mono hk)).in1
  refine PySem.W.kso_call (by have := hr2.un; omega) I.kIn J hs hf ?_
  refine wpAny_mono (wpAny_call (SlX.run_at (us := [.ref a]) (ws := [.ref a]) F hr2 I.env0.in1.in1 hx I (.cons rfl .nil) h)) (fun v s' z => ?_) fun _ _ z => z
  obtain ⟨z', H', I', rz, y, rfl, q⟩ := z
  obtain ⟨t, rfl⟩ := (show ∃ t, v = Value.str y t from rz)
  exact ⟨.str y, H', I', ⟨t, rfl⟩, q⟩
/-- x == y, both instances of the class at C -/
def rEqOwn (C : Addr) (sp : Sp) (E : XK) : R2 := fun x y H Q => ∃ a b dx dy fs gs, x = .ref a ∧ y = .ref b ∧ H a = some (.ins C dx fs) ∧ H b = some (.ins C dy gs) ∧ sp [x, y] H Q E
theorem op_eqOwn (hs : PySem.W.findIn X.K (.ref C) "__eq__" = some (some (.ref g))) (hf : PySem.W.isFn X.K (.ref g) = true) (F : FnR X.prog X.w X.K X.mg X.base CX n g sp) (hr : Room j X.A) (hx : Passes CX X E) (hk : n ≤ j := by decide) : OpR X (compareOp .Eq) (rEqOwn C sp E) := by
  intro pins s σ H x y v u Q I rx ry h
  obtain ⟨a, b, dx, dy, fs, gs, rfl, rfl, ea, eb, h⟩ := h
  obtain rfl : v = Value.ref a := rx
  obtain rfl : u = Value.ref b := ry
  obtain ⟨mA, O, _, _, _, _⟩ := ins_get I.hok ea
  obtain ⟨od, J, _⟩ := O.look
  obtain ⟨mB, O2, _, _, _, _⟩ := ins_get I.hok eb
  obtain ⟨od2, J2, _⟩ := O2.look
  obtain ⟨m, hF⟩ := I.fr
  show wpAny _ _ (richCompare .Eq (.ref a) (.ref b)) _ _ _
  refine PySem.W.cmp_K (op := .Eq) (tb := .ref C) (hr.mono hk).units0 hF I.ok.mod.kin J J2.type (by unfold PySem.W.notFirst; simp) hs hf ?_
  refine wpAny_mono (wpAny_call (SlX.run_at (us := [.ref a, .ref b]) (ws := [.ref a, .ref b]) F (hr.mono hk) I.env0 hx I (.cons rfl (.cons rfl .nil)) h)) (fun w s' z => ?_) fun _ _ x => x
  obtain ⟨z', H', I', rz, qz⟩ := z
  exact SlX.cmpback rz ⟨z', H', I', rz, qz⟩
/-- x += y, x an instance with __iadd__ -/
def rIaddOwn (C : Addr) (sp : Sp) (E : XK) : R2 := fun x y H Q => ∃ a dx fs, x = .ref a ∧ H a = some (.ins C dx fs) ∧ sp [x, y] H (fun z H' => (∃ b, z = .ref b) ∧ Q z H') E
theorem fills_own {K : PySem.W.Frag} {M : Model} {h : Heap} (hK : K.In h) (hm : ((PySem.W.clsIn K C).any fun cd => cd.mro.head? == some (.ref C)) = true) (hs : PySem.W.findIn K (.ref C) "__iadd__" = some (some (.ref g))) : PySem.W.Looks M h (fillsInplaceSlot (.ref C) "add" true) true := by
  obtain ⟨cd, hc, hh⟩ := PySem.W.any_some hm
  obtain ⟨rest, hr⟩ : ∃ rest, cd.mro = .ref C :: rest := by
    cases e : cd.mro with
    | nil => rw [e] at hh; cases hh
    | cons x l => rw [e] at hh; simp at hh; exact ⟨l, by rw [hh]⟩
  have hmro : PySem.W.Looks M h (mroOf (.ref C)) (.ref C :: rest) := fun A Q E s k q => wpAny_bind ((PySem.W.looks_clsIn hK hc) A _ E s k (wpAny_pure (by rw [hr]; exact q)))
  unfold fillsInplaceSlot
  refine hmro.andThen ?_
  rw [List.anyM_cons]
  refine PySem.W.Looks.andThen (a := true) ?_ .now
  exact (PySem.W.looks_findIn (name := "__iadd__") hK hs).andThen .now
theorem iop_addOwn (hm : ((PySem.W.clsIn X.K C).any fun cd => cd.mro.head? == some (.ref C)) = true) (hs : PySem.W.findIn X.K (.ref C) "__iadd__" = some (some (.ref g))) (hf : PySem.W.isFn X.K (.ref g) = true) (F : FnR X.prog X.w X.K X.mg X.base CX n g sp) (hr : Room j X.A) (hx : Passes CX X E) (hk : n ≤ j := by decide) : PIp X .Add (rIaddOwn C sp E) := by
  intro pins s σ H x y v u Q I rx ry h
  obtain ⟨a, dx, fs, rfl, ea, h⟩ := h
  obtain rfl : v = Value.ref a := rx
  obtain ⟨mA, O, _, _, _, _⟩ := ins_get I.hok ea
  obtain ⟨od, J, _⟩ := O.look
  unfold inplaceOp
  refine wpAny_holding (wpAny_bind (J.type.here (wpAny_bind ((fills_own (g := g) I.kIn hm hs).here ?_))))
  rw [if_pos rfl]
  unfold tryMethod
  refine wpAny_bind (wpAny_bind (PySem.W.special_fn I.kIn J hs (beq_iff_eq.mp hf) ?_))
  refine wpAny_mono (wpAny_call (SlX.run_at (us := [.ref a, u]) (ws := [.ref a, y]) F (hr.mono hk) I.env0 hx I (.cons rfl (.cons ry .nil)) h)) (fun w s' z => ?_) fun _ _ x => x
  obtain ⟨z', H', I', rz, ⟨b, rfl⟩, qz⟩ := z
  obtain rfl : w = Value.ref b := rz
  exact wpAny_pure (wpAny_bind (wpAny_rule (wpAny_pure ⟨.ref b, H', I', rfl, qz⟩)))
end
section
variable {w : World} {K : PySem.W.Frag} {mg : Str → Option Value} {base : Heap}
theorem sc_iaddY : FnScope ["self", "number"] ["self", "number"] (defScope s_Yard_iadd) := ⟨rfl, rfl, rfl, by decide +kernel, rfl, by decide +kernel, by decide +kernel⟩
def sp_iaddY (K : PySem.W.Frag) : Sp := fun vs H Q _ => ∃ a Y n x, vs = [.ref a, .int x] ∧ EdPre K a Y (.more x) n H ∧ ∀ H', Kp [a] H H' → YAt K H' a ⟨Y.pages ++ [moreP (lastP Y.pages) x], tellF (pgFill (moreP (lastP Y.pages) x)) (pgFill (lastP Y.pages))⟩ → Q (.ref a) H'
theorem ok_iaddY (T : TX w K mg) : FnR PW w K mg base CX0 11 (a_Yard_iadd K) (sp_iaddY K) :=
  fnr0 (f_Yard_iadd T) sc_iaddY (fun vs H Q E ⟨_, _, _, _, e, _⟩ => by rw [e]; rfl) (fun _ _ _ _ _ _ us hl => match us, hl with | [_, _], _ => rfl) fun cdv A outer s H vs Q E hr h => by
    obtain ⟨a, Y, n, x, rfl, pre, q⟩ := h
    refine ⟨_, pss_cons (ps_expr (pe_m (E := E0) (L2.pv 0) (cl_Yard T) (me_Yard_edit T) (ok_edit T) hr (pa_cons pe_str (pa_cons (L2.pv 1) pa_nil)) passL)) (pss_one (ps_ret (L2.pv 0))), ?_⟩
    obtain ⟨dx, fs, h1, only⟩ := pre.yat.ins
    exact ⟨_, rfl, a, dx, fs, rfl, h1, only _ (by decide) (by decide) (by decide) (by decide), _, rfl, a, Y, .more x, n, [.int x], rfl, pre, rfl, fun _ H' k hY => ⟨_, rfl, q H' k hY⟩, fun k c => nomatch c⟩
/-! ### show -/
def showT (S : Pg) : Str := ((((Str.empty ++ kindsT S.one S.other) ++ " in ") ++ sidesT S.box) ++ ": ") ++ (if pgFill S = true then ("filled" : Str) else "barred")
theorem txt_app_len (a b : Str) : (a ++ b).length = a.length + b.length := Str.length_append a b
theorem sides_len {n : Nat} {ns : List Int} (h : Sds n ns) (hn : n ≤ 4) : (sidesT ns).length ≤ 300 := by
  have l := sayJ_len (sep := "x") (okW_sides h)
  rw [List.length_map, h.1] at l
  have e1 : ("x" : Str).length = 1 := rfl
  rw [e1] at l
  unfold sidesT
  omega
theorem kinds_len {n : Nat} {one other : List Int} (h1 : Sds n one) (h2 : Sds n other) (hn : n ≤ 4) : (kindsT one other).length ≤ 700 := by
  have a := StrLaws.join_length_le " " [sidesT one, sidesT other]
  have b := sides_len h1 hn
  have c := sides_len h2 hn
  have e1 : (" " : Str).length = 1 := rfl
  unfold kindsT
  rw [TL.join_eq]
  rw [e1] at a
  have d : ([sidesT one, sidesT other].map (·.length)).sum = (sidesT one).length + ((sidesT other).length + 0) := rfl
  rw [d] at a
  have e : [sidesT one, sidesT other].length = 2 := rfl
  rw [e] at a
  omega
theorem sc_strY : FnScope ["self"] ["self"] (defScope s_Yard_str) := ⟨rfl, rfl, rfl, by decide +kernel, rfl, by decide +kernel, by decide +kernel⟩
def sp_strY (K : PySem.W.Frag) : Sp := fun vs H Q _ => ∃ a Y, vs = [.ref a] ∧ YAt K H a Y ∧ POk (lastP Y.pages) ∧ ∀ H', Kp [] H H' → Q (.str (showT (lastP Y.pages))) H'
theorem ok_strY {P : Program} (T : TX w K mg) : FnR P w K mg base CX0 9 (a_Yard_str K) (sp_strY K) :=
  fnr0 (f_Yard_str T) sc_strY (fun vs H Q E ⟨_, _, e, _⟩ => by rw [e]; rfl) (fun _ _ _ _ _ _ us hl => match us, hl with | [_], _ => rfl) fun cdv A outer s H vs Q E hr h => by
    obtain ⟨a, Y, rfl, hY, ok, q⟩ := h
    have cl := cl_Yard T
    refine ⟨_, pss_one (ps_ret (pe_joined (.cons (pe_fmt (pe_f (ok_kinds_text T) (g_kinds_text T) (kp_kinds_text T) hr (pa_cons (pe_propR (L2.pv 0) cl (pr_pair T) (ok_pair T) hr) pa_nil))) (.cons pe_str (.cons (pe_fmt (pe_f (ok_sides_text T) (g_sides_text T) (kp_sides_text T) hr (pa_cons (pe_propR (L2.pv 0) cl (pr_box T) (ok_box T) hr) pa_nil))) (.cons pe_str
      (.cons (pe_fmt (pe_ifExp (pt_val (pe_boolY T hr (L2.pv 0))) (pe_gs (z_FILLED T)) (pe_gs (z_BARRED T)))) .nil))))))), ?_⟩
    obtain ⟨n, pk⟩ := id ok
    have s1 := pk.one.sds (Int.le_refl _)
    have s2 := pk.other.sds (Int.le_refl _)
    have s3 := pk.box.sds (Int.le_refl _)
    obtain ⟨dx, fs, h1, only⟩ := hY.ins
    have l1 := kinds_len s1 s2 pk.n4
    have l2 := sides_len s3 pk.n4
    have sz : 5000 ≤ sizeLine := by decide
    have e0 : Str.empty.length = 0 := rfl
    have e1 : (" in " : Str).length = 4 := rfl
    have e2 : (": " : Str).length = 2 := rfl
    have a1 : (Str.empty ++ kindsT (lastP Y.pages).one (lastP Y.pages).other).length ≤ 700 := by rw [txt_app_len, e0]; omega
    have a2 : ((Str.empty ++ kindsT (lastP Y.pages).one (lastP Y.pages).other) ++ " in ").length ≤ 704 := by rw [txt_app_len, e1]; omega
    have a3 : (((Str.empty ++ kindsT (lastP Y.pages).one (lastP Y.pages).other) ++ " in ") ++ sidesT (lastP Y.pages).box).length ≤ 1004 := by rw [txt_app_len]; omega
    have a4 : ((((Str.empty ++ kindsT (lastP Y.pages).one (lastP Y.pages).other) ++ " in ") ++ sidesT (lastP Y.pages).box) ++ ": ").length ≤ 1006 := by rw [txt_app_len, e2]; omega
    refine ⟨_, rfl, a, dx, fs, rfl, h1, a, Y, rfl, hY, fun v hv => ⟨v, _, _, n, rfl, hv, s1, s2, pk.n4, fun H1 k1 => .inl ⟨_, rfl, by omega, _, rfl, by omega, _, rfl, by omega, ?_⟩⟩⟩
    refine ⟨_, rfl, a, dx, fs, rfl, k1.get h1, a, Y, rfl, hY.kp0 k1, fun u hu => ⟨u, _, rfl, hu, okW_sides s3, by rw [List.length_map, s3.1]; have := pk.n4; omega, fun H2 k2 => .inl ⟨_, rfl, by show (sidesT _).length ≤ _; omega, _, rfl, by show (_ ++ sidesT _).length ≤ _; omega, _, rfl, by show ((_ ++ sidesT _) ++ _).length ≤ _; omega, ?_⟩⟩⟩
    have k12 := k1.trans k2
    refine ⟨_, rfl, _, rfl, a, dx, fs, rfl, k12.get h1, a, Y, rfl, hY.kp0 k12, ok, fun H3 k3 => ⟨_, rfl, ⟨_, rfl, ?_⟩⟩⟩
    unfold showT at q
    have l3 : ("filled" : Str).length = 6 := rfl
    have l4 : ("barred" : Str).length = 6 := rfl
    cases c : pgFill (lastP Y.pages) with
    | true =>
      rw [c, if_pos rfl] at q
      exact iteT (.inl ⟨_, rfl, by omega, _, rfl, by rw [txt_app_len]; show ((((_ ++ _) ++ _) ++ sidesT _) ++ _).length + _ ≤ _; omega, q H3 (k12.trans k3)⟩)
    | false =>
      rw [c, if_neg (by decide)] at q
      exact iteF (.inl ⟨_, rfl, by omega, _, rfl, by rw [txt_app_len]; show ((((_ ++ _) ++ _) ++ sidesT _) ++ _).length + _ ≤ _; omega, q H3 (k12.trans k3)⟩)
/-! ### == -/
def dPg (S : Pg) : PyData := .tuple [.tuple [.tuple (S.one.map PyData.int), .tuple (S.other.map PyData.int)], .tuple (S.box.map PyData.int)]
theorem dp_Ti {K : PySem.W.Frag} {H : Hp} {v : V} {ns : List Int} (h : Ti H v ns) : Dp K H v (.tuple (ns.map PyData.int)) := by
  obtain ⟨a, rfl, ha⟩ := h
  exact .tup (SqT.of ha) dpAll_ints
theorem dp_pg {K : PySem.W.Frag} {H : Hp} {v : V} {S : Pg} (h : PgV H v S) : Dp K H v (dPg S) := by
  obtain ⟨x, y, ⟨a, rfl, ha⟩, ⟨x1, y1, ⟨b, rfl, hb⟩, h1, h2⟩, h3⟩ := h
  exact .tup (SqT.of ha) (.cons (.tup (SqT.of hb) (.cons (dp_Ti h1) (.cons (dp_Ti h2) .nil))) (.cons (dp_Ti h3) .nil))
def dLook (S : Pg) : PyData := .tuple [.str "yard", dPg S]
theorem sh_is (ns : List Int) : Sh 1 (.tuple (ns.map PyData.int)) := sh_tup (k := 0) fun d hd => by
  obtain ⟨i, _, rfl⟩ := List.mem_map.mp hd
  exact sh_int
theorem sh_look (S : Pg) : Sh 4 (dLook S) := by
  refine sh_tup (k := 3) fun d hd => ?_
  rcases List.mem_cons.mp hd with rfl | hd
  · exact (sh_str (by decide +kernel)).mono (by decide)
  · rw [List.mem_singleton.mp hd]
    refine sh_tup (k := 2) fun d hd => ?_
    rcases List.mem_cons.mp hd with rfl | hd
    · refine sh_tup (k := 1) fun d hd => ?_
      rcases List.mem_cons.mp hd with rfl | hd
      · exact sh_is _
      · rw [List.mem_singleton.mp hd]; exact sh_is _
    · rw [List.mem_singleton.mp hd]; exact (sh_is _).mono (by decide)
theorem sc_eqY : FnScope ["self", "other"] ["self", "other"] (defScope s_Yard_eq) := ⟨rfl, rfl, rfl, by decide +kernel, rfl, by decide +kernel, by decide +kernel⟩
def sp_eqY (K : PySem.W.Frag) : Sp := fun vs H Q _ => ∃ a b Y Z, vs = [.ref a, .ref b] ∧ YAt K H a Y ∧ YAt K H b Z ∧ lastP Y.pages = lastP Z.pages ∧ Q (.bl true) H
theorem ok_eqY {P : Program} (T : TX w K mg) : FnR P w K mg base CX0 1 (a_Yard_eq K) (sp_eqY K) :=
  fnr0 (f_Yard_eq T) sc_eqY (fun vs H Q E ⟨_, _, _, _, e, _⟩ => by rw [e]; rfl) (fun _ _ _ _ _ _ us hl => match us, hl with | [_, _], _ => rfl) fun cdv A outer s H vs Q E hr h => by
    obtain ⟨a, b, Y, Z, rfl, hY, hZ, e, q⟩ := h
    refine ⟨_, pss_one (ps_ret (pe_and (pe_callB call_isi (by rfl) (n_isinstance T) b_isinstance (pa_cons (L2.pv 1) (pa_cons (pe_cls (g_Yard T)) pa_nil))) (pe_one (pe_cmpR (op_eqD hr.units) (pe_fld (L2.pv 0) rfl) (pe_fld (L2.pv 1) rfl) (nomark _))))), ?_⟩
    obtain ⟨dx, fs, pv, vs, lv, last, h1, h2, h3, h4, h5, h6, h7, h8, h9, h10, h11⟩ := hY.ex
    obtain ⟨dx', fs', pv', vs', lv', last', g1, g2, g3, g4, g5, g6, g7, g8, g9, g10, g11⟩ := hZ.ex
    have cl := cl_Yard T
    refine ⟨_, rfl, _, _, _, _, true, rfl, .own _, .base (.ins g1 cl (tc1_Yard T) (tc2_Yard T) (tc3_Yard T) (tc4_Yard T)), ky_Yard T, true, rfl, iteT ?_⟩
    refine ⟨_, rfl, a, _, dx, fs, _, rfl, h1, cl, na_Yard_look T, h9, _, rfl, b, _, dx', fs', _, rfl, g1, cl, na_Yard_look T, g9, dLook (lastP Y.pages), dLook (lastP Y.pages), ?_, ?_, (sh_look _).shaped, (sh_look _).shaped, ?_⟩
    · obtain ⟨c, rfl, hc⟩ := h10
      exact .tup (SqT.of hc) (.cons (.str _) (.cons (dp_pg (h8.last h11)) .nil))
    · obtain ⟨c, rfl, hc⟩ := g10
      rw [e]
      exact .tup (SqT.of hc) (.cons (.str _) (.cons (dp_pg (g8.last g11)) .nil))
    · rw [eqv_self (sh_look _)]; exact q
end
end TB
namespace TB
open PySem PySem.Spec PyProof.Rows L2
/-! ### zip(text, list) -/
def JzT (l : Addr) (x : Str) (xs : List V) : It := ItP (fun H => H l = some (.lst xs)) (min x.cps.size xs.length) (fun i u v => ∃ c, x.cps[i]? = some c ∧ u = .str ⟨#[c]⟩ ∧ xs[i]? = some v)
/-- its cells: z the zip, TI TO its tuples, i1 i2 the iterators -/
structure ZS (h : Heap) (z TI TO i1 i2 l : Addr) (x : Str) (t : Tok) (i : Nat) : Prop where
  zip : IsZip h z TI TO .none
  ti : IsTupOf2 h TI (.ref i1) (.ref i2)
  to_ : ∃ a1 a2, IsTupOf2 h TO a1 a2
  s1 : h.IsStrIter i1 (strIterType x) x t i
  s2 : h.IsListIter i2 l i
structure ZA (z TI TO i1 i2 l : Addr) : Prop where
  TIz : TI ≠ z
  TOz : TO ≠ z
  TITO : TI ≠ TO
  TIi1 : TI ≠ i1
  TIi2 : TI ≠ i2
  zi1 : z ≠ i1
  Ti1 : TO ≠ i1
  zi2 : z ≠ i2
  Ti2 : TO ≠ i2
  i12 : i1 ≠ i2
  lz : l ≠ z
  lT : l ≠ TO
  l1 : l ≠ i1
  l2 : l ≠ i2
theorem zaT {n l : Nat} (h : l < n) : ZA (n + 4) (n + 2) (n + 3) n (n + 1) l :=
  { TIz := show n + 2 ≠ n + 4 by omega, TOz := show n + 3 ≠ n + 4 by omega, TITO := show n + 2 ≠ n + 3 by omega, TIi1 := show n + 2 ≠ n by omega, TIi2 := show n + 2 ≠ n + 1 by omega, zi1 := show n + 4 ≠ n by omega, Ti1 := show n + 3 ≠ n by omega, zi2 := show n + 4 ≠ n + 1 by omega, Ti2 := show n + 3 ≠ n + 1 by omega, i12 := show n ≠ n + 1 by omega, lz := show l ≠ n + 4 by omega, lT := show l ≠ n + 3 by omega, l1 := show l ≠ n by omega, l2 := show l ≠ n + 1 by omega }
theorem turn_zipT {P : Program} {w : World} {K : PySem.W.Frag} {es : List PySem.Expr} {kk : Nat} {tpos : Pos} {xs : List V} {x : Str} {t : Tok} {z TI TO i1 i2 l : Addr} (D : ZA z TI TO i1 i2 l) :
    Turn P w K (.Tuple es kk tpos) (JzT l x xs) [z, TI, TO, i1, i2] z (fun i h => ZS h z TI TO i1 i2 l x t i) := by
  refine turn_wt (wr := [z, TO, i1, i2]) (List.mem_cons_self ..) (fun b hb => ?_) (fun i h st b hb => ?_) (fun i h h' st k => ?_) ?_ (fun A i s Q E st h => wpAny_pyIter_zip st.zip h)
  · simp only [List.mem_cons, List.not_mem_nil, or_false] at hb ⊢
    rcases hb with h | h | h | h <;> simp [h]
  · obtain ⟨a1, a2, to_⟩ := st.to_
    obtain ⟨o1, ho1, hd1⟩ := st.s1
    obtain ⟨o2, ho2, hc2, hd2⟩ := st.s2
    simp only [List.mem_cons, List.not_mem_nil, or_false] at hb
    rcases hb with rfl | rfl | rfl | rfl | rfl
    · exact ⟨_, st.zip, fun v q => nomatch q⟩
    · exact ⟨_, st.ti, fun v q => nomatch q⟩
    · exact ⟨_, to_, fun v q => nomatch q⟩
    · exact ⟨o1, ho1, fun v q => by rw [hd1.2] at q; cases q⟩
    · exact ⟨o2, ho2, fun v q => by rw [hd2] at q; cases q⟩
  · obtain ⟨a1, a2, to_⟩ := st.to_
    exact ⟨k z (by simp) _ st.zip, k TI (by simp) _ st.ti, ⟨a1, a2, k TO (by simp) _ to_⟩, (let ⟨o, h1, r⟩ := st.s1; ⟨o, k i1 (by simp) o h1, r⟩), (let ⟨o, h1, r⟩ := st.s2; ⟨o, k i2 (by simp) o h1, r⟩)⟩
  · intro X pins s σ H i hP hw hK hc I hG st
    subst hP hw hK
    obtain ⟨its, rv, p, hz⟩ := I.list (SqL.of hG)
    have hl := rv.length
    have hl2 : its.toArray.size = xs.length := by simp [hl]
    have hh : X.A.in1.handled = none := I.ok.hd hc
    have S : ZipSep2 z TI TO i1 i2 [i1] [i2, l] := by
      refine ⟨D.TIz, D.TOz, D.TITO, D.TIi1, by simp, ?_, ?_, D.TIi2, by simp, ?_, ?_, ?_, ?_⟩
      · simpa using D.zi1
      · simpa using D.Ti1
      · simp [D.zi2, Ne.symm D.lz]
      · simp [D.Ti2, Ne.symm D.lT]
      · simp [D.i12, Ne.symm D.l1]
      · simpa using Ne.symm D.i12
    have W := WalksT.zipD2 (prog := X.prog) (w := X.w) (A := X.A) S (Draws.text hh i1 x t) (Draws.list hh i2 l D.l2 its.toArray)
    rw [hl2] at W
    refine ⟨_, _, _, _, W, ⟨st.zip, st.ti, st.to_, st.s1, st.s2, p.isList⟩, fun j h ⟨a, b, c, d, e, _⟩ => ⟨a, b, c, d, e⟩, fun j vals ⟨u1, u2, ⟨c, u, hc1, hu⟩, hx2, ev⟩ => ?_⟩
    subst ev hu
    have hx' : its[j]? = some u2 := by simpa using hx2
    have hj : j < xs.length := by rw [hl]; exact (List.getElem?_eq_some_iff.mp hx').1
    obtain ⟨v, hv, rv2⟩ := rv.get (List.getElem?_eq_getElem hj)
    rw [hx'] at hv
    cases hv
    exact ⟨_, _, ⟨c, hc1, rfl, List.getElem?_eq_getElem hj⟩, .cons ⟨u, rfl⟩ (.cons rv2 .nil)⟩
def iZipT (ta : L2.TA) : L2.TI := fun σ H R => ta σ H fun vs H1 => ∃ x l xs, vs = [.str x, .ref l] ∧ H1 l = some (.lst xs) ∧ R (JzT l x xs) H1
theorem pi_zipT {X : Cx} {e1 e2 : PySem.Expr} {ta : L2.TA} {p pos tpos : Pos} {es : List PySem.Expr} {kk : Nat} (hm : X.mg "zip" = none) (ha : PA X [e1, e2] ta) (hg : Gl X "zip" := by rfl) (hs : starEach [e1, e2] X.env = (false, eval e1 X.env) :: starEach [e2] X.env := by rfl) (hpl : (backTo pos (starEach [e2] X.env)).any (·.1) = false := by rfl) :
    PI X (.Tuple es kk tpos) (.Call (.Name "zip" p) [e1, e2] [] pos) (iZipT ta) := by
  refine ⟨fun pins s σ H R I h => ?_⟩
  refine Call_ (ld_blt I hg hm PyProof.Rows.boot_zip (PyProof.Rows.callWith_type1 (thn (ha.run pos pins s σ H _ I h) fun us s1 ⟨vs, H1, I1, r1, x, l, xs, ex, hq, q⟩ => ?_) hs hpl))
  subst ex
  obtain ⟨u1, u2, rfl, ⟨t, rfl⟩, r2⟩ := vals2 r1
  obtain rfl : u2 = Value.ref l := r2
  obtain ⟨its, rv, p', hz⟩ := I1.list (SqL.of hq)
  have hla : l < s1.heap.objs.size := by
    obtain ⟨o, ho, _⟩ := p'.isList
    exact Heap.lt_size ho
  refine zip_begins2 (begins_text x t) (begins_list l its.toArray) trivial p'.isList fun h' gz gT gO g1 g2 hsz hk => wpAny_pyIter_zip gz ?_
  have I2 : Inv X pins σ H1 { s1 with heap := h' } := I1.kept (t' := s1.toks) hk
  have A : ZA (s1.heap.objs.size + 4) (s1.heap.objs.size + 2) (s1.heap.objs.size + 3) s1.heap.objs.size (s1.heap.objs.size + 1) l := zaT hla
  refine ⟨s1.heap.objs.size + 4, [s1.heap.objs.size + 4, s1.heap.objs.size + 2, s1.heap.objs.size + 3, s1.heap.objs.size, s1.heap.objs.size + 1], _, _, H1, rfl, I2, turn_zipT (t := t) A, ⟨gz, gT, ⟨_, _, gO⟩, ⟨_, g1, rfl, rfl⟩, ⟨_, g2, rfl, rfl⟩⟩, fun b hb => ?_, q⟩
  have hle : s1.heap.objs.size ≤ b := by
    simp only [List.mem_cons, List.not_mem_nil, or_false] at hb
    rcases hb with rfl | rfl | rfl | rfl | rfl
    · exact Nat.le_add_right ..
    · exact Nat.le_add_right ..
    · exact Nat.le_add_right ..
    · exact Nat.le_refl _
    · exact Nat.le_add_right ..
  exact I1.fpOk hle (I1.hok.fresh hle)
end TB
namespace TB
open PySem PySem.Spec PyProof.Rows L2
/-! ### numbers as text -/
def nT (n : Nat) : Str := Str.ofString (toString ((n : Nat) : Int))
theorem nT_cps (n : Nat) : (nT n).cps.toList = TL.numL n := TL.tl_num n
theorem nT_len (n : Nat) : (nT n).length = (TL.numL n).length := by rw [TL.len_tl]; exact congrArg List.length (TL.tl_num n)
theorem nT_le {n k : Nat} (hk : 0 < k) (h : n < 10 ^ k) : (nT n).length ≤ k := by rw [nT_len]; exact TL.numL_len hk h
theorem nT_pos (n : Nat) : 1 ≤ (nT n).length := by
  rw [nT_len]
  exact List.length_pos_iff.mpr (TL.numL_ne n)
theorem numL_one {n : Nat} (h : n < 10) : (nT n).length = 1 := by rw [nT_len, TL.numL_lt h]; rfl
theorem numL_head (n : Nat) : 1 ≤ n → ∃ c r, TL.numL n = c :: r ∧ c ≠ 48 := by
  induction n using Nat.strongRecOn with
  | _ n ih =>
    intro h1
    by_cases h : n < 10
    · exact ⟨48 + n, [], TL.numL_lt h, by omega⟩
    · obtain ⟨c, r, e, hc⟩ := ih (n / 10) (by omega) (by omega)
      exact ⟨c, r ++ [48 + n % 10], by rw [TL.numL_step (by omega), e]; rfl, hc⟩
theorem nT_ne (n : Nat) : nT n ≠ ("" : Str) := fun e => by
  have h := nT_pos n
  rw [e] at h
  exact absurd h (by decide)
theorem nT_inj {m n : Nat} (h : nT m = nT n) : m = n := TL.numL_inj (by rw [← nT_cps, ← nT_cps, h])
theorem nT_zero : nT 0 = ("0" : Str) := by decide +kernel
theorem dig_in : ∀ c : Nat, 48 ≤ c → c ≤ 57 → c ∈ ("0123456789" : Str).cps.toList := by
  intro c h1 h2
  have e : ("0123456789" : Str).cps.toList = [48, 49, 50, 51, 52, 53, 54, 55, 56, 57] := by decide +kernel
  rw [e]
  simp only [List.mem_cons, List.not_mem_nil, or_false]
  omega
theorem any_false : ∀ n, (List.replicate n false).any id = false
  | 0 => rfl
  | n + 1 => by rw [List.replicate_succ, List.any_cons, any_false n]; rfl
section
variable {P : Program} {w : World} {K : PySem.W.Frag} {mg : Str → Option Value} {base : Heap}
theorem sc_is_number : FnScope ["word", "sign"] ["word"] (defScope s_is_number) := ⟨rfl, rfl, rfl, by decide +kernel, rfl, by decide +kernel, by decide +kernel⟩
def sp_is_number : Sp := fun vs H Q _ => ∃ n : Nat, vs = [.str (nT n)] ∧ n ≤ 1000000000000 ∧ ∀ H', Kp [] H H' → Q (.bl true) H'
theorem ok_is_number (T : TX w K mg) : FnR P w K mg base CX0 1 (a_is_number K) sp_is_number :=
  fnr0 (f_is_number T) sc_is_number (fun vs H Q E ⟨_, e, _⟩ => by rw [e]; rfl) (fun _ _ _ _ _ _ us hl => match us, hl with | [_], _ => rfl) fun cdv A outer s H vs Q E hr h => by
    obtain ⟨n, rfl, hn, q⟩ := h
    have nd := sc_is_number.nd
    refine ⟨_, pss_cons (ps_if (PW.pt (pw_or (pt_cmpR op_eq (pv 0) pe_str (nomark _)) (pw_or (pt_cmpR op_gt (pe_callB call_len_str (by rfl) (n_len T) b_len (pa_cons (pv 0) pa_nil)) pe_int (nomark _))
        (pw_or1 (pt_val (pe_callB (cr_any rfl) (by rfl) (n_any T) (show bootBuiltins "any" = some (.builtin "any") by decide +kernel) (pa_cons (pe_lc (own := [("sign", 1)]) rfl nd (pi_str (pv 0)) (blkOk_by (N := ["word", "sign"]) (sc := defScope s_is_number) (by decide +kernel))
          (fun _ _ _ _ _ => pg_name (i := 1) nd rfl (Or.inl rfl)) (fun _ _ _ _ _ => pts_nil)
          (fun _ _ _ _ _ => pe_cmpR op_notIn_sign (pv 1) pe_str (by with_unfolding_all rfl))) pa_nil))))))) (pss_one (ps_ret pe_bl)) pss_nil)
      (pss_one (ps_ret (pe_and (pe_or (pe_cmpR op_eq (pv 0) pe_str (nomark _)) (pe_one (pe_cmpR op_ne (pe_ix ix_str (pv 0) pe_int (fun _ _ => rfl)) pe_str (nomark _))))
        (pe_one (pe_cmpR op_le (pe_callTy call_int_str (by rfl) (n_int T) b_int (pa_cons (pv 0) pa_nil)) (pe_gi (i_MAX_SIDE T)) (nomark _)))))), ?_⟩
    have l13 : (nT n).length ≤ 13 := nT_le (by decide) (by omega)
    have lp := nT_pos n
    have sz : 1000 ≤ sizeLine := by decide
    have dg : ∀ c ∈ (nT n).cps.toList, 48 ≤ c ∧ c ≤ 57 := fun c hc => TL.numL_digits n c (by rw [nT_cps] at hc; exact hc)
    refine ⟨_, rfl, rfl, _, rfl, ?_⟩
    rw [decide_eq_false (show ¬ (V.str (nT n) = V.str "") from fun e => nT_ne n (by injection e))]
    refine iteF ⟨_, rfl, _, rfl, by omega, _, _, rfl, rfl, _, rfl, ?_⟩
    rw [decide_eq_false (show ¬ ((13 : Int) < ((nT n).length : Nat)) by omega)]
    refine iteF ⟨_, rfl, _, rfl, fun D hD => ?_⟩
    refine lcP walk_str [] (fun i => List.replicate i (V.bl false)) hD rfl (fun i H' p => trivial) (fun i x H1 H2 hi p yy => ?_) (fun H' p => ?_)
    · obtain ⟨rfl, c, hc, rfl⟩ := yy
      have hm : c ∈ (nT n).cps.toList := by
        have := Array.mem_of_getElem? hc
        exact Array.mem_toList_iff.mpr this
      have hd := dg c hm
      have hDD := p.2
      refine ⟨rfl, tYesI ⟨_, rfl, c, _, rfl, rfl, ?_⟩⟩
      rw [decide_eq_true (dig_in c hd.1 hd.2)]
      have hl13 : (nT n).cps.size ≤ 13 := l13
      exact lcAdd hD p.1 hDD (by rw [List.length_replicate]; omega) (by rw [List.replicate_succ']; rfl)
    · refine ⟨D, List.replicate (nT n).cps.size false, rfl, SqL.of ?_, false, (congrArg V.bl (any_false _)), iteF ?_⟩
      · rw [p.2, List.map_replicate]
      · have hq := q _ p.1
        have hle : decide ((n : Int) ≤ 1000000000000) = true := decide_eq_true (by omega)
        have hint : PySem.intText? (nT n) = some ((n : Nat) : Int) := TL.int_num (by rw [← nT_len]; omega)
        have hfin : Q (V.bl (decide ((n : Int) ≤ 1000000000000))) H' := by rw [hle]; exact hq
        by_cases z : n = 0
        · subst z
          refine ⟨_, rfl, rfl, true, congrArg V.bl (decide_eq_true (congrArg V.str nT_zero)), ?_⟩
          rw [if_pos rfl]
          exact ⟨true, rfl, by rw [if_pos rfl]; exact ⟨_, rfl, _, _, rfl, hint, by omega, _, _, rfl, rfl, hfin⟩⟩
        · obtain ⟨c, r, hc, hn0⟩ := numL_head n (by omega)
          have hne : nT n ≠ ("0" : Str) := fun e => z (nT_inj (e.trans nT_zero.symm))
          refine ⟨_, rfl, rfl, false, congrArg V.bl (decide_eq_false fun e => hne (by injection e)), ?_⟩
          rw [if_neg (by decide)]
          have hat : atI (nT n).cps.toList 0 = some c := by rw [nT_cps, hc]; exact atI_nat (j := 0) rfl
          refine ⟨_, rfl, _, 0, c, rfl, rfl, by omega, hat, rfl, true, ?_, ?_⟩
          · rw [decide_eq_false]; · rfl
            intro e
            injection e with e
            have := congrArg (fun s : Str => s.cps.toList) e
            have e0 : ("0" : Str).cps.toList = [48] := by decide +kernel
            have e1 : [c] = ([48] : List Nat) := this.trans e0
            exact hn0 (List.cons.inj e1).1
          · rw [if_pos rfl]; exact ⟨_, rfl, _, _, rfl, hint, by omega, _, _, rfl, rfl, hfin⟩
theorem sc_fits : FnScope ["shape", "words", "sign", "word"] ["shape", "words"] (defScope s_fits) := ⟨rfl, rfl, rfl, by decide +kernel, rfl, by decide +kernel, by decide +kernel⟩
structure Fit (sh : Str) (ns : List Nat) : Prop where
  len : sh.cps.size = ns.length
  n4 : ns.length ≤ 4
  ok : ∀ i c n : Nat, sh.cps[i]? = some c → ns[i]? = some n → n ≤ 1000000000000 ∧ (c = 110 ∨ n < 10)
def wT (ns : List Nat) : List V := ns.map fun n => .str (nT n)
def sp_fits : Sp := fun vs H Q _ => ∃ sh v ns, vs = [.str sh, v] ∧ Ls H v (wT ns) ∧ Fit sh ns ∧ ∀ H', Kp [] H H' → Q (.bl true) H'
theorem ok_fits (T : TX w K mg) : FnR P w K mg base CX0 2 (a_fits K) sp_fits :=
  fnr0 (f_fits T) sc_fits (fun vs H Q E ⟨_, _, _, e, _⟩ => by rw [e]; rfl) (fun _ _ _ _ _ _ us hl => match us, hl with | [_, _], _ => rfl) fun cdv A outer s H vs Q E hr h => by
    obtain ⟨sh, v, ns, rfl, ⟨a, rfl, ha⟩, F, q⟩ := h
    have nd := sc_fits.nd
    refine ⟨_, pss_cons (ps_if (pt_cmpR op_ne (pe_callB call_lenU (by rfl) (n_len T) b_len (pa_cons (pv 1) pa_nil)) (pe_callB call_len_str (by rfl) (n_len T) b_len (pa_cons (pv 0) pa_nil)) (nomark _)) (pss_one (ps_ret pe_bl)) pss_nil)
      (pss_one (ps_ret (pe_callB (cr_all rfl) (by rfl) (n_all T) (show bootBuiltins "all" = some (.builtin "all") by decide +kernel) (pa_cons (pe_lc (own := [("sign", 2), ("word", 3)]) rfl nd (pi_zipT (n_zip T) (pa_cons (pv 0) (pa_cons (pv 1) pa_nil))) (blkOk_by (N := ["shape", "words", "sign", "word"]) (sc := defScope s_fits) (by decide +kernel))
          (fun _ _ _ _ _ => pg_tupU (n := 2) rfl (pgs_cons (pg_name (i := 2) nd rfl (Or.inl rfl)) (pgs_cons (pg_name (i := 3) nd rfl (Or.inl rfl)) pgs_nil))) (fun _ _ _ _ _ => pts_nil)
          (fun _ _ _ _ _ => pe_and (pe_f (ok_is_number T) (g_is_number T) (kp_is_number T) hr (pa_cons (pv 3) pa_nil)) (pe_one (pe_or (pe_cmpR op_eq (pv 2) pe_str (nomark _)) (pe_one (pe_cmpR op_eq (pe_callB call_len_str (by rfl) (n_len T) b_len (pa_cons (pv 3) pa_nil)) pe_int (nomark _))))))) pa_nil)))), ?_⟩
    have sz : 1000 ≤ sizeLine := by decide
    have hF4 := F.n4
    have hFl := F.len
    have hl : (wT ns).length = ns.length := by unfold wT; rw [List.length_map]
    have hsl : sh.length = ns.length := hFl
    refine ⟨_, rfl, _, _, rfl, .inr ⟨a, rfl, ha⟩, _, rfl, _, rfl, by omega, rfl, _, rfl, ?_⟩
    rw [show (!decide (V.int ((wT ns).length : Nat) = V.int (sh.length : Nat))) = false by simp [hl, hsl]]
    refine iteF ⟨_, rfl, _, rfl, sh, a, wT ns, rfl, ha, fun D hD => ?_⟩
    have hm : min sh.cps.size (wT ns).length = ns.length := by rw [hFl, hl, Nat.min_self]
    rw [show JzT a sh (wT ns) = ItP (fun H => H a = some (.lst (wT ns))) ns.length (fun i u v => ∃ c, sh.cps[i]? = some c ∧ u = .str ⟨#[c]⟩ ∧ (wT ns)[i]? = some v) by unfold JzT; rw [hm]]
    refine lcP walk_P [] (fun i => List.replicate i (V.bl true)) hD rfl (fun i H' p => p.1.get ha) (fun i x H1 H2 hi p yy => ?_) (fun H' p => ?_)
    · obtain ⟨u, y, k, ht, c, hc, rfl, hy⟩ := yy
      have hy' : ∃ n, ns[i]? = some n ∧ y = .str (nT n) := by
        unfold wT at hy
        rw [List.getElem?_map] at hy
        cases e : ns[i]? with
        | none => rw [e] at hy; cases hy
        | some n => rw [e] at hy; cases hy; exact ⟨n, rfl, rfl⟩
      obtain ⟨n, hn, rfl⟩ := hy'
      obtain ⟨hb, ho⟩ := F.ok i c n hc hn
      have hDD := k.get p.2
      have kk := p.1.trans k
      have l13 : (nT n).length ≤ 13 := nT_le (by decide) (by omega)
      refine ⟨_, ht, rfl, _, _, rfl, _, _, rfl, rfl, rfl, tYesI ?_⟩
      refine ⟨_, rfl, n, rfl, hb, fun H3 k3 => ⟨true, rfl, ?_⟩⟩
      rw [if_pos rfl]
      have go := lcAdd (acc := fun i => List.replicate i (V.bl true)) (i := i) (y := V.bl true) hD (kk.trans k3) (k3.get hDD) (by rw [List.length_replicate]; omega) (by rw [List.replicate_succ'])
      by_cases z : c = 110
      · subst z
        refine ⟨_, rfl, rfl, true, congrArg V.bl (decide_eq_true rfl), ?_⟩
        rw [if_pos rfl]
        exact go
      · refine ⟨_, rfl, rfl, false, congrArg V.bl (decide_eq_false fun e => z ?_), ?_⟩
        · injection e with e
          have e1 := congrArg (fun s : Str => s.cps.toList) e
          have e0 : ("n" : Str).cps.toList = [110] := by decide +kernel
          have e2 : [c] = ([110] : List Nat) := e1.trans e0
          exact (List.cons.inj e2).1
        · rw [if_neg (by decide)]
          have h10 : n < 10 := ho.resolve_left z
          refine ⟨_, rfl, _, rfl, by omega, rfl, ?_⟩
          rw [show decide (V.int ((nT n).length : Nat) = V.int 1) = true by rw [numL_one h10]; rfl]
          exact go
    · refine ⟨D, List.replicate ns.length true, rfl, SqL.of ?_, ?_⟩
      · rw [p.2, List.map_replicate]
      · rw [all_true]; exact q _ p.1
end
end TB
namespace TB
open PySem PySem.Spec PyProof.Rows L2
/-! ### what is said is short -/
theorem okI {i : Int} (h0 : 0 ≤ i) (h1 : i < 10 ^ 60) : okW (.int i) := .inl ⟨i, rfl, h0, h1⟩
theorem okN {n : Nat} (h : n < 100) : okW (.int (n : Nat)) := okI (by omega) (Int.lt_trans (show ((n : Nat) : Int) < 100 by omega) (by decide +kernel))
theorem okS {s : Str} (h : s.length ≤ 60) : okW (.str s) := .inr ⟨s, rfl, h⟩
theorem big60 : (1000000000000000000000000000000 : Int) < 10 ^ 60 := by decide +kernel
theorem okB {i : Int} (h0 : 0 ≤ i) (h1 : i ≤ 1000000000000000000000000000000) : okW (.int i) := okI h0 (Int.lt_of_le_of_lt h1 big60)
theorem way_ok {W : Way} (h : WayOk W) : (∀ x ∈ wayV W, okW x) ∧ (wayV W).length ≤ 30 := by
  cases W with
  | steps s =>
    obtain ⟨h1, h2⟩ := h
    refine ⟨fun x hx => ?_, by simp [wayV]⟩
    simp only [wayV, List.mem_cons, List.not_mem_nil, or_false] at hx
    rcases hx with rfl | rfl
    · exact okS (by decide)
    · exact okB (by omega) (by omega)
  | sums l u =>
    obtain ⟨⟨h1, h2⟩, h3, h4⟩ := h
    refine ⟨fun x hx => ?_, by simp [wayV]⟩
    simp only [wayV, List.mem_cons, List.not_mem_nil, or_false] at hx
    rcases hx with rfl | rfl | rfl
    · exact okS (by decide)
    · exact okB (by omega) (by omega)
    · exact okB (by omega) (by omega)
  | none =>
    refine ⟨fun x hx => ?_, by simp [wayV]⟩
    simp only [wayV, List.mem_cons, List.not_mem_nil, or_false] at hx
    subst hx
    exact okS (by decide)
theorem at_nn {n k : Nat} {ns : List Int} (h : Sds n ns) (hk : k < n) : 0 ≤ at_ ns k ∧ at_ ns k ≤ 1048576 := by
  have := at_Sd h hk
  exact ⟨Int.le_of_lt this.1, this.2⟩
theorem kF_lt {one box : List Int} {n : Nat} (hn : 1 ≤ n) : kF one box n < n := by
  unfold kF
  cases e : resU one box n with
  | nil => exact hn
  | cons x l =>
    have hx : x ∈ resU one box n := by rw [e]; exact List.mem_cons_self ..
    unfold resU at hx
    exact List.mem_range.mp (List.mem_filter.mp hx).1
theorem XT_lt {one other box : List Int} {n : Nat} {xs : List V} (h : xs ∈ crossF one other box n) : ∃ i j, xs = XT i j ∧ i < n ∧ j < n := by
  unfold crossF at h
  obtain ⟨i, hi, h⟩ := List.mem_flatMap.mp h
  unfold rowF at h
  obtain ⟨j, hj, rfl⟩ := List.mem_map.mp h
  have hj := (List.mem_filter.mp hj).1
  unfold resU at hi hj
  exact ⟨i, j, rfl, List.mem_range.mp (List.mem_filter.mp hi).1, List.mem_range.mp (List.mem_filter.mp hj).1⟩
theorem paper_ok {one other box : List Int} {n : Nat} (h1 : Sds n one) (h2 : Sds n other) (h3 : Sds n box) (n1 : 1 ≤ n) (n4 : n ≤ 4) : (∀ x ∈ paperF one other box n, okW x) ∧ (paperF one other box n).length ≤ 30 := by
  have b0 := at_nn h3 (show 0 < n from n1)
  have kk := kF_lt (one := one) (box := box) n1
  have o := at_Sd h1 kk
  have t := at_Sd h2 kk
  have b := at_nn h3 kk
  by_cases c1 : resU one box n = []
  · rw [paperF_1 c1]
    refine ⟨fun x hx => ?_, by simp⟩
    simp only [List.mem_cons, List.not_mem_nil, or_false] at hx
    rcases hx with rfl | rfl | rfl | rfl
    · exact okS (by decide)
    · exact okB (by omega) (by omega)
    · exact okB (by omega) (by omega)
    · exact okB (by omega) (by omega)
  by_cases c2 : resU other box n = []
  · rw [paperF_2 c1 c2]
    refine ⟨fun x hx => ?_, by simp⟩
    simp only [List.mem_cons, List.not_mem_nil, or_false] at hx
    rcases hx with rfl | rfl | rfl | rfl
    · exact okS (by decide)
    · exact okB (by omega) (by omega)
    · exact okB (by omega) (by omega)
    · exact okB (by omega) (by omega)
  cases c3 : crossF one other box n with
  | cons xs l =>
    rw [paperF_3 c1 c2 c3]
    obtain ⟨i, j, rfl, hi, hj⟩ := XT_lt (show xs ∈ crossF one other box n by rw [c3]; exact List.mem_cons_self ..)
    refine ⟨fun x hx => ?_, by simp [XT]⟩
    simp only [XT, List.mem_cons, List.not_mem_nil, or_false] at hx
    rcases hx with rfl | rfl | rfl
    · exact okS (by decide)
    · exact okN (by omega)
    · exact okN (by omega)
  | nil =>
    rw [paperF_4 c1 c2 c3]
    unfold barF
    cases c4 : ltF (at_ one (kF one box n)) (at_ other (kF one box n)) (at_ box (kF one box n)) with
    | none =>
      refine ⟨fun x hx => ?_, by simp⟩
      simp only [List.mem_cons, List.not_mem_nil, or_false] at hx
      rcases hx with rfl | rfl
      · exact okS (by decide)
      · exact okN (by omega)
    | some tt =>
      obtain ⟨t0, t1⟩ := ltF_bd o.1 t.1 c4
      have ot : 0 ≤ at_ one (kF one box n) * tt := Int.mul_nonneg (by have := o.1; omega) t0
      have ot2 : at_ one (kF one box n) * tt ≤ 1048576 * 1048576 := Int.mul_le_mul o.2 (by have := t.2; omega) t0 (by decide)
      dsimp only
      by_cases c5 : 0 < at_ one (kF one box n) * tt - at_ box (kF one box n)
      · rw [if_pos c5]
        have dv : 0 ≤ (at_ one (kF one box n) * tt - at_ box (kF one box n)) / at_ other (kF one box n) := Int.ediv_nonneg (Int.le_of_lt c5) (Int.le_of_lt t.1)
        have dv2 : (at_ one (kF one box n) * tt - at_ box (kF one box n)) / at_ other (kF one box n) ≤ at_ one (kF one box n) * tt - at_ box (kF one box n) := Int.ediv_le_self _ (Int.le_of_lt c5)
        refine ⟨fun x hx => ?_, by simp⟩
        simp only [List.mem_cons, List.not_mem_nil, or_false] at hx
        rcases hx with rfl | rfl | rfl | rfl
        · exact okS (by decide)
        · exact okN (by omega)
        · exact okB t0 (by have := t.2; omega)
        · exact okB dv (by omega)
      · rw [if_neg c5]
        refine ⟨fun x hx => ?_, by simp⟩
        simp only [List.mem_cons, List.not_mem_nil, or_false] at hx
        rcases hx with rfl | rfl | rfl | rfl
        · exact okS (by decide)
        · exact okB (by omega) (by omega)
        · exact okN (by omega)
        · exact okB (by simpa using ot) (by show at_ one _ * tt ≤ _; omega)
theorem cut_ok {one other box : List Int} {n : Nat} (h1 : Sds n one) (h2 : Sds n other) (h3 : Sds n box) (n4 : n ≤ 4) : ∀ {l : List (Nat × Nat)} {i : Int} {xs : List V}, (∀ q ∈ l, q.1 < 2 ∧ q.2 < n) → 0 ≤ i → cutGo one other box n l i = some xs → (∀ x ∈ xs, okW x) ∧ xs.length ≤ 30
  | [], i, xs, _, h0, h => by unfold cutGo at h; cases h
  | q :: l, i, xs, hl, h0, h => by
    have hq := hl q (List.mem_cons_self ..)
    rw [cutGo_cons] at h
    by_cases c : i < manyF one other box n q
    · rw [if_pos c] at h
      cases h
      have b := cutsR_bd (f := q.1) h1 h2 h3 hq.2
      dsimp only at b
      have hs : okW (.int (spotR (cutsR one other box n q.1 q.2) i)) := by
        unfold spotR
        split
        · exact okB (by decide) (by decide)
        · rename_i c1
          split
          · rename_i c2
            have m1 : 0 ≤ (cutsR one other box n q.1 q.2).step * (i - (cutsR one other box n q.1 q.2).ab) := Int.mul_nonneg (by omega) (by omega)
            have m2 : (cutsR one other box n q.1 q.2).step * (i - (cutsR one other box n q.1 q.2).ab) ≤ 1048576 * 1048576 * 1048577 := Int.mul_le_mul b.2.2.2.2.2.1 (by omega) (by omega) (by decide)
            exact okB (by omega) (by omega)
          · exact okB (by omega) (by omega)
      refine ⟨fun x hx => ?_, by simp⟩
      simp only [List.mem_cons, List.not_mem_nil, or_false] at hx
      rcases hx with rfl | rfl | rfl
      · exact okN (by omega)
      · exact okN (by omega)
      · exact hs
    · rw [if_neg c] at h
      exact cut_ok h1 h2 h3 n4 (fun x hx => hl x (List.mem_cons_of_mem _ hx)) (by omega) h
theorem next_ok {W : Way} {least i : Int} (h : WayOk W) (h0 : 1 ≤ least) (h1 : least ≤ 1000000000000) (e : nextF W least = some i) : okW (.int i) := by
  unfold nextF at e
  cases W with
  | steps s =>
    obtain ⟨s1, s2⟩ := h
    have e : s * ((least - 1) / s + 1) = i := Option.some.inj e
    have d0 : 0 ≤ (least - 1) / s := Int.ediv_nonneg (by omega) (by omega)
    have d1 : (least - 1) / s ≤ least - 1 := Int.ediv_le_self _ (by omega)
    have m0 : 0 ≤ s * ((least - 1) / s + 1) := Int.mul_nonneg (by omega) (by omega)
    have m1 : s * ((least - 1) / s + 1) ≤ 1099511627776 * 1000000000000 := Int.mul_le_mul s2 (by omega) (by omega) (by decide)
    exact okB (by omega) (by omega)
  | sums l u =>
    obtain ⟨⟨a1, a2⟩, b1, b2⟩ := h
    have e : saF l u (csF l u (least - 1)) = i := Option.some.inj e
    have cb := csF_bd (B := 1048576) (M := 1000000000000) (most := least - 1) a1 b1 a2 b2 (by omega) (by omega) (by decide)
    generalize csF l u (least - 1) = q at e cb
    obtain ⟨c0, c1⟩ := cb
    have l1 := lI_pos a1 b1
    have l2 := lI_le a1 b1
    have l3 : l * u ≤ 1048576 * 1048576 := Int.mul_le_mul a2 b2 (by omega) (by decide)
    have g0 := gI_pos (b := u) a1
    have g1 := gI_le (b := u) a1
    have m0 : 0 ≤ gI l u * (q + 1) := Int.mul_nonneg (by omega) (by omega)
    have m1 : gI l u * (q + 1) ≤ 1048576 * (1048576 * (1048576 * 1048576 * 1000000000000 + 1048576 * 1000000000000) + 1048576 + 1) := Int.mul_le_mul (by omega) (by omega) (by omega) (by decide)
    have b := lwL_bd (p := fun x => decide (q < csF l u x)) _ 1 (lI l u + gI l u * (q + 1)) rfl (by omega)
    have e : lwL (fun x => decide (q < csF l u x)) 1 (lI l u + gI l u * (q + 1)) = i := e
    rw [e] at b
    refine okI (by omega) (Int.lt_of_le_of_lt b.2 ?_)
    have : (1048576 * 1048576 + 1048576 * (1048576 * (1048576 * 1048576 * 1000000000000 + 1048576 * 1000000000000) + 1048576 + 1) : Int) < 10 ^ 60 := by decide +kernel
    omega
  | none => cases e
end TB
namespace TB
open PySem PySem.Spec PyProof.Rows L2
/-! ### shells -/
structure ShAt (K : PySem.W.Frag) (H : Hp) (a y : Addr) (lv : V) : Prop where
  ex : ∃ dx fs ls, H a = some (.ins (He.ga K "Shell") dx fs) ∧ fs.length ≤ 20 ∧ (∀ f : Str, f ≠ "yard" → f ≠ "lines" → lk fs f = none) ∧ lk fs "yard" = some (.ref y) ∧ lk fs "lines" = some lv ∧ Tu H lv ls ∧ ls.length ≤ 10
theorem ShAt.kp {K : PySem.W.Frag} {S : List Addr} {H H' : Hp} {a y : Addr} {lv : V} (h : ShAt K H a y lv) (k : Kp S H H') (n : a ∉ S) : ShAt K H' a y lv :=
  let ⟨dx, fs, ls, h1, h2, h3, h4, h5, h6, h7⟩ := h.ex; ⟨dx, fs, ls, k.old a _ h1 n, h2, h3, h4, h5, h6.kp k, h7⟩
theorem ShAt.kt {K : PySem.W.Frag} {S : List Addr} {H H' : Hp} {a y : Addr} {lv : V} (h : ShAt K H a y lv) (k : KT S H H') (n : a ∉ S) : ShAt K H' a y lv :=
  let ⟨dx, fs, ls, h1, h2, h3, h4, h5, h6, h7⟩ := h.ex; ⟨dx, fs, ls, k.old a _ h1 n (fun _ z => nomatch z), h2, h3, h4, h5, h6.kt k, h7⟩
theorem ShAt.kp0 {K : PySem.W.Frag} {H H' : Hp} {a y : Addr} {lv : V} (h : ShAt K H a y lv) (k : Kp [] H H') : ShAt K H' a y lv := h.kp k fun q => nomatch q
theorem ShAt.isIns {K : PySem.W.Frag} {H : Hp} {a y : Addr} {lv : V} (h : ShAt K H a y lv) : ∃ C dx fs, H a = some (.ins C dx fs) := let ⟨dx, fs, _, h1, _⟩ := h.ex; ⟨_, dx, fs, h1⟩
section
variable {P : Program} {w : World} {K : PySem.W.Frag} {mg : Str → Option Value} {base : Heap}
theorem sc_Sinit : FnScope ["self", "yard"] ["self", "yard"] (defScope s_Shell_init) := ⟨rfl, rfl, rfl, by decide +kernel, rfl, by decide +kernel, by decide +kernel⟩
def sp_Sinit (K : PySem.W.Frag) : Sp := fun vs H Q _ => ∃ a dx y, vs = [.ref a, .ref y] ∧ H a = some (.ins (He.ga K "Shell") dx []) ∧ ∀ H' lv, Kp [a] H H' → ShAt K H' a y lv → Q .non H'
theorem ok_Sinit (T : TX w K mg) : FnR P w K mg base CX0 1 (a_Shell_init K) (sp_Sinit K) :=
  fnr0 (f_Shell_init T) sc_Sinit (fun vs H Q E ⟨_, _, _, e, _⟩ => by rw [e]; rfl) (fun _ _ _ _ _ _ us hl => match us, hl with | [_, _], _ => rfl) fun cdv A outer s H vs Q E hr h => by
    obtain ⟨a, dx, y, rfl, h1, q⟩ := h
    have cl := cl_Shell T
    refine ⟨_, pss_cons (ps_fldU (L2.pv 0) (L2.pv 1)) (pss_one (ps_fldU (L2.pv 0) (pe_tupU pa_nil))), ?_⟩
    refine ⟨_, rfl, _, rfl, a, _, dx, _, rfl, h1, cl, na_Shell_yard T, by decide, fun H1 k1 e1 => ?_⟩
    refine ⟨Nat.le_of_ble_eq_true rfl, fun lv H2 k2 hlv => ?_⟩
    refine ⟨_, rfl, a, _, dx, _, rfl, k2.get e1, cl, na_Shell_lines T, Nat.le_of_ble_eq_true rfl, fun H3 k3 e3 => ?_⟩
    refine q H3 lv ((k1.trans k2.nil).trans k3) ⟨dx, _, [], e3, Nat.le_of_ble_eq_true rfl, fun f n1 n2 => ?_, (lk_ne (by decide)).trans lk_same, lk_same, hlv.kp k3, by decide⟩
    exact (lk_ne n2).trans ((lk_ne n1).trans rfl)
theorem sc_heard : FnScope ["self"] ["self"] (defScope s_Shell_heard) := ⟨rfl, rfl, rfl, by decide +kernel, rfl, by decide +kernel, by decide +kernel⟩
def sp_heard (K : PySem.W.Frag) : Sp := fun vs H Q _ => ∃ a y lv, vs = [.ref a] ∧ ShAt K H a y lv ∧ Q lv H
theorem ok_heard (T : TX w K mg) : FnR P w K mg base CX0 1 (pg K "Shell" "heard") (sp_heard K) :=
  fnr0 (f_Shell_heard T) sc_heard (fun vs H Q E ⟨_, _, _, e, _⟩ => by rw [e]; rfl) (fun _ _ _ _ _ _ us hl => match us, hl with | [_], _ => rfl) fun cdv A outer s H vs Q E hr h => by
    obtain ⟨a, y, lv, rfl, hS, q⟩ := h
    refine ⟨_, pss_one (ps_ret (pe_fld (pv 0) rfl)), ?_⟩
    obtain ⟨dx, fs, ls, h1, h2, h3, h4, h5, h6⟩ := hS.ex
    exact ⟨_, rfl, a, _, dx, fs, _, rfl, h1, cl_Shell T, na_Shell_lines T, h5, q⟩
theorem pr_heard (T : TX w K mg) : PropOf K (He.ga K "Shell") "heard" (He.ma K (He.ga K "Shell") "heard") (pg K "Shell" "heard") := ⟨p1_Shell_heard T, p2_Shell_heard T, p3_Shell_heard T, rec_of (p4_Shell_heard T)⟩
/-! ### what along and next tell -/
theorem sc_sizes : FnScope ["self", "word", "numbers", "pair", "box", "axis", "found"] ["self", "word", "numbers"] (defScope s_Shell_sizes) := ⟨rfl, rfl, rfl, by decide +kernel, rfl, by decide +kernel, by decide +kernel⟩
def nextT (W : Way) (least : Int) : Str := match nextF W least with | none => "none" | some i => sayV (.int i)
def pgWay (S : Pg) (k : Nat) : Way := alongF S.one S.other S.box S.box.length k
def sp_sizes (K : PySem.W.Frag) : Sp := fun vs H Q _ => ∃ a y Y ls nv word n k least, vs = [.ref a, .str word, nv] ∧ ShAt K H a y ls ∧ YAt K H y Y ∧ PgOk 1048576 n (lastP Y.pages) ∧ TbI K H ∧ k < n ∧
  ((word = "along" ∧ Ls H nv [.int (k : Nat)] ∧ ∀ H', KT [] H H' → TbI K H' → Q (.str (sayJ " " (wayV (pgWay (lastP Y.pages) k)))) H') ∨
   (word = "next" ∧ Ls H nv [.int (k : Nat), .int least] ∧ 1 ≤ least ∧ least ≤ 1000000000000 ∧ ∀ H', KT [] H H' → TbI K H' → Q (.str (nextT (pgWay (lastP Y.pages) k) least)) H'))
theorem ok_sizes (T : TX w K mg) (hB : LamX.TabB base mg (He.codeOf K ("sum_at", none)) (tbP K)) : FnR P w K mg base CX0 8 (a_Shell_sizes K) (sp_sizes K) :=
  fnr0 (f_Shell_sizes T) sc_sizes (fun vs H Q E ⟨_, _, _, _, _, _, _, _, _, e, _⟩ => by rw [e]; rfl) (fun _ _ _ _ _ _ us hl => match us, hl with | [_, _, _], _ => rfl) fun cdv A outer s H vs Q E hr h => by
    obtain ⟨a, y, Y, ls, nv, word, n, k, least, rfl, hS, hY, pk, hT, hk, q⟩ := h
    have nd := sc_sizes.nd
    have cl := cl_Shell T
    have cy := cl_Yard T
    refine ⟨_, pss_cons (ps_par3 (i := 3) (j := 4) (l := 5) rfl nd rfl rfl rfl (by decide) (by decide) (by decide) rfl rfl rfl (pa_cons (pe_propR (pe_fld (pv 0) rfl) cy (pr_pair T) (ok_pair T) hr) (pa_cons (pe_propR (pe_fld (pv 0) rfl) cy (pr_box T) (ok_box T) hr) (pa_cons (pe_ix ix_listU (pv 2) pe_int (fun _ _ => rfl)) pa_nil))) (by rfl))
      (pss_cons (ps_if (pt_cmpR op_ge (pv 5) (pe_callB call_lenU (by rfl) (n_len T) b_len (pa_cons (pv 4) pa_nil)) (nomark _)) pss_never pss_nil)
      (pss_cons (ps_if (pt_cmpR op_eq (pv 1) pe_str (nomark _)) (pss_one (ps_ret (pe_f (ok_spoken T) (g_spoken T) (kp_spoken T) hr (pa_cons (pe_f (ok_along T) (g_along T) (kp_along T) hr (pa_cons (pv 3) (pa_cons (pv 4) (pa_cons (pv 5) pa_nil)))) pa_nil)))) pss_nil)
      (pss_cons (ps_set (i := 6) nd rfl (Or.inl rfl) (pe_f (ok_next_side T hB) (g_next_side T) (kp_next_side T) hr (pa_cons (pv 3) (pa_cons (pv 4) (pa_cons (pv 5) (pa_cons (pe_ix ix_listU (pv 2) pe_int (fun _ _ => rfl)) pa_nil))))))
      (pss_one (ps_ret (pe_ifExp (pt_cmpR op_isN (pv 6) pe_non (nomark _)) pe_str (pe_callTy call_say (by rfl) (n_str T) b_str (pa_cons (pv 6) pa_nil)))))))), ?_⟩
    obtain ⟨dx, fs, lv, h1, h2, h3, h4, h5, h6⟩ := hS.ex
    obtain ⟨dxY, fsY, g1, only⟩ := hY.ins
    have s1 := pk.one.sds (Int.le_refl _)
    have s2 := pk.other.sds (Int.le_refl _)
    have s3 := pk.box.sds (Int.le_refl _)
    have ebl : (lastP Y.pages).box.length = n := s3.1
    have W := alongF_ok (box := (lastP Y.pages).box) s1 s2 hk
    have hat : ∃ ns, Ls H nv ns ∧ atI ns 0 = some (.int (k : Nat)) := by
      rcases q with ⟨_, h, _⟩ | ⟨_, h, _⟩
      · exact ⟨_, h, atI_n 0 rfl rfl⟩
      · exact ⟨_, h, atI_n 0 rfl rfl⟩
    obtain ⟨ns, hns, hat⟩ := hat
    refine ⟨_, rfl, a, _, dx, fs, _, rfl, h1, cl, na_Shell_yard T, h4, y, dxY, fsY, rfl, g1, y, Y, rfl, hY, fun u hu => ?_⟩
    refine ⟨_, rfl, a, _, dx, fs, _, rfl, h1, cl, na_Shell_yard T, h4, y, dxY, fsY, rfl, g1, y, Y, rfl, hY, fun v hv => ?_⟩
    refine ⟨_, rfl, _, _, _, hns, rfl, hat, _, _, _, rfl, ?_⟩
    refine ⟨_, rfl, _, rfl, _, _, rfl, .inl hv, _, _, rfl, rfl, _, rfl, ?_⟩
    rw [decide_eq_false (by rw [List.length_map, ebl]; omega)]
    refine iteF ?_
    unfold pgWay at q
    rw [ebl] at q
    rcases q with ⟨rfl, h, q⟩ | ⟨rfl, h, l1, l2, q⟩
    · refine ⟨_, rfl, rfl, _, rfl, iteT ?_⟩
      refine ⟨_, rfl, _, rfl, _, rfl, u, v, n, k, _, _, _, rfl, hu, hv, s1, s2, s3, hk, pk.n4, fun r H1 k1 hr1 => ?_⟩
      obtain ⟨wo, wl⟩ := way_ok W
      exact ⟨r, _, rfl, hr1, wo, wl, fun H2 k2 => q H2 (k1.trans k2).kt (hT.kp0 (k1.trans k2))⟩
    · refine ⟨_, rfl, rfl, _, rfl, ?_⟩
      rw [decide_eq_false (by decide)]
      refine iteF ?_
      refine ⟨_, rfl, _, rfl, _, rfl, _, rfl, _, _, _, h, rfl, atI_n 1 rfl rfl, u, v, n, k, _, _, _, least, rfl, hu, hv, s1, s2, s3, hk, pk.n4, l1, hT, fun H1 k1 t1 => ?_⟩
      have hq := q H1 k1 t1
      unfold nextT at hq
      cases e : nextF (alongF (lastP Y.pages).one (lastP Y.pages).other (lastP Y.pages).box n k) least with
      | none =>
        rw [e] at hq
        exact ⟨_, rfl, rfl, _, rfl, iteT hq⟩
      | some i =>
        rw [e] at hq
        exact ⟨_, rfl, rfl, _, rfl, iteF ⟨_, rfl, _, rfl, next_ok W l1 l2 e, hq⟩⟩
end
end TB
namespace TB
open PySem PySem.Spec PyProof.Rows L2
/-! ### commands -/
inductive Cmd
  | ed (e : Ed)
  | undo
  | shw
  | paper
  | filled
  | news
  | along (k : Nat)
  | next (k : Nat) (least : Int)
  | cuts
  | cut (i : Int)
def cmdW : Cmd → Str
  | .ed e => edName e
  | .undo => "undo"
  | .shw => "show"
  | .paper => "paper"
  | .filled => "filled"
  | .news => "news"
  | .along _ => "along"
  | .next _ _ => "next"
  | .cuts => "cuts"
  | .cut _ => "cut"
def edI : Ed → List Int
  | .side k x => [(k : Nat), x]
  | .brick b k x => [(b : Nat), (k : Nat), x]
  | .swap => []
  | .turn o => ordI o
  | .stretch k x => [(k : Nat), x]
  | .more x => [x]
def cmdI : Cmd → List Int
  | .ed e => edI e
  | .along k => [(k : Nat)]
  | .next k l => [(k : Nat), l]
  | .cut i => [i]
  | _ => []
def pgCuts (S : Pg) : Int := countF S.one S.other S.box S.box.length
def pgCut (S : Pg) (i : Int) : List V := (cutGo S.one S.other S.box S.box.length (cutsL S.box.length) i).getD []
def CmdOk (n : Nat) (Y : YS) : Cmd → Prop
  | .ed e => edOk n e ∧ (edMiss n e = none → PgOk 1048576 n (edP (lastP Y.pages) e)) ∧ Y.pages.length ≤ 30
  | .undo => (2 ≤ Y.pages.length → POk (lastP Y.pages.dropLast)) ∧ 1 ≤ Y.pages.length ∧ Y.pages.length ≤ 100
  | .along k => k < n
  | .next k l => k < n ∧ 1 ≤ l ∧ l ≤ 1000000000000
  | .cut i => 0 ≤ i ∧ i < pgCuts (lastP Y.pages)
  | _ => True
def cmdMiss (n : Nat) (Y : YS) : Cmd → Option (Option Nat)
  | .ed e => (edMiss n e).map some
  | .undo => if Y.pages.length = 1 then some none else none
  | _ => none
def cmdY (Y : YS) : Cmd → YS
  | .ed e => ⟨Y.pages ++ [edP (lastP Y.pages) e], tellF (pgFill (edP (lastP Y.pages) e)) (pgFill (lastP Y.pages))⟩
  | .undo => undoY Y
  | _ => Y
def verT (i : Int) : Str := (Str.empty ++ "version ") ++ sayV (.int i)
def cmdT (Y : YS) : Cmd → Str
  | .ed _ => verT (Y.pages.length : Nat)
  | .undo => verT ((Y.pages.length : Nat) - 2)
  | .shw => showT (lastP Y.pages)
  | .paper => sayJ " " (pgPaper (lastP Y.pages))
  | .filled => if pgFill (lastP Y.pages) = true then "yes" else "no"
  | .news => Y.word
  | .along k => sayJ " " (wayV (pgWay (lastP Y.pages) k))
  | .next k l => nextT (pgWay (lastP Y.pages) k) l
  | .cuts => sayV (.int (pgCuts (lastP Y.pages)))
  | .cut i => sayJ " " (pgCut (lastP Y.pages) i)
def exOut (K : PySem.W.Frag) (H : Hp) (E : XK) : Option Nat → Prop
  | some k => NAx K H (k : Nat) E
  | none => NUx K H E
theorem exOut.kp {K : PySem.W.Frag} {H H1 : Hp} {E : XK} {x : Option Nat} (h : exOut K H E x) (k : Kp [] H H1) : exOut K H1 E x := by
  cases x with
  | none => exact fun H' k' => h H' (k.trans k')
  | some n => exact NAx.kp h k
/-! ### match on a word -/
section
variable {z x : Str} {σ : L2.St} {H : Hp} {F : Option (List V) → Hp → Prop}
theorem val_no (h : z ≠ x) (q : F none H) : pVal (tC (.str x)) (.str z) σ H F := by
  refine ⟨rfl, ?_⟩
  rw [if_neg (show ¬ V.str z = V.str x from fun e => h (V.str.inj e))]
  exact q
theorem val_yes (h : z = x) (q : F (some []) H) : pVal (tC (.str x)) (.str z) σ H F := by
  refine ⟨rfl, ?_⟩
  rw [if_pos (show V.str z = V.str x by rw [h])]
  exact q
theorem ors_no : ∀ {xs : List Str} {F : Option (List V) → Hp → Prop}, z ∉ xs → F none H → pOrs (xs.map fun x => pVal (tC (.str x))) (.str z) σ H F
  | [], F, _, q => q
  | x :: xs, F, h, q => by
    show pVal (tC (.str x)) (.str z) σ H (fun r H1 => match r with | some bs => F (some bs) H1 | none => pOrs (xs.map fun x => pVal (tC (.str x))) (.str z) σ H1 F)
    exact val_no (fun e => h (by rw [e]; exact List.mem_cons_self ..)) (ors_no (fun m => h (List.mem_cons_of_mem _ m)) q)
theorem ors_yes : ∀ {xs : List Str} {F : Option (List V) → Hp → Prop}, z ∈ xs → F (some []) H → pOrs (xs.map fun x => pVal (tC (.str x))) (.str z) σ H F
  | x :: xs, F, h, q => by
    show pVal (tC (.str x)) (.str z) σ H (fun r H1 => match r with | some bs => F (some bs) H1 | none => pOrs (xs.map fun x => pVal (tC (.str x))) (.str z) σ H1 F)
    by_cases e : z = x
    · exact val_yes e q
    · exact val_no e (ors_yes ((List.mem_cons.mp h).resolve_left e) q)
end
section
variable {w : World} {K : PySem.W.Frag} {mg : Str → Option Value} {base : Heap}
theorem rd_ver {i : Int} {H' : Hp} {R : Str → Hp → Prop} (h0 : 0 ≤ i) (h1 : i < 10 ^ 60) (q : R (verT i) H') : (∃ y : Str, V.int i = .str y ∧ y.length ≤ sizeLine ∧ ∃ z : Str, V.str y = .str z ∧ ((Str.empty ++ "version ") ++ z).length ≤ sizeLine ∧ R ((Str.empty ++ "version ") ++ z) H') ∨
    ∃ j : Int, V.int i = .int j ∧ j.natAbs.log2 < 1920 ∧ ∃ z : Str, V.str (toString j) = .str z ∧ ((Str.empty ++ "version ") ++ z).length ≤ sizeLine ∧ R ((Str.empty ++ "version ") ++ z) H' := by
  refine .inr ⟨i, rfl, log_ok h0 h1, _, rfl, ?_, q⟩
  have l : (sayV (.int i)).length ≤ 60 := sayV_len (.inl ⟨i, rfl, h0, h1⟩)
  have e : (Str.empty ++ ("version " : Str)).length = 8 := rfl
  have sz : 1000 ≤ sizeLine := by decide
  rw [txt_app_len, e]
  show 8 + (sayV (.int i)).length ≤ sizeLine
  omega
theorem small60 {n : Nat} (h : n ≤ 1000) : ((n : Nat) : Int) < 10 ^ 60 := Int.lt_of_le_of_lt (show ((n : Nat) : Int) ≤ 1000 by omega) (by decide +kernel)
theorem bm_edit (T : TX w K mg) : BMeth K (He.ga K "Yard") "edit" (He.ma K (He.ga K "Yard") "edit") := ⟨me_Yard_edit T, bm1_Yard_edit T, bm2_Yard_edit T, by decide, bm3_Yard_edit T⟩
theorem sc_told : FnScope ["self", "word", "numbers", "yard"] ["self", "word", "numbers"] (defScope s_Shell_told) := ⟨rfl, rfl, rfl, by decide +kernel, rfl, by decide +kernel, by decide +kernel⟩
def sp_told (K : PySem.W.Frag) : Sp := fun vs H Q E => ∃ a y Y ls nv c n, vs = [.ref a, .str (cmdW c), nv] ∧ ShAt K H a y ls ∧ YAt K H y Y ∧ PgOk 1048576 n (lastP Y.pages) ∧ TbI K H ∧ CmdOk n Y c ∧ Ls H nv ((cmdI c).map V.int) ∧
  (cmdMiss n Y c = none → ∀ H', KT [y] H H' → TbI K H' → YAt K H' y (cmdY Y c) → Q (.str (cmdT Y c)) H') ∧ (∀ x, cmdMiss n Y c = some x → exOut K H E x)
theorem ok_told (T : TX w K mg) (hB : LamX.TabB base mg (He.codeOf K ("sum_at", none)) (tbP K)) : FnR PW w K mg base (L2.CX PW w) 12 (a_Shell_told K) (sp_told K) :=
  fnrX (f_Shell_told T) sc_told (fun vs H Q E ⟨_, _, _, _, _, _, _, e, _⟩ => by rw [e]; rfl) (fun _ _ _ _ _ _ us hl => match us, hl with | [_, _, _], _ => rfl) fun cdv A outer s H vs Q E hr h => by
    obtain ⟨a, y, Y, ls, nv, c, n, rfl, hS, hY, pk, hT, ok, hns, q1, q2⟩ := h
    have nd := sc_told.nd
    have cl := cl_Shell T
    have cy := cl_Yard T
    refine ⟨_, pss_cons (ps_set (i := 3) nd rfl (Or.inl rfl) (pe_fld (L2.pv 0) rfl))
      (pss_one (ps_match (L2.pv 1)
        (pm_cons (pp_or (.cons (pp_val pe_str) (.cons (pp_val pe_str) (.cons (pp_val pe_str) (.cons (pp_val pe_str) (.cons (pp_val pe_str) .nil)))))) pb_nil
          (pss_one (ps_ret (pe_joined (.cons pe_str (.cons (pe_fmt (pe_methSB (E := E) (L2.pv 3) cy (bm_edit T) (ok_edit T) (hr.mono (by decide)) psX (L2.pv 1) (L2.pv 2))) .nil)))))
        (pm_cons (pp_val pe_str) pb_nil (pss_one (ps_ret (pe_joined (.cons pe_str (.cons (pe_fmt (pe_m (E := E) (L2.pv 3) cy (me_Yard_turn T) (ok_Yturn T) hr (pa_cons (pe_callTy call_tupU (by rfl) (n_tuple T) b_tuple (pa_cons (L2.pv 2) pa_nil)) pa_nil) psX)) .nil)))))
        (pm_cons (pp_val pe_str) pb_nil (pss_one (ps_ret (pe_joined (.cons pe_str (.cons (pe_fmt (pe_m0 (E := E) (L2.pv 3) cy (me_Yard_undo T) (ok_undo T) hr psX)) .nil)))))
        (pm_cons (pp_val pe_str) pb_nil (pss_one (ps_ret (pe_callTy (call_strOwn (me_Yard_str T).at_ (me_Yard_str T).fn (ok_strY T) hr pass0) (by rfl) (n_str T) b_str (pa_cons (L2.pv 3) pa_nil))))
        (pm_cons (pp_val pe_str) pb_nil (pss_one (ps_ret (pe_f (ok_spoken T) (g_spoken T) (kp_spoken T) hr (pa_cons (pe_propR (L2.pv 3) cy (pr_paper T) (ok_paperY T) hr) pa_nil))))
        (pm_cons (pp_val pe_str) pb_nil (pss_one (ps_ret (pe_ifExp (pt_truthR (L2.pv 3) (tru_own (me_Yard_bool T).at_ (me_Yard_bool T).fn (ok_boolY T) hr pass0) (fun _ => rfl)) pe_str pe_str)))
        (pm_cons (pp_val pe_str) pb_nil (pss_one (ps_ret (pe_propR (L2.pv 3) cy (pr_news T) (ok_news T) hr)))
        (pm_cons (pp_val pe_str) pb_nil (pss_one (ps_ret (pe_callTy call_say (by rfl) (n_str T) b_str (pa_cons (pe_f (ok_count_cuts T) (g_count_cuts T) (kp_count_cuts T) hr (pa_cons (pe_propR (L2.pv 3) cy (pr_pair T) (ok_pair T) hr) (pa_cons (pe_propR (L2.pv 3) cy (pr_box T) (ok_box T) hr) pa_nil))) pa_nil))))
        (pm_cons (pp_val pe_str) pb_nil (pss_one (ps_ret (pe_f (ok_spoken T) (g_spoken T) (kp_spoken T) hr (pa_cons (pe_f (ok_cut_at T) (g_cut_at T) (kp_cut_at T) hr (pa_cons (pe_propR (L2.pv 3) cy (pr_pair T) (ok_pair T) hr) (pa_cons (pe_propR (L2.pv 3) cy (pr_box T) (ok_box T) hr) (pa_cons (pe_ix ix_listU (L2.pv 2) pe_int (fun _ _ => rfl)) pa_nil)))) pa_nil))))
        (pm_cons pp_any pb_nil (pss_one (ps_ret (pe_m (L2.pv 0) cl (me_Shell_sizes T) (ok_sizes T hB) hr (pa_cons (L2.pv 1) (pa_cons (L2.pv 2) pa_nil))))) pm_nil)))))))))))), ?_⟩
    obtain ⟨dx, fs, lv, h1, h2, h3, h4, h5, h6⟩ := hS.ex
    obtain ⟨dxY, fsY, g1, only⟩ := hY.ins
    have s1 := pk.one.sds (Int.le_refl _)
    have s2 := pk.other.sds (Int.le_refl _)
    have s3 := pk.box.sds (Int.le_refl _)
    have ebl : (lastP Y.pages).box.length = n := s3.1
    have v8 : (Str.empty ++ ("version " : Str)).length ≤ sizeLine := by decide
    have insY : ∃ C dx fs, H y = some (.ins C dx fs) := ⟨_, _, _, g1⟩
    refine ⟨_, rfl, a, _, dx, fs, _, rfl, h1, cl, na_Shell_yard T, h4, _, rfl, ?_⟩
    cases c with
    | ed e =>
      obtain ⟨o1, o2, o3⟩ := ok
      have fin : ∀ H1, Kp [] H H1 → EdPost K y Y e n H1 (fun v H' => (∃ y : Str, v = .str y ∧ y.length ≤ sizeLine ∧ ∃ z : Str, V.str y = .str z ∧ ((Str.empty ++ "version ") ++ z).length ≤ sizeLine ∧ Q (.str ((Str.empty ++ "version ") ++ z)) H') ∨
          ∃ j : Int, v = .int j ∧ j.natAbs.log2 < 1920 ∧ ∃ z : Str, V.str (toString j) = .str z ∧ ((Str.empty ++ "version ") ++ z).length ≤ sizeLine ∧ Q (.str ((Str.empty ++ "version ") ++ z)) H') E := fun H1 k1 =>
        ⟨fun c H' k hY' => rd_ver (R := fun s H => Q (.str s) H) (by omega) (small60 (by omega)) (q1 (show (edMiss n e).map some = none by rw [c]; rfl) H' (k1.nil.trans k).kt (hT.kpY (k1.nil.trans k) insY) hY'),
          fun k c => (show exOut K H E (some k) from q2 (some k) (show (edMiss n e).map some = some (some k) by rw [c]; rfl)).kp k1⟩
      by_cases ht : ∃ o, e = .turn o
      · obtain ⟨o, rfl⟩ := ht
        refine ors_no (xs := ["side", "brick", "swap", "stretch", "more"]) (show (("turn" : Str) ∉ _) by decide +kernel) (val_yes rfl ⟨rfl, ?_⟩)
        refine ⟨_, rfl, v8, _, rfl, y, dxY, fsY, rfl, g1, only _ (by decide) (by decide) (by decide) (by decide), _, rfl, nv, _, rfl, hns, fun r H1 k1 hr1 => ?_⟩
        exact ⟨y, Y, .turn o, n, [r], rfl, rfl, ⟨hY.kp0 k1, o1, pk, o2, o3⟩, ⟨r, rfl, hr1⟩, fin H1 k1⟩
      · have mem : edName e ∈ [("side" : Str), "brick", "swap", "stretch", "more"] := by
          cases e <;> first | (exact absurd ⟨_, rfl⟩ ht) | (simp only [edName]; decide +kernel)
        have hv : ∀ H, EdV H e ((edI e).map V.int) := fun H => by
          cases e <;> first | (exact absurd ⟨_, rfl⟩ ht) | rfl
        refine ors_yes mem ⟨rfl, ?_⟩
        refine ⟨_, rfl, v8, _, rfl, y, dxY, fsY, rfl, g1, only _ (by decide) (by decide) (by decide) (by decide), fun q hq => ⟨_, rfl, _, rfl, ?_⟩⟩
        have kq : Kp [] H (upd H q (.met (He.ma K (He.ga K "Yard") "edit") y)) := Kp.upd hq
        obtain ⟨nb, rfl, hnb⟩ := hns
        exact ⟨nb, _, rfl, .inr (SqL.of (kq.get hnb)), upd_same, y, Y, e, n, _, rfl, ⟨hY.kp0 kq, o1, pk, o2, o3⟩, hv _, fin _ kq⟩
    | undo =>
      refine ors_no (xs := ["side", "brick", "swap", "stretch", "more"]) (by decide +kernel) (val_no (by decide +kernel) (val_yes rfl ⟨rfl, ?_⟩))
      refine ⟨_, rfl, v8, _, rfl, y, dxY, fsY, rfl, g1, only _ (by decide) (by decide) (by decide) (by decide), ?_⟩
      obtain ⟨o1, o2, o3⟩ := ok
      refine ⟨y, Y, rfl, ⟨hY, ⟨n, pk⟩, o1, o2⟩, fun l2 H' k hY' => rd_ver (i := (Y.pages.length : Nat) - 2) (R := fun s H => Q (.str s) H) (by omega) ?_ ?_, fun e => q2 none (if_pos e)⟩
      · have := small60 (n := Y.pages.length) (by omega); omega
      · exact q1 (if_neg (by omega)) H' k.kt (hT.kpY k insY) hY'
    | shw =>
      refine ors_no (xs := ["side", "brick", "swap", "stretch", "more"]) (by decide +kernel) (val_no (by decide +kernel) (val_no (by decide +kernel) (val_yes rfl ⟨rfl, ?_⟩)))
      exact ⟨_, rfl, _, y, dxY, fsY, rfl, rfl, g1, y, Y, rfl, hY, ⟨n, pk⟩, fun H' k => ⟨_, rfl, q1 rfl H' k.nil.kt (hT.kp0 k) (hY.kp0 k)⟩⟩
    | paper =>
      refine ors_no (xs := ["side", "brick", "swap", "stretch", "more"]) (by decide +kernel) (val_no (by decide +kernel) (val_no (by decide +kernel) (val_no (by decide +kernel) (val_yes rfl ⟨rfl, ?_⟩))))
      have po := paper_ok s1 s2 s3 pk.n1 pk.n4
      have q1 := q1 rfl
      unfold cmdT pgPaper at q1
      rw [ebl] at q1
      refine ⟨_, rfl, y, dxY, fsY, rfl, g1, y, Y, rfl, hY, ⟨n, pk⟩, fun r H1 k1 hr1 => ?_⟩
      unfold pgPaper at hr1
      rw [ebl] at hr1
      exact ⟨r, _, rfl, hr1, po.1, po.2, fun H2 k2 => q1 H2 (k1.trans k2).nil.kt (hT.kp0 (k1.trans k2)) (hY.kp0 (k1.trans k2))⟩
    | filled =>
      refine ors_no (xs := ["side", "brick", "swap", "stretch", "more"]) (by decide +kernel) (val_no (by decide +kernel) (val_no (by decide +kernel) (val_no (by decide +kernel) (val_no (by decide +kernel) (val_yes rfl ⟨rfl, ?_⟩)))))
      refine ⟨_, rfl, y, dxY, fsY, rfl, g1, y, Y, rfl, hY, ⟨n, pk⟩, fun H' k => ⟨_, rfl, ?_⟩⟩
      have q := q1 rfl H' k.nil.kt (hT.kp0 k) (hY.kp0 k)
      unfold cmdT at q
      cases e : pgFill (lastP Y.pages) with
      | true => rw [e, if_pos rfl] at q; exact iteT q
      | false => rw [e, if_neg (by decide)] at q; exact iteF q
    | news =>
      refine ors_no (xs := ["side", "brick", "swap", "stretch", "more"]) (by decide +kernel) (val_no (by decide +kernel) (val_no (by decide +kernel) (val_no (by decide +kernel) (val_no (by decide +kernel) (val_no (by decide +kernel) (val_yes rfl ⟨rfl, ?_⟩))))))
      exact ⟨_, rfl, y, dxY, fsY, rfl, g1, y, Y, rfl, hY, q1 rfl H .refl hT hY⟩
    | cuts =>
      refine ors_no (xs := ["side", "brick", "swap", "stretch", "more"]) (by decide +kernel) (val_no (by decide +kernel) (val_no (by decide +kernel) (val_no (by decide +kernel) (val_no (by decide +kernel) (val_no (by decide +kernel) (val_no (by decide +kernel) (val_yes rfl ⟨rfl, ?_⟩)))))))
      have cb := countF_bd s1 s2 s3 pk.n4
      have q1 := q1 rfl
      unfold cmdT pgCuts at q1
      rw [ebl] at q1
      refine ⟨_, rfl, y, dxY, fsY, rfl, g1, y, Y, rfl, hY, fun v hv => ⟨_, rfl, y, dxY, fsY, rfl, g1, y, Y, rfl, hY, fun u hu => ?_⟩⟩
      exact ⟨v, u, n, _, _, _, rfl, hv, hu, s1, s2, s3, pk.n4, fun H' k => ⟨_, rfl, okB cb.1 (by omega), q1 H' k.nil.kt (hT.kp0 k) (hY.kp0 k)⟩⟩
    | cut i =>
      refine ors_no (z := "cut") (xs := ["side", "brick", "swap", "stretch", "more"]) (by decide +kernel) (val_no (z := "cut") (by decide +kernel) (val_no (z := "cut") (by decide +kernel) (val_no (z := "cut") (by decide +kernel) (val_no (z := "cut") (by decide +kernel) (val_no (z := "cut") (by decide +kernel) (val_no (z := "cut") (by decide +kernel) (val_no (z := "cut") (by decide +kernel) (val_yes (z := "cut") rfl ⟨rfl, ?_⟩))))))))
      obtain ⟨i0, i1⟩ := ok
      unfold pgCuts at i1
      rw [ebl] at i1
      have q1 := q1 rfl
      dsimp only [cmdT, pgCut] at q1
      rw [ebl] at q1
      refine ⟨_, rfl, y, dxY, fsY, rfl, g1, y, Y, rfl, hY, fun v hv => ⟨_, rfl, y, dxY, fsY, rfl, g1, y, Y, rfl, hY, fun u hu => ?_⟩⟩
      refine ⟨_, rfl, _, _, _, hns, rfl, atI_n 0 rfl rfl, ?_⟩
      refine ⟨v, u, n, i, _, _, _, rfl, hv, hu, s1, s2, s3, pk.n4, i0, i1, fun r H1 xs k1 hx hr1 => ?_⟩
      have co := cut_ok s1 s2 s3 pk.n4 (l := cutsL n) (fun q hq => cutsL_mem (f := q.1) (k := q.2) hq) i0 hx
      rw [hx] at q1
      exact ⟨r, xs, rfl, hr1, co.1, co.2, fun H2 k2 => q1 H2 (k1.trans k2).nil.kt (hT.kp0 (k1.trans k2)) (hY.kp0 (k1.trans k2))⟩
    | along k =>
      refine ors_no (z := "along") (xs := ["side", "brick", "swap", "stretch", "more"]) (by decide +kernel) (val_no (z := "along") (by decide +kernel) (val_no (z := "along") (by decide +kernel) (val_no (z := "along") (by decide +kernel) (val_no (z := "along") (by decide +kernel) (val_no (z := "along") (by decide +kernel) (val_no (z := "along") (by decide +kernel) (val_no (z := "along") (by decide +kernel) (val_no (z := "along") (by decide +kernel) ⟨rfl, ?_⟩))))))))
      refine ⟨_, rfl, a, dx, fs, rfl, h1, h3 _ (by decide) (by decide), _, rfl, _, rfl, ?_⟩
      exact ⟨a, y, Y, ls, _, _, n, k, 0, rfl, hS, hY, pk, hT, ok, .inl ⟨rfl, hns, fun H' k t => q1 rfl H' k.nil t (hY.kt k fun q => nomatch q)⟩⟩
    | next k l =>
      refine ors_no (z := "next") (xs := ["side", "brick", "swap", "stretch", "more"]) (by decide +kernel) (val_no (z := "next") (by decide +kernel) (val_no (z := "next") (by decide +kernel) (val_no (z := "next") (by decide +kernel) (val_no (z := "next") (by decide +kernel) (val_no (z := "next") (by decide +kernel) (val_no (z := "next") (by decide +kernel) (val_no (z := "next") (by decide +kernel) (val_no (z := "next") (by decide +kernel) ⟨rfl, ?_⟩))))))))
      refine ⟨_, rfl, a, dx, fs, rfl, h1, h3 _ (by decide) (by decide), _, rfl, _, rfl, ?_⟩
      exact ⟨a, y, Y, ls, _, _, n, k, l, rfl, hS, hY, pk, hT, ok.1, .inr ⟨rfl, hns, ok.2.1, ok.2.2, fun H' k t => q1 rfl H' k.nil t (hY.kt k fun q => nomatch q)⟩⟩
end
end TB
namespace TB
open PySem PySem.Spec PyProof.Rows L2
/-! ### a method that may let out, by the slots -/
section
variable {X : Cx} {CX : CXT} {k j : Nat} {C f : Addr} {m : Str} {sp : Sp} {o e : PySem.Expr} {es : List PySem.Expr} {ta : TE} {t : L2.TA} {apos pos : Pos} {pl : Sem Bool} {E : L2.St → XK}
def tMethS (C : Addr) (m : Str) (sp : Sp) (E : L2.St → XK) (ta : TE) (t : L2.TA) : TE := fun σ H Q => ta σ H fun x H1 => ∃ a dx fs, x = .ref a ∧ H1 a = some (.ins C dx fs) ∧ fs.lookup m = none ∧ t σ H1 fun vs H2 => sp (x :: vs) H2 Q (E σ)
theorem pe_mS (he : PE X o ta) (c : Cls X.K C) (hm : Meth X.K C m f) (F : FnR X.prog X.w X.K X.mg X.base CX k f sp) (hr : Room j X.A) (ha : PA X (e :: es) t) (hx : ∀ σ, PassesAt CX X σ (E σ)) (hkj : k ≤ j := by decide)
    (hst : starEach (e :: es) X.env = (false, eval e X.env) :: starEach es X.env := by rfl) (hpl : (backTo pos (starEach es X.env)).any (·.1) = false := by rfl)
    (ht : eval (.Call (.Attribute o m apos) (e :: es) [] pos) X.env = (do
      let ov ← eval o X.env
      standAt apos.atName
      let (f, first) ← holding [ov] (getMethod ov m pl)
      callWith pos f first (backTo pos (starEach (e :: es) X.env)) (backToKw pos (keywordEach [] X.env))) := by rfl) : PE X (.Call (.Attribute o m apos) (e :: es) [] pos) (tMethS C m sp E ta t) := by
  refine ⟨fun pins s σ H Q I h => ?_⟩
  refine PySem.W.methodCall_KW (pl := pl) (thn (he.run pins s σ H _ I h) fun u s1 ⟨x, H1, I1, rx, a, dx, fs, ex, ea, l, q⟩ => ?_) ht
  subst ex
  obtain rfl : u = Value.ref a := rx
  refine getmeth_ok I1 ea c hm l ?_
  refine PySem.W.callWith_K (first := [.ref a]) (h₀ := X.base) I.ok.mod.kin hm.kp (thn (ha.run pos pins s1 σ H1 _ I1 q) fun us s2 ⟨vs, H2, I2, r, q2⟩ => ⟨I2.kIn, ?_⟩) hst hpl
  exact wp_fnS (us := .ref a :: us) (vs := .ref a :: vs) F hr hkj (hx σ) I2 (.cons rfl r) q2
end
/-- text * int -/
theorem op_mulStr {X : Cx} : OpR X (binaryOp .Mult) (fun x y H Q => ∃ z n, x = .str z ∧ y = .int n ∧ MulOk z n ∧ Q (.str (Txt.mul z n)) H) := by
  intro pins s σ H x y v u Q I rx ry h
  obtain ⟨z, n, rfl, rfl, hm, q⟩ := h
  obtain ⟨t, rfl⟩ := rx
  obtain ⟨t', rfl⟩ := ry
  exact SB.mul hm fun t2 k => ⟨.str (Txt.mul z n), H, I.tok k, ⟨t2, rfl⟩, q⟩
/-- xs[lo:hi] of a list -/
def rSlLU : V → Option Int → Option Int → Hp → VK → Prop := fun x lo hi H Q => ∃ xs, Ls H x xs ∧ ∀ v H', Kp [] H H' → Ls H' v (cutV xs lo hi) → Q v H'
theorem sl_listU {X : Cx} : SlR X rSlLU := SlR.imp sl_list fun x lo hi H Q ⟨xs, ⟨a, e, h⟩, q⟩ => ⟨a, xs, e, SqL.of h, fun p hp => q _ _ (.upd hp) ⟨p, rfl, upd_same⟩⟩
theorem cut_tail {x : V} {xs : List V} : cutV (x :: xs) (some 1) none = xs := by
  show ((x :: xs).drop (if (1 : Int) < 0 then ((1 : Int) + ((x :: xs).length : Int)).toNat else min (1 : Int).toNat (x :: xs).length)).take _ = _
  rw [if_neg (by decide)]
  show ((x :: xs).drop (min 1 (xs.length + 1))).take ((x :: xs).length - _) = _
  rw [show min 1 (xs.length + 1) = 1 by omega]
  show xs.take (xs.length + 1 - 1) = xs
  rw [Nat.add_sub_cancel, List.take_length]
/-- BrickError's two of the law -/
theorem PSs.or2 {X : Cx} {b : List Stmt} {c1 c2 : Prop} {t1 t2 : TS} (h1 : c1 → PSs X b t1) (h2 : c2 → PSs X b t2) : PSs X b (fun D σ H => (c1 ∧ t1 D σ H) ∨ (c2 ∧ t2 D σ H)) :=
  ⟨fun pins s σ H D I h => h.elim (fun ⟨c, q⟩ => (h1 c).run pins s σ H D I q) fun ⟨c, q⟩ => (h2 c).run pins s σ H D I q⟩
/-! ### answer -/
def shapes : List (Str × Str) := [("side", "dn"), ("brick", "ddn"), ("swap", ""), ("stretch", "dn"), ("more", "n"), ("undo", ""), ("show", ""), ("paper", ""), ("filled", ""), ("news", ""), ("along", "d"), ("next", "dn"), ("cuts", ""), ("cut", "n")]
def isTurn : Cmd → Bool
  | .ed (.turn _) => true
  | _ => false
structure CmdFit (c : Cmd) (ns : List Nat) : Prop where
  eq : (cmdI c).map V.int = ns.map fun n => V.int (n : Nat)
  tn : isTurn c = true → 1 ≤ ns.length ∧ ns.length ≤ 4 ∧ ∀ n ∈ ns, n < 10
  ot : isTurn c = false → ∃ sh, (cmdW c, sh) ∈ shapes ∧ Fit sh ns
  nx : cmdW c = "next" → ∃ k l, ns = [k, l] ∧ 1 ≤ l
def lineT (c : Cmd) (ns : List Nat) : Str := Txt.join " " (cmdW c :: ns.map nT)
def ansY (n : Nat) (Y : YS) (c : Cmd) : YS := if cmdMiss n Y c = none then cmdY Y c else Y
def ansT (n : Nat) (Y : YS) (c : Cmd) : Str := match cmdMiss n Y c with
  | none => cmdT Y c
  | some (some _) => "no " ++ "NoAxis"
  | some none => "no " ++ "NothingToUndo"
theorem word_free (c : Cmd) : (32 : Nat) ∉ TL.tl (cmdW c) := by
  cases c with
  | ed e => cases e <;> simp only [cmdW, edName] <;> decide +kernel
  | _ => simp only [cmdW] <;> decide +kernel
theorem word_len (c : Cmd) : (cmdW c).length ≤ 10 := by
  cases c with
  | ed e => cases e <;> simp only [cmdW, edName] <;> decide +kernel
  | _ => simp only [cmdW] <;> decide +kernel
theorem line_split (c : Cmd) (ns : List Nat) : Txt.split (lineT c ns) " " = cmdW c :: ns.map nT := by
  refine TL.split_join (s := 32) (S := []) (by decide +kernel) (by decide +kernel) (by simp) fun p hp => ?_
  rcases List.mem_cons.mp hp with rfl | hp
  · exact word_free c
  · obtain ⟨n, _, rfl⟩ := List.mem_map.mp hp
    have e : TL.tl (nT n) = TL.numL n := TL.tl_num n
    rw [e]
    exact TL.numL_free (.inl (by decide))
theorem sum13 : ∀ {ns : List Nat}, (∀ n ∈ ns, n ≤ 1000000000000) → ((ns.map nT).map (·.length)).sum ≤ 13 * ns.length
  | [], _ => Nat.le_refl _
  | n :: ns, h => by
    have h1 : (nT n).length ≤ 13 := nT_le (by decide) (by have := h n (List.mem_cons_self ..); omega)
    have h2 := sum13 (ns := ns) fun y hy => h y (List.mem_cons_of_mem _ hy)
    simp only [List.map_cons, List.sum_cons, List.length_cons]
    omega
theorem line_len {c : Cmd} {ns : List Nat} (h : ∀ n ∈ ns, n ≤ 1000000000000) (h4 : ns.length ≤ 4) : (lineT c ns).length ≤ 100 := by
  have a := StrLaws.join_length_le " " (cmdW c :: ns.map nT)
  have b := sum13 h
  have w := word_len c
  have e1 : (" " : Str).length = 1 := rfl
  unfold lineT
  rw [TL.join_eq]
  rw [e1] at a
  simp only [List.map_cons, List.sum_cons, List.length_cons, List.length_map] at a
  rw [List.map_map] at b
  have b2 : ((List.map (fun x => x.length) (ns.map nT)).sum) ≤ 13 * ns.length := by rw [List.map_map]; exact b
  simp only [List.map_map] at a b2
  omega
theorem seq_via {t u : TS} {D : Ends} {σ : L2.St} {H : Hp} (S : Hp → Prop) (h1 : ∀ D' : Ends, (∀ H3, S H3 → D'.nx σ H3) → t D' σ H) (h2 : ∀ H3, S H3 → u D σ H3) : tSeq t u D σ H := h1 _ h2
theorem wT_len (ns : List Nat) : (wT ns).length = ns.length := by unfold wT; rw [List.length_map]
theorem mulOk_d {n : Nat} (h4 : n ≤ 4) : MulOk "d" (n : Nat) := by
  unfold MulOk
  match n, h4 with
  | 0, _ => exact ⟨by decide, by decide, by decide⟩
  | 1, _ => exact ⟨by decide, by decide, by decide⟩
  | 2, _ => exact ⟨by decide +kernel, by decide +kernel, by decide +kernel⟩
  | 3, _ => exact ⟨by decide +kernel, by decide +kernel, by decide +kernel⟩
  | 4, _ => exact ⟨by decide +kernel, by decide +kernel, by decide +kernel⟩
theorem fit_d {ns : List Nat} (h1 : 1 ≤ ns.length) (h4 : ns.length ≤ 4) (h : ∀ n ∈ ns, n < 10) : Fit (Txt.mul "d" (ns.length : Nat)) ns := by
  refine ⟨?_, h4, fun i c n _ hn => ?_⟩
  · generalize ns.length = m at h1 h4
    match m, h4, h1 with
    | 1, _, _ => decide +kernel
    | 2, _, _ => decide +kernel
    | 3, _, _ => decide +kernel
    | 4, _, _ => decide +kernel
  · have := h n (List.mem_of_getElem? hn)
    exact ⟨by omega, .inr this⟩
theorem turn_word {c : Cmd} (h : isTurn c = true) : cmdW c = "turn" := by
  cases c with
  | ed e => cases e <;> first | rfl | cases h
  | _ => cases h
theorem turn_not {c : Cmd} (h : isTurn c = false) : cmdW c ≠ "turn" := by
  cases c with
  | ed e => cases e <;> first | (exact absurd (show true = false from h) (by decide)) | (simp only [cmdW, edName]; decide +kernel)
  | _ => simp only [cmdW]; decide +kernel
theorem CmdFit.bnd {c : Cmd} {ns : List Nat} (F : CmdFit c ns) : (∀ n ∈ ns, n ≤ 1000000000000) ∧ ns.length ≤ 4 := by
  cases ht : isTurn c with
  | true =>
    obtain ⟨a, b, d⟩ := F.tn ht
    exact ⟨fun n hn => by have := d n hn; omega, b⟩
  | false =>
    obtain ⟨sh, _, f⟩ := F.ot ht
    refine ⟨fun n hn => ?_, f.n4⟩
    obtain ⟨i, hi, e⟩ := List.getElem_of_mem hn
    have hs : i < sh.cps.size := by rw [f.len]; exact hi
    exact (f.ok i sh.cps[i] n (Array.getElem?_eq_getElem hs) (by rw [List.getElem?_eq_getElem hi, e])).1
section
variable {w : World} {K : PySem.W.Frag} {mg : Str → Option Value} {base : Heap}
theorem shape_at (T : TX w K mg) {z f : Str} (h : (z, f) ∈ shapes) : KDct K w (He.ga K "SHAPES") z (.str f) := by
  obtain ⟨es, n, D⟩ := tab_SHAPES T
  obtain ⟨u, hu, r⟩ := He.valsB_ok (v_SHAPES T) (show (z, He.Dv.str f) ∈ _ from by
    have := List.mem_map_of_mem (f := fun p : Str × Str => (p.1, He.Dv.str p.2)) h
    exact this)
  exact ⟨es, n, u, D.at_, D.lit, hu, r⟩
theorem sc_answer : FnScope ["self", "line", "words", "word", "rest", "numbers", "error", "one"] ["self", "line"] (defScope s_Shell_answer) := ⟨rfl, rfl, rfl, by decide +kernel, rfl, by decide +kernel, by decide +kernel⟩
def sp_answer (K : PySem.W.Frag) : Sp := fun vs H Q E => ∃ a y Y ls c n ns, vs = [.ref a, .str (lineT c ns)] ∧ ShAt K H a y ls ∧ YAt K H y Y ∧ PgOk 1048576 n (lastP Y.pages) ∧ TbI K H ∧ CmdOk n Y c ∧ CmdFit c ns ∧
  (∀ H', KT [y] H H' → TbI K H' → YAt K H' y (ansY n Y c) → Q (.str (ansT n Y c)) H')
theorem ok_answer (T : TX w K mg) (hB : LamX.TabB base mg (He.codeOf K ("sum_at", none)) (tbP K)) : FnR PW w K mg base (L2.CX PW w) 13 (a_Shell_answer K) (sp_answer K) :=
  fnrX (f_Shell_answer T) sc_answer (fun vs H Q E ⟨_, _, _, _, _, _, _, e, _⟩ => by rw [e]; rfl) (fun _ _ _ _ _ _ us hl => match us, hl with | [_, _], _ => rfl) fun cdv A outer s H vs Q E hr h => by
    obtain ⟨a, y, Y, ls, c, n, ns, rfl, hS, hY, pk, hT, ok, F, q⟩ := h
    have nd := sc_answer.nd
    have cl := cl_Shell T
    obtain ⟨es, m, D⟩ := tab_SHAPES T
    refine ⟨_, pss_cons (ps_set (i := 2) nd rfl (Or.inl rfl) (pe_split (L2.pv 1) pe_str))
      (pss_cons (ps_par (i := 3) (j := 4) rfl nd rfl rfl (by decide) rfl rfl (pa_cons (pe_ix ix_listU (L2.pv 2) pe_int (fun _ _ => rfl)) (pa_cons (pe_slice sl_listU (L2.pv 2) (po_some pe_int) po_none) pa_nil)) (by rfl))
      (pss_cons (ps_if (pt_cmpR op_eq (L2.pv 3) pe_str (nomark _))
        (pss_one (ps_if (PW.pt (pw_or (pt_not (pt_chain op_le op_le pe_int (pe_callB call_lenU (by rfl) (n_len T) b_len (pa_cons (L2.pv 4) pa_nil)) pe_int)) (pw_or1 (pt_not (pt_val (pe_f (ok_fits T) (g_fits T) (kp_fits T) hr (pa_cons (pe_op op_mulStr pe_str (pe_callB call_lenU (by rfl) (n_len T) b_len (pa_cons (L2.pv 4) pa_nil))) (pa_cons (L2.pv 4) pa_nil)))))))) (pss_one (ps_ret (pe_gs (z_WHAT T)))) pss_nil))
        (pss_one (ps_if (PW.pt (pw_or (pt_cmpR (op_notIn_kd D) (L2.pv 3) (pe_cls (g_SHAPES T)) (by with_unfolding_all rfl)) (pw_or1 (pt_not (pt_val (pe_f (ok_fits T) (g_fits T) (kp_fits T) hr (pa_cons (pe_ix ix_kdict (pe_cls (g_SHAPES T)) (L2.pv 3) (fun _ _ => rfl)) (pa_cons (L2.pv 4) pa_nil)))))))) (pss_one (ps_ret (pe_gs (z_WHAT T)))) pss_nil)))
      (pss_cons (ps_setLc (i := 5) (own := [("one", 7)]) rfl nd rfl rfl (sw_true rfl rfl rfl (by decide +kernel)) (pi_list (L2.pv 4)) (blkOk_by (N := ["self", "line", "words", "word", "rest", "numbers", "error", "one"]) (sc := defScope s_Shell_answer) (by decide +kernel))
          (fun _ _ _ _ _ => pg_name (i := 7) nd rfl (Or.inl rfl)) (fun _ _ _ _ _ => pts_nil) (fun _ _ _ _ _ => pe_callTy call_int_str (by rfl) (n_int T) b_int (pa_cons (L2.pv 7) pa_nil)))
      (pss_cons (ps_if (PW.pt (pw_and (pt_cmpR op_eq (L2.pv 3) pe_str (nomark _)) (pw_and1 (pt_cmpR op_eq (pe_ix ix_listU (L2.pv 5) pe_int (fun _ _ => rfl)) pe_int (nomark _))))) (pss_one (ps_ret (pe_gs (z_WHAT T)))) pss_nil)
      (pss_one (ps_try_as (i := 6) (c := .ref (He.ga K "BrickError")) (Wout := fun cls d _ H => E cls d H) rfl rfl nd rfl rfl ⟨by rfl, by decide, .inl (g_BrickError T)⟩ tkX
        (fun W pn xe tk' _ => pss_one (ps_ret (pe_mS (E := WE W) (L2.pv 0) cl (me_Shell_told T) (ok_told T hB) hr (pa_cons (L2.pv 3) (pa_cons (L2.pv 5) pa_nil)) (fun σ => passAt tk' σ))))
        (fun a' oe cls d pn hz hv => PSs.or2 (c1 := cls = .ref (He.ga K "NoAxis")) (c2 := cls = .ref (He.ga K "NothingToUndo"))
          (fun e => pss_one (ps_ret (pe_op op_add_str pe_str (pe_name_na (i := 6) (k := 10) T List.mem_cons_self (e ▸ hz) hv ⟨hr.dp, hr.un⟩ rfl (.inl rfl)))))
          (fun e => pss_one (ps_ret (pe_op op_add_str pe_str (pe_name_nu (i := 6) (k := 10) T List.mem_cons_self (e ▸ hz) hv ⟨hr.dp, hr.un⟩ rfl (.inl rfl)))))))))))), ?_⟩
    have bnd := F.bnd
    have sz : 1000 ≤ sizeLine := by decide
    have ll := line_len (c := c) bnd.1 bnd.2
    refine ⟨_, rfl, ⟨_, rfl⟩, _, _, rfl, rfl, rfl, by omega, fun p hp => ?_⟩
    rw [line_split]
    have k1 : Kp [] H (upd H p (.lst ((cmdW c :: ns.map nT).map V.str))) := Kp.upd hp
    have hW : Ls (upd H p (.lst ((cmdW c :: ns.map nT).map V.str))) (.ref p) ((cmdW c :: ns.map nT).map V.str) := ⟨p, rfl, upd_same⟩
    generalize upd H p (.lst ((cmdW c :: ns.map nT).map V.str)) = H1 at k1 hW ⊢
    refine ⟨_, rfl, _, _, _, hW, rfl, atI_n 0 rfl rfl, _, rfl, _, rfl, _, hW, fun rv H2 k2 hR => ⟨_, _, rfl, ?_⟩⟩
    have hR : Ls H2 rv (wT ns) := by
      rw [List.map_cons, cut_tail, List.map_map] at hR
      exact hR
    have k12 := k1.trans k2
    have wl := wT_len ns
    dsimp only
    refine seq_via (fun H3 => Kp [] H2 H3) (fun D' hn => ?_) (fun H3 k3 => ?_)
    · refine ⟨_, rfl, rfl, _, rfl, ?_⟩
      cases ht : isTurn c with
      | true =>
        obtain ⟨t1, t4, td⟩ := F.tn ht
        rw [decide_eq_true (show V.str (cmdW c) = V.str "turn" by rw [turn_word ht])]
        refine iteT ⟨_, rfl, _, _, rfl, .inr hR, _, _, rfl, rfl, _, rfl, ?_⟩
        rw [wl]
        refine (if_pos (decide_eq_true (by omega))).mpr ⟨_, _, rfl, rfl, _, rfl, ?_⟩
        rw [show decide (((ns.length : Nat) : Int) ≤ 4) = true from decide_eq_true (by omega)]
        refine iteF ⟨_, rfl, _, _, rfl, .inr hR, _, _, rfl, rfl, ?_⟩
        rw [wl]
        exact ⟨mulOk_d t4, _, rfl, _, _, ns, rfl, hR, fit_d t1 t4 td, fun H3 k3 => ⟨true, rfl, iteF (hn H3 k3)⟩⟩
      | false =>
        obtain ⟨sh, hs, fit⟩ := F.ot ht
        rw [decide_eq_false (show ¬ V.str (cmdW c) = V.str "turn" from fun e => turn_not ht (V.str.inj e))]
        refine iteF ?_
        obtain ⟨es', n', u, e1, e2, e3, e4⟩ := shape_at T hs
        refine ⟨_, rfl, _, _, rfl, rfl, e3, _, rfl, iteF ?_⟩
        exact ⟨_, rfl, _, _, _, rfl, rfl, shape_at T hs, _, rfl, sh, _, ns, rfl, hR, fit, fun H3 k3 => ⟨true, rfl, iteF (hn H3 k3)⟩⟩
    have k13 := k12.trans k3
    have hR3 := hR.kp k3
    obtain ⟨ra, rfl, hra⟩ := id hR3
    refine ⟨_, rfl, ra, rfl, ⟨_, SqL.of hra⟩, fun Dn hD => ?_⟩
    refine lcP walk_list [] (fun i => (ns.take i).map fun n => V.int (n : Nat)) hD rfl (fun i H' p => SqL.of (p.1.get hra)) (fun i x G1 G2 hi p yy => ?_) (fun H4 p4 => ?_)
    · obtain ⟨rfl, hx⟩ := yy
      have hx' : ∃ n, ns[i]? = some n ∧ x = .str (nT n) := by
        unfold wT at hx
        rw [List.getElem?_map] at hx
        cases e : ns[i]? with
        | none => rw [e] at hx; cases hx
        | some n => rw [e] at hx; cases hx; exact ⟨n, rfl, rfl⟩
      obtain ⟨m, hm, rfl⟩ := hx'
      have hDD := p.2
      have b := bnd.1 m (List.mem_of_getElem? hm)
      have l13 : (nT m).length ≤ 13 := nT_le (by decide) (by omega)
      refine ⟨rfl, tYesI ⟨_, rfl, _, _, rfl, TL.int_num (by rw [← nT_len]; omega), by omega, ?_⟩⟩
      exact lcAdd hD p.1 hDD (by simp only [List.length_map, List.length_take]; omega) (take_map hm)
    · obtain ⟨k4, hD4⟩ := p4
      have hN : Ls H4 (.ref Dn) (ns.map fun n => V.int (n : Nat)) := ⟨Dn, rfl, by rw [hD4]; show some (HO.lst ((ns.take (wT ns).length).map _)) = _; rw [wl, List.take_length]⟩
      have k14 := k13.trans k4
      unfold gName
      dsimp only
      refine seq_via (fun H5 => H5 = H4) (fun D' hn => ?_) (fun H5 e5 => ?_)
      · refine ⟨_, rfl, rfl, _, rfl, ?_⟩
        by_cases hx : cmdW c = "next"
        · obtain ⟨k, l, e, hl⟩ := F.nx hx
          rw [e] at hN
          rw [decide_eq_true (congrArg V.str hx)]
          refine (if_pos rfl).mpr ⟨_, rfl, _, _, _, hN, rfl, atI_n 1 rfl rfl, rfl, _, rfl, ?_⟩
          rw [show decide (V.int ((l : Nat) : Int) = V.int 0) = false from decide_eq_false fun e => by injection e with e; omega]
          exact iteF (hn H4 rfl)
        · rw [decide_eq_false (show ¬ V.str (cmdW c) = V.str "next" from fun e => hx (V.str.inj e))]
          exact iteF (iteF (hn H4 rfl))
      · subst e5
        obtain ⟨dx, fs, lv, h1, h2, h3, h4, h5, h6⟩ := (hS.kp0 k14).ex
        refine ⟨_, rfl, a, dx, fs, rfl, h1, h3 _ (by decide) (by decide), _, rfl, _, rfl, ?_⟩
        refine ⟨a, y, Y, ls, .ref Dn, c, n, rfl, hS.kp0 k14, hY.kp0 k14, pk, hT.kp0 k14, ok, F.eq ▸ hN, fun e H' k t hY' => ?_, fun x e => ?_⟩
        · have z := q H' (k14.nil.kt.trans k) t (by unfold ansY; rw [if_pos e]; exact hY')
          unfold ansT at z
          rw [e] at z
          exact z
        · have z := fun H' (k : Kp [] H5 H') => q H' (k14.trans k).nil.kt (hT.kp0 (k14.trans k)) (by unfold ansY; rw [if_neg (by rw [e]; simp)]; exact hY.kp0 (k14.trans k))
          unfold ansT at z
          rw [e] at z
          cases x with
          | none => exact fun H' k => ⟨true, em_NothingToUndo_BrickError T, fun _ a' ha' => .inr ⟨rfl, rfl, (fun dd z => nomatch z), _, _, rfl, rfl, by decide +kernel, z H' k⟩, fun z => nomatch z⟩
          | some kk => exact fun d H' k hd => ⟨true, em_NoAxis_BrickError T, fun _ a' ha' => .inl ⟨rfl, rfl, (fun dd z => ⟨_, by cases z; exact hd⟩), _, _, rfl, rfl, by decide +kernel, z H' k⟩, fun z => nomatch z⟩
end
end TB
namespace TB
open PySem PySem.Spec PyProof.Rows L2
theorem kit_str_str {K : PySem.W.Frag} : PySem.W.kitOne K (.type "str") (.type "str") = some true := kit_ty (by decide +kernel)
theorem sh_ne {K : PySem.W.Frag} {H : Hp} {a y b : Addr} {lv : V} {Y : YS} (h : ShAt K H a y lv) (h2 : YAt K H b Y) : a ≠ b := fun e => by
  subst e
  obtain ⟨dx, fs, ls, h1, _, h3, _⟩ := h.ex
  obtain ⟨dx', fs', pv, vs, lv', last, g1, g2, g3, g4, _⟩ := h2.ex
  have e := Option.some.inj (h1.symm.trans g1)
  injection e with _ _ e
  subst e
  rw [h3 "word" (by decide) (by decide)] at g4
  cases g4
theorem cut_ten {xs : List V} : (cutV xs (some (-10)) none).length ≤ 10 := by
  show ((xs.drop (if (-10 : Int) < 0 then ((-10 : Int) + (xs.length : Int)).toNat else min (-10 : Int).toNat xs.length)).take _).length ≤ 10
  rw [if_pos (by decide), List.length_take, List.length_drop]
  omega
section
variable {w : World} {K : PySem.W.Frag} {mg : Str → Option Value} {base : Heap}
theorem sc_exec : FnScope ["self", "value", "answer"] ["self", "value"] (defScope s_Shell_execute) := ⟨rfl, rfl, rfl, by decide +kernel, rfl, by decide +kernel, by decide +kernel⟩
def sp_exec (K : PySem.W.Frag) : Sp := fun vs H Q E => ∃ a y Y lv c n ns, vs = [.ref a, .str (lineT c ns)] ∧ ShAt K H a y lv ∧ YAt K H y Y ∧ PgOk 1048576 n (lastP Y.pages) ∧ TbI K H ∧ CmdOk n Y c ∧ CmdFit c ns ∧
  (∀ H' lv', KT [y, a] H H' → TbI K H' → YAt K H' y (ansY n Y c) → ShAt K H' a y lv' → Q (.str (ansT n Y c)) H')
theorem ok_exec (T : TX w K mg) (hB : LamX.TabB base mg (He.codeOf K ("sum_at", none)) (tbP K)) : FnR PW w K mg base (L2.CX PW w) 14 (a_Shell_execute K) (sp_exec K) :=
  fnrX (f_Shell_execute T) sc_exec (fun vs H Q E ⟨_, _, _, _, _, _, _, e, _⟩ => by rw [e]; rfl) (fun _ _ _ _ _ _ us hl => match us, hl with | [_, _], _ => rfl) fun cdv A outer s H vs Q E hr h => by
    obtain ⟨a, y, Y, lv, c, n, ns, rfl, hS, hY, pk, hT, ok, F, q⟩ := h
    have nd := sc_exec.nd
    have cl := cl_Shell T
    refine ⟨_, pss_cons (ps_set (i := 2) nd rfl (Or.inl rfl) (pe_ifExp (pt_val (pe_callB call_isB (by rfl) (n_isinstance T) b_isinstance (pa_cons (L2.pv 1) (pa_cons (pe_ty (n_str T) b_str) pa_nil)))) (pe_m (E := E) (L2.pv 0) cl (me_Shell_answer T) (ok_answer T hB) hr (pa_cons (L2.pv 1) pa_nil) psX) (pe_gs (z_WHAT T))))
      (pss_cons (ps_fldU (L2.pv 0) (pe_slice sl_tupU (pe_op op_catU (pe_fld (L2.pv 0) rfl) (pe_tupU (pa_cons (pe_tupU (pa_cons (pe_ifExp (pt_val (pe_callB call_isB (by rfl) (n_isinstance T) b_isinstance (pa_cons (L2.pv 1) (pa_cons (pe_ty (n_str T) b_str) pa_nil)))) (L2.pv 1) pe_non) (pa_cons (L2.pv 2) pa_nil))) pa_nil))) (po_some (pe_un un_neg pe_int)) po_none))
      (pss_one (ps_ret (L2.pv 2)))), ?_⟩
    obtain ⟨dx, fs, ls, h1, h2, h3, h4, h5, h6, h7⟩ := id hS.ex
    have ne : a ∉ [y] := fun m => sh_ne hS hY (List.mem_singleton.mp m)
    refine ⟨_, rfl, _, _, _, _, rfl, .base (.str _), kit_str_str, _, rfl, iteT ?_⟩
    refine ⟨_, rfl, a, dx, fs, rfl, h1, h3 _ (by decide) (by decide), _, rfl, a, y, Y, lv, c, n, ns, rfl, hS, hY, pk, hT, ok, F, fun H1 k1 t1 hY1 => ?_⟩
    obtain ⟨dx, fs, ls, h1, h2, h3, h4, h5, h6, h7⟩ := (hS.kt k1 ne).ex
    refine ⟨_, rfl, a, _, dx, fs, _, rfl, h1, cl, na_Shell_lines T, h5, _, rfl, _, _, _, _, rfl, .base (.str _), kit_str_str, _, rfl, iteT ?_⟩
    refine ⟨_, rfl, _, rfl, Nat.le_of_ble_eq_true rfl, fun v2 H2 k2 hv2 => ⟨Nat.le_of_ble_eq_true rfl, fun v3 H3 k3 hv3 => ?_⟩⟩
    refine ⟨ls, _, (h6.kp k2).kp k3, hv3, by show ls.length + 1 ≤ 1000; omega, fun v4 H4 k4 hv4 => ?_⟩
    refine ⟨_, rfl, _, rfl, _, hv4, fun v5 H5 k5 hv5 => ?_⟩
    have k15 := ((k2.trans k3).trans k4).trans k5
    refine ⟨_, rfl, a, _, dx, fs, rfl, k15.get h1, cl, na_Shell_lines T, by omega, fun H6 k6 e6 => ⟨_, rfl, ?_⟩⟩
    have hlen : (putF "lines" v5 fs).length ≤ 20 := by rw [len_put (fun z => nomatch (h5.symm.trans z))]; exact h2
    have t5 := t1.kp0 k15
    have insA : ∃ C dx fs, H5 a = some (.ins C dx fs) := ⟨_, _, _, k15.get h1⟩
    refine q H6 v5 ((k1.mono fun x hx => ?_).trans ((k15.nil.trans (k6.mono fun x hx => ?_)).kt)) (t5.kpY k6 insA) ((hY1.kp0 k15).kp k6 fun m => ne ?_) ⟨dx, _, _, e6, hlen, fun f n1 n2 => (lk_ne n2).trans (h3 f n1 n2), (lk_ne (by decide)).trans h4, lk_same, hv5.kp k6, cut_ten⟩
    · exact List.mem_cons.mpr (.inl (List.mem_singleton.mp hx))
    · exact List.mem_cons_of_mem _ hx
    · exact List.mem_singleton.mpr (List.mem_singleton.mp m).symm
theorem sc_call : FnScope ["self", "value"] ["self", "value"] (defScope s_Shell_call) := ⟨rfl, rfl, rfl, by decide +kernel, rfl, by decide +kernel, by decide +kernel⟩
theorem ok_Scall (T : TX w K mg) (hB : LamX.TabB base mg (He.codeOf K ("sum_at", none)) (tbP K)) : FnR PW w K mg base (L2.CX PW w) 15 (a_Shell_call K) (sp_exec K) :=
  fnrX (f_Shell_call T) sc_call (fun vs H Q E ⟨_, _, _, _, _, _, _, e, _⟩ => by rw [e]; rfl) (fun _ _ _ _ _ _ us hl => match us, hl with | [_, _], _ => rfl) fun cdv A outer s H vs Q E hr h => by
    obtain ⟨a, y, Y, lv, c, n, ns, rfl, hS, hY, pk, hT, ok, F, q⟩ := h
    have cl := cl_Shell T
    refine ⟨_, pss_one (ps_ret (pe_m (E := E) (L2.pv 0) cl (me_Shell_execute T) (ok_exec T hB) hr (pa_cons (L2.pv 1) pa_nil) psX)), ?_⟩
    obtain ⟨dx, fs, ls, h1, h2, h3, h4, h5, h6, h7⟩ := id hS.ex
    exact ⟨_, rfl, a, dx, fs, rfl, h1, h3 _ (by decide) (by decide), _, rfl, a, y, Y, lv, c, n, ns, rfl, hS, hY, pk, hT, ok, F, q⟩
theorem callO_Shell (T : TX w K mg) : StX.CallO K (He.ga K "Shell") (a_Shell_call K) := ⟨(me_Shell_call T).at_, (me_Shell_call T).fn, w_Shell_call T⟩
end
end TB
namespace TB
open PySem PySem.Spec PyProof.Rows L2
/-! ### the law's deck of draws -/
theorem ix_zero {n : Nat} (h : 0 < n) : ixN n 0 = some 0 := by
  unfold ixN
  rw [if_pos (by decide), if_pos (by omega)]
  rfl
structure Dk (H : Hp) (d b c : Addr) : Prop where
  ex : ∃ (bs cs : List Int) (i : Int), H d = some (.lst [.ref b, .ref c, .int i]) ∧ H b = some (.lst (bs.map V.int)) ∧ H c = some (.lst (cs.map V.int)) ∧ 1 ≤ cs.length ∧ cs.length ≤ 100 ∧ bs.length ≤ 100 ∧ b ≠ c ∧ d ≠ b ∧ d ≠ c
theorem Dk.kp {S : List Addr} {H H' : Hp} {d b c : Addr} (h : Dk H d b c) (k : Kp S H H') (hS : ∀ x ∈ S, ∃ C dx fs, H x = some (.ins C dx fs)) : Dk H' d b c := by
  obtain ⟨bs, cs, i, h1, h2, h3, r⟩ := h.ex
  have out : ∀ a xs, H a = some (.lst xs) → H' a = some (.lst xs) := fun a xs e => k.old a _ e fun m => by
    obtain ⟨C, dx, fs, z⟩ := hS a m
    rw [e] at z
    cases z
  exact ⟨bs, cs, i, out _ _ h1, out _ _ h2, out _ _ h3, r⟩
theorem Dk.kp0 {H H' : Hp} {d b c : Addr} (h : Dk H d b c) (k : Kp [] H H') : Dk H' d b c := h.kp k fun _ q => nomatch q
theorem Dk.kt {S : List Addr} {H H' : Hp} {d b c : Addr} (h : Dk H d b c) (k : KT S H H') (hS : ∀ x ∈ S, ∃ C dx fs, H x = some (.ins C dx fs)) : Dk H' d b c := by
  obtain ⟨bs, cs, i, h1, h2, h3, r⟩ := h.ex
  have out : ∀ a xs, H a = some (.lst xs) → H' a = some (.lst xs) := fun a xs e => k.old a _ e (fun m => by
    obtain ⟨C, dx, fs, z⟩ := hS a m
    rw [e] at z
    cases z) fun _ z => nomatch z
  exact ⟨bs, cs, i, out _ _ h1, out _ _ h2, out _ _ h3, r⟩
section
variable {P : Program} {w : World} {K : PySem.W.Frag} {mg : Str → Option Value} {base : Heap}
theorem sc_draw : FnScope ["_law_deck_here", "_law_many", "_law_rest", "_law_cell", "_law_mixed_here"] ["_law_deck_here", "_law_many"] (defScope s__law_draw) := ⟨rfl, rfl, rfl, by decide +kernel, rfl, by decide +kernel, by decide +kernel⟩
def sp_draw : Sp := fun vs H Q _ => ∃ (d b c : Addr) (m : Int), vs = [.ref d, .int m] ∧ Dk H d b c ∧ 1 ≤ m ∧ m ≤ 1000000000 ∧ ∀ r H', 0 ≤ r → r < m → Kp [d, b] H H' → Dk H' d b c → Q (.int r) H'
theorem ok_draw (T : TX w K mg) : FnR P w K mg base CX0 1 (a__law_draw K) sp_draw :=
  fnr0 (f__law_draw T) sc_draw (fun vs H Q E ⟨_, _, _, _, e, _⟩ => by rw [e]; rfl) (fun _ _ _ _ _ _ us hl => match us, hl with | [_, _], _ => rfl) fun cdv A outer s H vs Q E hr h => by
    obtain ⟨d, b, c, m, rfl, hD, m1, m2, q⟩ := h
    have nd := sc_draw.nd
    refine ⟨_, pss_cons (ps_if (pt_cmpR (op_neI hr.units) (pe_ix ix_listU (L2.pv 0) pe_int (fun _ _ => rfl)) (pe_lstU pa_nil) (nomark _))
        (pss_cons (ps_set (i := 2) nd rfl (Or.inl rfl) (pe_ix ix_listU (pe_ix ix_listU (L2.pv 0) pe_int (fun _ _ => rfl)) pe_int (fun _ _ => rfl)))
        (pss_cons (ps_asg (pe_op op_fdiv (L2.pv 2) (L2.pv 1)) (pg_sub (pe_ix ix_listU (L2.pv 0) pe_int (fun _ _ => rfl)) pe_int set_list))
        (pss_cons (ps_if (pt_cmpR op_eq (pe_ix ix_listU (pe_ix ix_listU (L2.pv 0) pe_int (fun _ _ => rfl)) pe_int (fun _ _ => rfl)) pe_int (nomark _))
          (pss_one (ps_expr (pe_bm PySem.F.plainAttrs_list PySem.F.slot_list_pop PySem.F.type_list_pop mt_popAt (pe_ix ix_listU (L2.pv 0) pe_int (fun _ _ => rfl)) (pa_cons pe_int pa_nil)))) pss_nil)
        (pss_one (ps_ret (pe_op op_mod (pe_callTy call_int1 (by rfl) (n_int T) b_int (pa_cons (L2.pv 2) pa_nil)) (L2.pv 1))))))) pss_nil)
      (pss_cons (ps_asg (pe_op op_add (pe_ix ix_listU (L2.pv 0) pe_int (fun _ _ => rfl)) pe_int) (pg_sub (L2.pv 0) pe_int set_list))
      (pss_cons (ps_set (i := 3) nd rfl (Or.inl rfl) (pe_ix ix_listU (pe_ix ix_listU (L2.pv 0) pe_int (fun _ _ => rfl)) (pe_op op_mod (pe_callTy call_int1 (by rfl) (n_int T) b_int (pa_cons (pe_ix ix_listU (L2.pv 0) pe_int (fun _ _ => rfl)) pa_nil)) (pe_callB call_lenU (by rfl) (n_len T) b_len (pa_cons (pe_ix ix_listU (L2.pv 0) pe_int (fun _ _ => rfl)) pa_nil))) (fun _ _ => rfl)))
      (pss_cons (ps_set (i := 4) nd rfl (Or.inl rfl) (pe_op op_mod (pe_callTy call_int1 (by rfl) (n_int T) b_int (pa_cons (pe_op op_add (pe_op op_mod (pe_callTy call_int1 (by rfl) (n_int T) b_int (pa_cons (L2.pv 3) pa_nil)) pe_int) (pe_op op_mul pe_int (pe_ix ix_listU (L2.pv 0) pe_int (fun _ _ => rfl)))) pa_nil)) pe_int))
      (pss_cons (ps_set (i := 4) nd rfl (Or.inl rfl) (pe_op op_mod (pe_callTy call_int1 (by rfl) (n_int T) b_int (pa_cons (pe_op op_add (pe_op op_mul (L2.pv 4) (L2.pv 4)) (pe_op op_mul pe_int (pe_ix ix_listU (L2.pv 0) pe_int (fun _ _ => rfl)))) pa_nil)) pe_int))
      (pss_one (ps_ret (pe_op op_mod (pe_op op_fdiv (pe_op op_mod (pe_callTy call_int1 (by rfl) (n_int T) b_int (pa_cons (pe_op op_mul (L2.pv 4) (L2.pv 4)) pa_nil)) pe_int) pe_int) (L2.pv 1)))))))), ?_⟩
    obtain ⟨bs, cs, i, h1, h2, h3, h4, h5, h6, h7, h8, h9⟩ := hD.ex
    refine ⟨_, rfl, _, _, _, ⟨d, rfl, h1⟩, rfl, atI_n 0 rfl rfl, Nat.le_of_ble_eq_true rfl, fun e H1 he k1 he1 => ?_⟩
    refine ⟨bs, [], ⟨b, rfl, k1.get h2⟩, ⟨e, rfl, he1⟩, _, rfl, ?_⟩
    cases bs with
    | nil =>
      rw [show (!decide (([] : List Int) = [])) = false by decide]
      refine iteF ?_
      have g1 := k1.get h1
      refine ⟨_, rfl, _, _, _, ⟨d, rfl, g1⟩, rfl, atI_n 2 rfl rfl, _, _, rfl, rfl, _, rfl, d, _, 2, 2, rfl, rfl, g1, rfl, ?_⟩
      have k2 : Kp [d, b] H (upd H1 d (.lst ([V.ref b, .ref c, .int i].set 2 (.int (i + 1))))) := k1.nil.trans (Kp.wr g1 (fun _ z => nomatch z) (List.mem_cons_self ..))
      have e1 : upd H1 d (.lst ([V.ref b, .ref c, .int i].set 2 (.int (i + 1)))) d = some (.lst [V.ref b, .ref c, .int (i + 1)]) := upd_same
      have e2 : upd H1 d (.lst ([V.ref b, .ref c, .int i].set 2 (.int (i + 1)))) b = some (.lst (([] : List Int).map V.int)) := (upd_ne (Ne.symm h8)).trans (k1.get h2)
      have e3 : upd H1 d (.lst ([V.ref b, .ref c, .int i].set 2 (.int (i + 1)))) c = some (.lst (cs.map V.int)) := (upd_ne (Ne.symm h9)).trans (k1.get h3)
      generalize upd H1 d (.lst ([V.ref b, .ref c, .int i].set 2 (.int (i + 1)))) = H2 at k2 e1 e2 e3
      have hj : ((i + 1) % (cs.length : Int)).toNat < cs.length := by
        have a := Int.emod_nonneg (i + 1) (b := (cs.length : Int)) (by omega)
        have b := Int.emod_lt_of_pos (i + 1) (show (0 : Int) < cs.length by omega)
        omega
      have hz : (i + 1) % (cs.length : Int) = (((i + 1) % (cs.length : Int)).toNat : Nat) := (Int.toNat_of_nonneg (Int.emod_nonneg _ (by omega))).symm
      obtain ⟨cell, hcell⟩ : ∃ z, cs[((i + 1) % (cs.length : Int)).toNat]? = some z := ⟨_, List.getElem?_eq_getElem hj⟩
      refine ⟨_, rfl, _, _, _, ⟨d, rfl, e1⟩, rfl, atI_n 1 rfl rfl, _, rfl, _, _, _, ⟨d, rfl, e1⟩, rfl, atI_n 2 rfl rfl, .inl ⟨_, rfl, ?_⟩⟩
      refine ⟨_, rfl, _, _, _, ⟨d, rfl, e1⟩, rfl, atI_n 1 rfl rfl, _, _, rfl, .inr ⟨c, rfl, e3⟩, _, _, rfl, rfl, (by rw [List.length_map]; omega), _, _, _, ⟨c, rfl, e3⟩, rfl, atI_n _ ?_ (by rw [List.getElem?_map, hcell]; rfl), ?_⟩
      · rw [List.length_map]; exact hz
      have pw : ((1 : Int) < 2 ^ 64) := by decide
      refine ⟨_, rfl, .inl ⟨_, rfl, _, _, rfl, rfl, (show (0 : Int) < 4294966477 by decide), _, rfl, _, _, _, ⟨d, rfl, e1⟩, rfl, atI_n 2 rfl rfl, _, _, rfl, rfl, .inl ⟨by decide, by decide⟩, _, _, rfl, rfl, .inl ⟨_, rfl, _, _, rfl, rfl, (show (0 : Int) < 4294966477 by decide), ?_⟩⟩⟩
      have a0 := Int.emod_nonneg (cell % 4294966477 + 1640531513 * (i + 1)) (b := 4294966477) (by decide)
      have a1 := Int.emod_lt_of_pos (cell % 4294966477 + 1640531513 * (i + 1)) (show (0 : Int) < 4294966477 by decide)
      generalize (cell % 4294966477 + 1640531513 * (i + 1)) % 4294966477 = u at a0 a1
      refine ⟨_, rfl, _, rfl, _, _, rfl, rfl, .inl ⟨by omega, by omega⟩, _, rfl, _, _, _, ⟨d, rfl, e1⟩, rfl, atI_n 2 rfl rfl, _, _, rfl, rfl, .inl ⟨by decide, by decide⟩, _, _, rfl, rfl, .inl ⟨_, rfl, _, _, rfl, rfl, (show (0 : Int) < 4294966427 by decide), ?_⟩⟩
      have b0 := Int.emod_nonneg (u * u + 86028121 * (i + 1)) (b := 4294966427) (by decide)
      have b1 := Int.emod_lt_of_pos (u * u + 86028121 * (i + 1)) (show (0 : Int) < 4294966427 by decide)
      generalize (u * u + 86028121 * (i + 1)) % 4294966427 = v at b0 b1
      refine ⟨_, rfl, _, rfl, _, _, rfl, rfl, .inl ⟨by omega, by omega⟩, .inl ⟨_, rfl, _, _, rfl, rfl, (show (0 : Int) < 4294966373 by decide), _, _, rfl, rfl, ⟨by decide, by decide⟩, _, rfl, _, _, rfl, rfl, by omega, ?_⟩⟩
      refine q _ _ (Int.emod_nonneg _ (by omega)) (Int.emod_lt_of_pos _ (by omega)) k2 ⟨[], cs, i + 1, e1, e2, e3, h4, h5, by decide, h7, h8, h9⟩
    | cons x bs =>
      rw [show (!decide ((x :: bs) = [])) = true by simp]
      refine iteT ?_
      refine ⟨_, rfl, _, _, _, ⟨d, rfl, k1.get h1⟩, rfl, atI_n 0 rfl rfl, _, _, _, ⟨b, rfl, k1.get h2⟩, rfl, atI_n 0 rfl rfl, ?_⟩
      refine ⟨_, rfl, _, rfl, _, _, rfl, rfl, ⟨by omega, by omega⟩, _, rfl, _, _, _, ⟨d, rfl, k1.get h1⟩, rfl, atI_n 0 rfl rfl, b, _, 0, 0, rfl, rfl, k1.get h2, ix_zero (by simp), ?_⟩
      have k2 : Kp [d, b] H (upd H1 b (.lst (((x :: bs).map V.int).set 0 (.int (x / m))))) := k1.nil.trans (Kp.wr (k1.get h2) (fun _ z => nomatch z) (List.mem_cons_of_mem _ (List.mem_cons_self ..)))
      have e1 : upd H1 b (.lst (((x :: bs).map V.int).set 0 (.int (x / m)))) d = some (.lst [V.ref b, .ref c, .int i]) := (upd_ne h8).trans (k1.get h1)
      have e2 : upd H1 b (.lst (((x :: bs).map V.int).set 0 (.int (x / m)))) b = some (.lst ((x / m :: bs).map V.int)) := upd_same
      have e3 : upd H1 b (.lst (((x :: bs).map V.int).set 0 (.int (x / m)))) c = some (.lst (cs.map V.int)) := (upd_ne (Ne.symm h7)).trans (k1.get h3)
      generalize upd H1 b (.lst (((x :: bs).map V.int).set 0 (.int (x / m)))) = H2 at k2 e1 e2 e3
      have r0 := Int.emod_nonneg x (b := m) (by omega)
      have r1 := Int.emod_lt_of_pos x (show 0 < m by omega)
      refine ⟨_, rfl, _, _, _, ⟨d, rfl, e1⟩, rfl, atI_n 0 rfl rfl, _, _, _, ⟨b, rfl, e2⟩, rfl, atI_n 0 rfl rfl, rfl, _, rfl, ?_⟩
      by_cases z : V.int (x / m) = V.int 0
      · rw [decide_eq_true z]
        refine iteT ⟨_, rfl, _, _, _, ⟨d, rfl, e1⟩, rfl, atI_n 0 rfl rfl, .inl ⟨rfl, _, SqL.of e2⟩, ?_⟩
        refine ⟨b, _, 0, 0, _, rfl, rfl, e2, by decide, by decide, (ixN_seq (ix_zero (by simp))).1, rfl, ?_⟩
        have k3 : Kp [d, b] H (upd H2 b (.lst (((x / m :: bs).map V.int).eraseIdx 0))) := k2.trans (Kp.wr e2 (fun _ z => nomatch z) (List.mem_cons_of_mem _ (List.mem_cons_self ..)))
        have f1 : upd H2 b (.lst (((x / m :: bs).map V.int).eraseIdx 0)) d = some (.lst [V.ref b, .ref c, .int i]) := (upd_ne h8).trans e1
        have f2 : upd H2 b (.lst (((x / m :: bs).map V.int).eraseIdx 0)) b = some (.lst (bs.map V.int)) := upd_same
        have f3 : upd H2 b (.lst (((x / m :: bs).map V.int).eraseIdx 0)) c = some (.lst (cs.map V.int)) := (upd_ne (Ne.symm h7)).trans e3
        exact ⟨_, rfl, .inl ⟨_, rfl, _, rfl, _, _, rfl, rfl, by omega, q _ _ r0 r1 k3 ⟨_, cs, i, f1, f2, f3, h4, h5, by have := h6; simp at this; omega, h7, h8, h9⟩⟩⟩
      · rw [decide_eq_false z]
        refine iteF ⟨_, rfl, .inl ⟨_, rfl, _, rfl, _, _, rfl, rfl, by omega, q _ _ r0 r1 k2 ⟨_, cs, i, e1, e2, e3, h4, h5, by simpa using h6, h7, h8, h9⟩⟩⟩
end
end TB
namespace TB
open PySem PySem.Spec PyProof.Rows L2
def absI (i : Int) : Int := if i < 0 then -i else i
def bigF (ns : List Int) : List Int := ns.filter fun i => decide ((10 : Int) ^ 18 ≤ i)
theorem bigF_len (ns : List Int) : (bigF ns).length ≤ ns.length := List.length_filter_le _ _
theorem cut_pre {xs : List V} (h : xs.length ≤ 63) : cutV xs none (some 63) = xs := by
  show (xs.drop 0).take ((if (63 : Int) < 0 then ((63 : Int) + (xs.length : Int)).toNat else min (63 : Int).toNat xs.length) - 0) = _
  rw [if_neg (by decide), List.drop_zero, Nat.sub_zero]
  show xs.take (min 63 xs.length) = xs
  rw [Nat.min_eq_right h, List.take_length]
section
variable {P : Program} {w : World} {K : PySem.W.Frag} {mg : Str → Option Value} {base : Heap}
theorem sc_deck : FnScope ["_law_script", "_law_cells", "_law_cell"] ["_law_script"] (defScope s__law_deck) := ⟨rfl, rfl, rfl, by decide +kernel, rfl, by decide +kernel, by decide +kernel⟩
def sp_deck (K : PySem.W.Frag) : Sp := fun vs H Q _ => ∃ (a : Addr) (ns : List Int), vs = [.ref a] ∧ SqL K H a (ns.map V.int) ∧ ns.length ≤ 63 ∧ ∀ d b c H', Kp [] H H' → Dk H' d b c → Q (.ref d) H'
theorem ok_deck (T : TX w K mg) : FnR P w K mg base CX0 1 (a__law_deck K) (sp_deck K) :=
  fnr0 (f__law_deck T) sc_deck (fun vs H Q E ⟨_, _, e, _⟩ => by rw [e]; rfl) (fun _ _ _ _ _ _ us hl => match us, hl with | [_], _ => rfl) fun cdv A outer s H vs Q E hr h => by
    obtain ⟨a, ns, rfl, hS, h63, q⟩ := h
    have nd := sc_deck.nd
    refine ⟨_, pss_cons (ps_setLc (i := 1) (own := [("_law_cell", 2)]) rfl nd rfl rfl (sw_true rfl rfl rfl (by decide +kernel)) (pi_list (pe_slice sl_list (L2.pv 0) po_none (po_some pe_int))) (blkOk_by (N := ["_law_script", "_law_cells", "_law_cell"]) (sc := defScope s__law_deck) (by decide +kernel))
          (fun _ _ _ _ _ => pg_name (i := 2) nd rfl (Or.inl rfl)) (fun _ _ _ _ _ => pts_nil) (fun _ _ _ _ _ => pe_callB call_abs (by rfl) (n_abs T) (show bootBuiltins "abs" = some (.builtin "abs") by decide +kernel) (pa_cons (L2.pv 2) pa_nil)))
      (pss_one (ps_ret (pe_lstU (pa_cons (pe_lc (own := [("_law_cell", 2)]) rfl nd (pi_list (L2.pv 1)) (blkOk_by (N := ["_law_script", "_law_cells", "_law_cell"]) (sc := defScope s__law_deck) (by decide +kernel))
          (fun _ _ _ _ _ => pg_name (i := 2) nd rfl (Or.inl rfl)) (fun _ _ _ _ _ => pts_one (pt_cmpR op_ge (L2.pv 2) (pe_op op_pow pe_int pe_int) (nomark _))) (fun _ _ _ _ _ => L2.pv 2))
        (pa_cons (pe_op op_cat (L2.pv 1) (pe_lstU (pa_cons (pe_op op_add pe_int (pe_callB call_lenU (by rfl) (n_len T) b_len (pa_cons (L2.pv 1) pa_nil))) pa_nil))) (pa_cons pe_int pa_nil)))))), ?_⟩
    have l63 : (ns.map V.int).length ≤ 63 := by rw [List.length_map]; exact h63
    refine ⟨_, rfl, _, rfl, a, _, rfl, hS, fun p hp => ?_⟩
    rw [cut_pre l63]
    have k1 : Kp [] H (upd H p (.lst (ns.map V.int))) := Kp.upd hp
    have e1 : upd H p (.lst (ns.map V.int)) p = some (.lst (ns.map V.int)) := upd_same
    generalize upd H p (.lst (ns.map V.int)) = H1 at k1 e1
    refine ⟨p, rfl, ⟨_, SqL.of e1⟩, fun c hc => ?_⟩
    refine lcP walk_list [] (fun i => ((ns.map absI).take i).map V.int) hc rfl (fun i H' pp => SqL.of (pp.1.get e1)) (fun i x G1 G2 hi pp yy => ?_) (fun H2 p2 => ?_)
    · obtain ⟨rfl, hx⟩ := yy
      obtain ⟨z, hz, rfl⟩ : ∃ z, ns[i]? = some z ∧ x = .int z := by
        rw [List.getElem?_map] at hx
        cases e : ns[i]? with
        | none => rw [e] at hx; cases hx
        | some n => rw [e] at hx; cases hx; exact ⟨n, rfl, rfl⟩
      refine ⟨rfl, tYesI ⟨_, rfl, _, rfl, ?_⟩⟩
      exact lcAdd hc pp.1 pp.2 (by simp only [List.length_map, List.length_take]; omega) (take_map (show (ns.map absI)[i]? = some (absI z) by rw [List.getElem?_map, hz]; rfl))
    · obtain ⟨k2, e2⟩ := p2
      have e2 : H2 c = some (.lst ((ns.map absI).map V.int)) := by
        rw [e2]
        show some (HO.lst (((ns.map absI).take (ns.map V.int).length).map V.int)) = _
        rw [List.length_map, List.take_of_length_le (by rw [List.length_map]; exact Nat.le_refl _)]
      have hl : (ns.map absI).length ≤ 63 := by rw [List.length_map]; exact h63
      generalize ns.map absI = ms at e2 hl
      have k02 := k1.trans k2
      refine ⟨_, rfl, c, rfl, ⟨_, SqL.of e2⟩, fun b hb => ?_⟩
      refine lcP walk_list [] (fun i => (bigF (ms.take i)).map V.int) hb rfl (fun i H' pp => SqL.of (pp.1.get e2)) (fun i x G1 G2 hi pp yy => ?_) (fun H3 p3 => ?_)
      · obtain ⟨rfl, hx⟩ := yy
        obtain ⟨z, hz, rfl⟩ : ∃ z, ms[i]? = some z ∧ x = .int z := by
          rw [List.getElem?_map] at hx
          cases e : ms[i]? with
          | none => rw [e] at hx; cases hx
          | some n => rw [e] at hx; cases hx; exact ⟨n, rfl, rfl⟩
        refine ⟨rfl, _, rfl, _, _, rfl, rfl, ⟨by decide, by decide, by decide +kernel⟩, _, _, rfl, rfl, _, rfl, ?_⟩
        have tk : bigF (ms.take (i + 1)) = bigF (ms.take i) ++ bigF [z] := by
          unfold bigF
          rw [take_succ' hz, List.filter_append]
        have bl : (bigF (ms.take i)).length ≤ i := Nat.le_trans (bigF_len _) (by rw [List.length_take]; omega)
        have hD2 : G2 b = some (.lst ((bigF (ms.take i)).map V.int)) := pp.2
        have i63 : i < 63 := by have := hi; rw [List.length_map] at this; omega
        by_cases c : (10 : Int) ^ 18 ≤ z
        · have tk2 : bigF (ms.take (i + 1)) = bigF (ms.take i) ++ [z] := by rw [tk]; unfold bigF; rw [List.filter_cons, if_pos (decide_eq_true c)]; rfl
          refine (if_pos (decide_eq_true c)).mpr ⟨_, rfl, lcAdd hb pp.1 hD2 (by rw [List.length_map]; omega) ?_⟩
          show (bigF (ms.take (i + 1))).map V.int = _
          rw [tk2, List.map_append]; rfl
        · have tk2 : bigF (ms.take (i + 1)) = bigF (ms.take i) := by rw [tk]; unfold bigF; rw [List.filter_cons, if_neg (by rw [decide_eq_false c]; decide)]; exact List.append_nil _
          refine (if_neg (by rw [decide_eq_false (show ¬ (10 : Int) ^ (18 : Int).toNat ≤ z from c)]; decide)).mpr ⟨pp.1, ?_⟩
          show G2 b = some (.lst ((bigF (ms.take (i + 1))).map V.int))
          rw [tk2]; exact hD2
      · obtain ⟨k3, e3⟩ := p3
        have e3 : H3 b = some (.lst ((bigF ms).map V.int)) := by
          rw [e3]
          show some (HO.lst ((bigF (ms.take (ms.map V.int).length)).map V.int)) = _
          rw [List.length_map, List.take_length]
        have b3 := k3.get e2
        refine ⟨_, rfl, _, rfl, _, _, rfl, .inr ⟨c, rfl, b3⟩, _, _, rfl, rfl, ?_⟩
        refine ⟨Nat.le_of_ble_eq_true rfl, fun r H4 hr0 k4 e4 => ?_⟩
        have c4 := k4.get b3
        have sz : 1000 ≤ sizeLine := by decide
        refine ⟨c, r, _, _, rfl, rfl, c4, e4, by simp only [List.length_map, List.length_cons, List.length_nil]; omega, fun cc hcc => ?_⟩
        have k5 : Kp [] H4 (upd H4 cc (.lst (ms.map V.int ++ [V.int (11228 + ((ms.map V.int).length : Nat))]))) := Kp.upd hcc
        have e5 : upd H4 cc (.lst (ms.map V.int ++ [V.int (11228 + ((ms.map V.int).length : Nat))])) cc = some (.lst ((ms ++ [((11228 + ((ms.map V.int).length : Nat)) : Int)]).map V.int)) := by rw [upd_same, List.map_append]; rfl
        have b4 : H4 b = some (.lst ((bigF ms).map V.int)) := k4.get e3
        have bc : b ≠ cc := fun e => by rw [e, hcc] at b4; cases b4
        generalize upd H4 cc (.lst (ms.map V.int ++ [V.int (11228 + ((ms.map V.int).length : Nat))])) = H5 at k5 e5
        have b5 := k5.get b4
        refine ⟨Nat.le_of_ble_eq_true rfl, fun d H6 hd0 k6 e6 => ?_⟩
        have bb := bigF_len ms
        refine q d b cc H6 ((((k02.trans k3).trans k4).trans k5).trans k6) ⟨bigF ms, _, 0, e6, k6.get b5, k6.get e5, by simp, by simp; omega, by omega, bc, (fun e => by rw [e, b5] at hd0; cases hd0), (fun e => by rw [e, e5] at hd0; cases hd0)⟩
end
end TB
namespace TB
open PySem PySem.Spec PyProof.Rows L2
section
variable {P : Program} {w : World} {K : PySem.W.Frag} {mg : Str → Option Value} {base : Heap}
theorem sc_lone : FnScope ["_law_deck_here", "_law_items"] ["_law_deck_here", "_law_items"] (defScope s__law_one) := ⟨rfl, rfl, rfl, by decide +kernel, rfl, by decide +kernel, by decide +kernel⟩
/-- one of a list's items, whichever -/
def sp_lone : Sp := fun vs H Q _ => ∃ (d b c a : Addr) (xs : List V), vs = [.ref d, .ref a] ∧ Dk H d b c ∧ H a = some (.lst xs) ∧ a ≠ d ∧ a ≠ b ∧ 1 ≤ xs.length ∧ xs.length ≤ 1000 ∧ ∀ x ∈ xs, ∀ H', Kp [d, b] H H' → Dk H' d b c → Q x H'
theorem ok_lone (T : TX w K mg) : FnR P w K mg base CX0 2 (a__law_one K) sp_lone :=
  fnr0 (f__law_one T) sc_lone (fun vs H Q E ⟨_, _, _, _, _, e, _⟩ => by rw [e]; rfl) (fun _ _ _ _ _ _ us hl => match us, hl with | [_, _], _ => rfl) fun cdv A outer s H vs Q E hr h => by
    obtain ⟨d, b, c, a, xs, rfl, hD, ha, n1, n2, l1, l2, q⟩ := h
    refine ⟨_, pss_one (ps_ret (pe_ix ix_listU (L2.pv 1) (pe_f (ok_draw T) (g__law_draw T) (kp__law_draw T) hr (pa_cons (L2.pv 0) (pa_cons (pe_callB call_lenU (by rfl) (n_len T) b_len (pa_cons (L2.pv 1) pa_nil)) pa_nil))) (fun _ _ => rfl))), ?_⟩
    refine ⟨_, rfl, _, rfl, _, rfl, _, _, rfl, .inr ⟨a, rfl, ha⟩, d, b, c, _, rfl, hD, by omega, by omega, fun r H' r0 r1 k hD' => ?_⟩
    have ha' : H' a = some (.lst xs) := k.old a _ ha (by simp [n1, n2])
    have hj : r.toNat < xs.length := by omega
    exact ⟨_, _, _, ⟨a, rfl, ha'⟩, rfl, atI_n r.toNat (by omega) (List.getElem?_eq_getElem hj), q _ (List.getElem_mem hj) H' k hD'⟩
theorem sc_ldiv : FnScope ["_law_one_here", "_law_other"] ["_law_one_here", "_law_other"] (defScope s__law_divisor) := ⟨rfl, rfl, rfl, by decide +kernel, rfl, by decide +kernel, by decide +kernel⟩
theorem ok_ldiv (T : TX w K mg) : FnR P w K mg base CX0 1 (a__law_divisor K) sp_common :=
  fnr0 (f__law_divisor T) sc_ldiv (fun vs H Q E ⟨_, _, e, _⟩ => by rw [e]; rfl) (fun _ _ _ _ _ _ us hl => match us, hl with | [_, _], _ => rfl) fun cdv A outer s H vs Q E hr h => by
    obtain ⟨a, b, rfl, ha, hb, q⟩ := h
    refine ⟨_, pss_cons (ps_while PassesOwn.never (pt_cmpR op_gt (L2.pv 1) pe_int (nomark _)) (pss_one (ps_par (i := 0) (j := 1) rfl sc_ldiv.nd rfl rfl (by decide) rfl rfl (pa_cons (L2.pv 1) (pa_cons (pe_op op_mod (L2.pv 0) (L2.pv 1)) pa_nil)) (by rfl)))) (pss_one (ps_ret (L2.pv 0))), ?_⟩
    refine ⟨fun m σ H' => ∃ x y : Int, σ = [some (.int x), some (.int y)] ∧ 0 ≤ x ∧ 0 ≤ y ∧ Int.gcd x y = Int.gcd a b ∧ H' = H ∧ m = y.toNat, ⟨_, a, b, rfl, ha, hb, rfl, rfl, rfl⟩, ?_⟩
    rintro m σ H' ⟨x, y, rfl, hx, hy, e, rfl, rfl⟩
    refine ⟨_, rfl, _, _, rfl, rfl, _, rfl, ?_⟩
    refine ite2 (fun c => ?_) fun c => ?_
    · have c : 0 < y := of_decide_eq_true c
      refine ⟨_, fun _ _ h => h, _, rfl, _, rfl, _, rfl, _, _, rfl, rfl, c, _, _, rfl, ?_⟩
      have h1 := Int.emod_nonneg x (show y ≠ 0 by omega)
      have h2 := Int.emod_lt_of_pos x c
      exact ⟨_, by omega, y, x % y, rfl, hy, h1, (gcd_step hx c).trans e, rfl, rfl⟩
    · have c : ¬ 0 < y := fun h => c (decide_eq_true h)
      obtain rfl : y = 0 := by omega
      refine ⟨_, rfl, ?_⟩
      show Q (.int x) H'
      unfold gI at q
      rw [← e, gcd_zero hx] at q
      exact q
theorem sc_llcm : FnScope ["_law_one_here", "_law_other"] ["_law_one_here", "_law_other"] (defScope s__law_lcm) := ⟨rfl, rfl, rfl, by decide +kernel, rfl, by decide +kernel, by decide +kernel⟩
def sp_llcm : Sp := fun vs H Q _ => ∃ a b : Int, vs = [.int a, .int b] ∧ 1 ≤ a ∧ a ≤ 64 ∧ 1 ≤ b ∧ b ≤ 64 ∧ ∀ r, 1 ≤ r → r ≤ a * b → Q (.int r) H
theorem ok_llcm (T : TX w K mg) : FnR P w K mg base CX0 2 (a__law_lcm K) sp_llcm :=
  fnr0 (f__law_lcm T) sc_llcm (fun vs H Q E ⟨_, _, e, _⟩ => by rw [e]; rfl) (fun _ _ _ _ _ _ us hl => match us, hl with | [_, _], _ => rfl) fun cdv A outer s H vs Q E hr h => by
    obtain ⟨a, b, rfl, a1, a2, b1, b2, q⟩ := h
    refine ⟨_, pss_one (ps_ret (pe_op op_fdiv (pe_op op_mul (L2.pv 0) (L2.pv 1)) (pe_f (ok_ldiv T) (g__law_divisor T) (kp__law_divisor T) hr (pa_cons (L2.pv 0) (pa_cons (L2.pv 1) pa_nil))))), ?_⟩
    have g0 := gI_pos (b := b) (show 0 < a by omega)
    have g1 := gI_le (b := b) (show 0 < a by omega)
    have m1 : a ≤ a * b := by have := Int.mul_le_mul_of_nonneg_left b1 (show 0 ≤ a by omega); omega
    refine ⟨_, rfl, _, rfl, _, _, rfl, rfl, .inl ⟨by omega, by omega⟩, _, rfl, _, rfl, a, b, rfl, by omega, by omega, _, _, rfl, rfl, ⟨g0, by omega⟩, q _ ?_ ?_⟩
    · have := Int.le_ediv_of_mul_le g0 (show 1 * gI a b ≤ a * b by omega)
      omega
    · exact Int.ediv_le_self _ (by omega)
end
end TB
namespace TB
open PySem PySem.Spec PyProof.Rows L2
/-! ### lists of drawn ints -/
def Bd (lo hi : Int) (ns : List Int) : Prop := ∀ x ∈ ns, lo ≤ x ∧ x ≤ hi
def PvD (d b c : Addr) (H1 : Hp) (D : Addr) (lo hi : Int) : Nat → Hp → Prop := fun i H' => Kp [d, b] H1 H' ∧ Dk H' d b c ∧ ∃ ns : List Int, H' D = some (.lst (ns.map V.int)) ∧ ns.length = i ∧ Bd lo hi ns
theorem Dk.ne {H : Hp} {d b c p : Addr} (h : Dk H d b c) (hp : H p = none) : p ≠ d ∧ p ≠ b ∧ p ≠ c := by
  obtain ⟨bs, cs, i, h1, h2, h3, _⟩ := h.ex
  exact ⟨(fun e => by rw [e, h1] at hp; cases hp), (fun e => by rw [e, h2] at hp; cases hp), (fun e => by rw [e, h3] at hp; cases hp)⟩
theorem Dk.put {H : Hp} {d b c p : Addr} {o : HO} (h : Dk H d b c) (n : p ≠ d ∧ p ≠ b ∧ p ≠ c) : Dk (upd H p o) d b c := by
  obtain ⟨bs, cs, i, h1, h2, h3, r⟩ := h.ex
  exact ⟨bs, cs, i, (upd_ne (Ne.symm n.1)).trans h1, (upd_ne (Ne.symm n.2.1)).trans h2, (upd_ne (Ne.symm n.2.2)).trans h3, r⟩
theorem PvD.start {d b c : Addr} {H1 : Hp} {D : Addr} {lo hi : Int} (h : Dk H1 d b c) (hD : H1 D = none) : PvD d b c H1 D lo hi 0 (upd H1 D (.lst [])) :=
  ⟨.upd hD, h.put (h.ne hD), [], upd_same, rfl, fun _ m => nomatch m⟩
theorem PvD.add {d b c : Addr} {H1 H3 H4 : Hp} {D : Addr} {lo hi : Int} {i : Nat} {y : Int} (h1 : Dk H1 d b c) (hD : H1 D = none) (p : PvD d b c H1 D lo hi i H3) (k : Kp [d, b] H3 H4) (hd : Dk H4 d b c) (hl : i < 900) (y1 : lo ≤ y) (y2 : y ≤ hi) :
    ∃ ac, H4 D = some (.lst ac) ∧ ac.length < sizeLine ∧ PvD d b c H1 D lo hi (i + 1) (upd H4 D (.lst (ac ++ [V.int y]))) := by
  obtain ⟨k1, _, ns, e, l, bd⟩ := p
  have n := h1.ne hD
  have e4 : H4 D = some (.lst (ns.map V.int)) := k.old D _ e (by simp [n.1, n.2.1])
  refine ⟨_, e4, small1000 (by rw [List.length_map]; omega), (k1.trans k).updn hD (fun xs z => by rw [e4] at z; cases z), hd.put n, ns ++ [y], by rw [upd_same, List.map_append]; rfl, by rw [List.length_append, l]; rfl, fun x hx => ?_⟩
  rcases List.mem_append.mp hx with hx | hx
  · exact bd x hx
  · rw [List.mem_singleton.mp hx]; exact ⟨y1, y2⟩
section
variable {P : Program} {w : World} {K : PySem.W.Frag} {mg : Str → Option Value} {base : Heap}
theorem sc_lsides : FnScope ["_law_deck_here", "_law_axes", "_law_most", "_law_axis"] ["_law_deck_here", "_law_axes", "_law_most"] (defScope s__law_sides) := ⟨rfl, rfl, rfl, by decide +kernel, rfl, by decide +kernel, by decide +kernel⟩
def sp_lsides : Sp := fun vs H Q _ => ∃ (d b c : Addr) (n : Nat) (m : Int), vs = [.ref d, .int (n : Nat), .int m] ∧ Dk H d b c ∧ n ≤ 4 ∧ 1 ≤ m ∧ m ≤ 64 ∧ ∀ v H' ns, Kp [d, b] H H' → Dk H' d b c → Ti H' v ns → ns.length = n → Bd 1 m ns → Q v H'
theorem ok_lsides (T : TX w K mg) : FnR P w K mg base CX0 2 (a__law_sides K) sp_lsides :=
  fnr0 (f__law_sides T) sc_lsides (fun vs H Q E ⟨_, _, _, _, _, e, _⟩ => by rw [e]; rfl) (fun _ _ _ _ _ _ us hl => match us, hl with | [_, _, _], _ => rfl) fun cdv A outer s H vs Q E hr h => by
    obtain ⟨d, b, c, n, m, rfl, hD, n4, m1, m2, q⟩ := h
    have nd := sc_lsides.nd
    refine ⟨_, pss_one (ps_ret (pe_callTy call_tupU (by rfl) (n_tuple T) b_tuple (pa_cons (pe_lc (own := [("_law_axis", 3)]) rfl nd (pi_range1 rfl (n_range T) (pa_cons (L2.pv 1) pa_nil)) (blkOk_by (N := ["_law_deck_here", "_law_axes", "_law_most", "_law_axis"]) (sc := defScope s__law_sides) (by decide +kernel))
          (fun _ _ _ _ _ => pg_name (i := 3) nd rfl (Or.inl rfl)) (fun _ _ _ _ _ => pts_nil)
          (fun _ _ _ _ _ => pe_op op_add pe_int (pe_f (ok_draw T) (g__law_draw T) (kp__law_draw T) hr (pa_cons (L2.pv 0) (pa_cons (L2.pv 2) pa_nil))))) pa_nil))), ?_⟩
    refine ⟨_, rfl, _, rfl, by omega, by omega, fun D hDn => ?_⟩
    rw [show ((n : Nat) : Int).toNat = n from Int.toNat_natCast n]
    refine lc_it walk_r0 (PvD d b c H D 1 m) (PvD.start hD hDn) (fun _ _ _ _ => trivial) (fun i x G1 G2 hi pp yy => ?_) (fun H3 p3 => ?_)
    · obtain ⟨rfl, rfl⟩ := yy
      refine ⟨rfl, tYesI ⟨_, rfl, _, rfl, d, b, c, m, rfl, pp.2.1, m1, by omega, fun r G3 r0 r1 k hd => ⟨_, _, rfl, rfl, ?_⟩⟩⟩
      exact PvD.add hD hDn pp k hd (by omega) (by omega) (by omega)
    · obtain ⟨k3, d3, ns, e3, l3, bd⟩ := p3
      exact ⟨_, _, rfl, ⟨D, rfl, e3⟩, fun v H4 k4 hv => q v H4 ns (k3.trans k4.nil) (d3.kp0 k4) hv l3 bd⟩
theorem sc_lpair : FnScope ["_law_deck_here", "_law_axes", "_law_most", "_law_one_here", "_law_other", "_law_at"] ["_law_deck_here", "_law_axes", "_law_most"] (defScope s__law_pair) := ⟨rfl, rfl, rfl, by decide +kernel, rfl, by decide +kernel, by decide +kernel⟩
def sp_lpair : Sp := fun vs H Q _ => ∃ (d b c : Addr) (n : Nat) (m : Int), vs = [.ref d, .int (n : Nat), .int m] ∧ Dk H d b c ∧ 1 ≤ n ∧ n ≤ 4 ∧ 1 ≤ m ∧ m ≤ 64 ∧ ∀ v H' one other, Kp [d, b] H H' → Dk H' d b c → TP2 H' v one other → one.length = n → other.length = n → Bd 1 m one → Bd 1 m other → Q v H'
theorem ok_lpair (T : TX w K mg) : FnR P w K mg base CX0 3 (a__law_pair K) sp_lpair :=
  fnr0 (f__law_pair T) sc_lpair (fun vs H Q E ⟨_, _, _, _, _, e, _⟩ => by rw [e]; rfl) (fun _ _ _ _ _ _ us hl => match us, hl with | [_, _, _], _ => rfl) fun cdv A outer s H vs Q E hr h => by
    obtain ⟨d, b, c, n, m, rfl, hD, n1, n4, m1, m2, q⟩ := h
    have nd := sc_lpair.nd
    refine ⟨_, pss_cons (ps_par (i := 3) (j := 4) rfl nd rfl rfl (by decide) rfl rfl (pa_cons (pe_f (ok_lsides T) (g__law_sides T) (kp__law_sides T) hr (pa_cons (L2.pv 0) (pa_cons (L2.pv 1) (pa_cons (L2.pv 2) pa_nil)))) (pa_cons (pe_f (ok_lsides T) (g__law_sides T) (kp__law_sides T) hr (pa_cons (L2.pv 0) (pa_cons (L2.pv 1) (pa_cons (L2.pv 2) pa_nil)))) pa_nil)) (by rfl))
      (pss_cons (ps_if (pt_cmpR op_eq (pe_f (ok_draw T) (g__law_draw T) (kp__law_draw T) hr (pa_cons (L2.pv 0) (pa_cons pe_int pa_nil))) pe_int (nomark _))
        (pss_cons (ps_set (i := 5) nd rfl (Or.inl rfl) (pe_f (ok_draw T) (g__law_draw T) (kp__law_draw T) hr (pa_cons (L2.pv 0) (pa_cons (L2.pv 1) pa_nil))))
        (pss_one (ps_set (i := 4) nd rfl (Or.inl rfl) (pe_op op_catU (pe_op op_catU (pe_slice sl_tupU (L2.pv 3) po_none (po_some (L2.pv 5))) (pe_tupU (pa_cons (pe_op op_add pe_int (pe_f (ok_draw T) (g__law_draw T) (kp__law_draw T) hr (pa_cons (L2.pv 0) (pa_cons (L2.pv 2) pa_nil)))) pa_nil))) (pe_slice sl_tupU (L2.pv 3) (po_some (pe_op op_add (L2.pv 5) pe_int)) po_none))))) pss_nil)
      (pss_one (ps_ret (pe_tupU (pa_cons (L2.pv 3) (pa_cons (L2.pv 4) pa_nil)))))), ?_⟩
    refine ⟨_, rfl, _, rfl, _, rfl, d, b, c, n, m, rfl, hD, n4, m1, m2, fun v1 H1 one k1 d1 t1 l1 b1 => ?_⟩
    refine ⟨_, rfl, _, rfl, _, rfl, d, b, c, n, m, rfl, d1, n4, m1, m2, fun v2 H2 other k2 d2 t2 l2 b2 => ⟨_, _, rfl, ?_⟩⟩
    have k02 := k1.trans k2
    have t1 := t1.kp k2
    refine ⟨_, rfl, d, b, c, 3, rfl, d2, by decide, by decide, fun r H3 r0 r1 k3 d3 => ⟨rfl, _, rfl, ?_⟩⟩
    have t1 := t1.kp k3
    have t2 := t2.kp k3
    have k03 := k02.trans k3
    by_cases z : V.int r = V.int 0
    · rw [decide_eq_true z]
      refine iteT ?_
      refine ⟨_, rfl, _, rfl, d, b, c, (n : Nat), rfl, d3, by omega, by omega, fun at_ H4 a0 a1 k4 d4 => ?_⟩
      obtain ⟨k, rfl⟩ : ∃ k : Nat, at_ = (k : Nat) := ⟨at_.toNat, (Int.toNat_of_nonneg a0).symm⟩
      have t1 := t1.kp k4
      have hl : (one.map V.int).length = n := by simp [l1]
      refine ⟨_, rfl, _, rfl, _, rfl, _, t1, fun w1 H5 k5 g1 => ?_⟩
      rw [cutV_take (by omega)] at g1
      refine ⟨_, rfl, _, rfl, d, b, c, m, rfl, d4.kp0 k5, m1, by omega, fun r2 H6 s0 s1 k6 d6 => ⟨_, _, rfl, rfl, Nat.le_of_ble_eq_true rfl, fun w2 H7 k7 g2 => ?_⟩⟩
      refine ⟨_, _, (g1.kp k6).kp k7, g2, by simp; omega, fun w3 H8 k8 g3 => ?_⟩
      have t1b := (((t1.kp k5).kp k6).kp k7).kp k8
      refine ⟨_, rfl, _, rfl, _, _, rfl, rfl, _, rfl, _, t1b, fun w4 H9 k9 g4 => ?_⟩
      rw [show ((k : Int) + 1) = ((k + 1 : Nat) : Int) by omega, cutV_drop (by omega)] at g4
      refine ⟨_, _, g3.kp k9, g4, by simp; omega, fun w5 H10 k10 g5 => ?_⟩
      rw [set_cut (by omega)] at g5
      have g5 : Ti H10 w5 (one.set k (1 + r2)) := by unfold Ti; rw [List.map_set]; exact g5
      have kk : Kp [d, b] H H10 := ((((((k03.trans k4).trans k5.nil).trans k6).trans k7.nil).trans k8.nil).trans k9.nil).trans k10.nil
      refine ⟨_, rfl, _, rfl, Nat.le_of_ble_eq_true rfl, fun v H11 k11 hv => ?_⟩
      refine q v H11 one (one.set k (1 + r2)) (kk.trans k11.nil) (((((d6.kp0 k7).kp0 k8).kp0 k9).kp0 k10).kp0 k11) ⟨v1, w5, hv, ((t1b.kp k9).kp k10).kp k11, g5.kp k11⟩ l1 (by rw [List.length_set]; exact l1) b1 fun x hx => ?_
      rcases List.mem_or_eq_of_mem_set hx with hx | rfl
      · exact b1 x hx
      · exact ⟨by omega, by omega⟩
    · rw [decide_eq_false z]
      refine iteF ⟨_, rfl, _, rfl, Nat.le_of_ble_eq_true rfl, fun v H4 k4 hv => ?_⟩
      exact q v H4 one other (k03.trans k4.nil) (d3.kp0 k4) ⟨v1, v2, hv, t1.kp k4, t2.kp k4⟩ l1 l2 b1 b2
end
end TB
namespace TB
open PySem PySem.Spec PyProof.Rows L2
/-- list(t) of a tuple -/
def rListU : List V → Hp → VK → Prop := fun xs H Q => ∃ v ys, xs = [v] ∧ (Tu H v ys ∨ Ls H v ys) ∧ ∀ p H', H p = none → Kp [] H H' → H' p = some (.lst ys) → Q (.ref p) H'
theorem call_listU {X : Cx} : CallR X (.type "list") rListU := CallR.imp call_list_of fun xs H Q ⟨v, ys, e, h, q⟩ => by
  rcases h with ⟨p, rfl, h⟩ | ⟨p, rfl, h⟩
  · exact ⟨p, ys, e, .inr (SqT.of h), fun l hl => q l _ hl (.upd hl) upd_same⟩
  · exact ⟨p, ys, e, .inl (SqL.of h), fun l hl => q l _ hl (.upd hl) upd_same⟩
section
variable {P : Program} {w : World} {K : PySem.W.Frag} {mg : Str → Option Value} {base : Heap}
theorem sc_lplain : FnScope ["_law_deck_here", "_law_pair_here", "_law_many", "_law_brick", "_law_side"] ["_law_deck_here", "_law_pair_here", "_law_many"] (defScope s__law_plain_box) := ⟨rfl, rfl, rfl, by decide +kernel, rfl, by decide +kernel, by decide +kernel⟩
/-- a box for a pair: n sides within 1..64 -/
def BoxPost (d b c : Addr) (H : Hp) (n : Nat) (Q : VK) : Prop := ∀ v H' ns, Kp [d, b] H H' → Dk H' d b c → Ti H' v ns → ns.length = n → Bd 1 64 ns → Q v H'
def sp_lbox : Sp := fun vs H Q _ => ∃ (d b c : Addr) (u : V) (n : Nat) (one other : List Int), vs = [.ref d, u, .int 4] ∧ Dk H d b c ∧ TP2 H u one other ∧ one.length = n ∧ other.length = n ∧ 1 ≤ n ∧ n ≤ 4 ∧ Bd 1 6 one ∧ Bd 1 6 other ∧ BoxPost d b c H n Q
theorem ok_lplain (T : TX w K mg) : FnR P w K mg base CX0 3 (a__law_plain_box K) sp_lbox :=
  fnr0 (f__law_plain_box T) sc_lplain (fun vs H Q E ⟨_, _, _, _, _, _, _, e, _⟩ => by rw [e]; rfl) (fun _ _ _ _ _ _ us hl => match us, hl with | [_, _, _], _ => rfl) fun cdv A outer s H vs Q E hr h => by
    obtain ⟨d, b, c, u, n, one, other, rfl, hD, ⟨x, y, hu, hx, hy⟩, l1, l2, n1, n4, b1, b2, q⟩ := h
    have nd := sc_lplain.nd
    refine ⟨_, pss_cons (ps_set (i := 3) nd rfl (Or.inl rfl) (pe_f (ok_lone T) (g__law_one T) (kp__law_one T) hr (pa_cons (L2.pv 0) (pa_cons (pe_callTy call_listU (by rfl) (n_list T) (show bootBuiltins "list" = some (.type "list") by decide +kernel) (pa_cons (L2.pv 1) pa_nil)) pa_nil))))
      (pss_one (ps_ret (pe_callTy call_tupU (by rfl) (n_tuple T) b_tuple (pa_cons (pe_lc (own := [("_law_side", 4)]) rfl nd (pi_tup (L2.pv 3)) (blkOk_by (N := ["_law_deck_here", "_law_pair_here", "_law_many", "_law_brick", "_law_side"]) (sc := defScope s__law_plain_box) (by decide +kernel))
          (fun _ _ _ _ _ => pg_name (i := 4) nd rfl (Or.inl rfl)) (fun _ _ _ _ _ => pts_nil)
          (fun _ _ _ _ _ => pe_op op_mul (L2.pv 4) (pe_op op_add pe_int (pe_f (ok_draw T) (g__law_draw T) (kp__law_draw T) hr (pa_cons (L2.pv 0) (pa_cons (L2.pv 2) pa_nil)))))) pa_nil)))), ?_⟩
    refine ⟨_, rfl, _, rfl, _, _, rfl, .inl hu, fun p H1 hp k1 e1 => ?_⟩
    have n1' := hD.ne hp
    refine ⟨d, b, c, p, _, rfl, hD.kp0 k1, e1, n1'.1, n1'.2.1, Nat.le_of_ble_eq_true rfl, Nat.le_of_ble_eq_true rfl, fun z hz H2 k2 d2 => ?_⟩
    have k02 := k1.nil.trans k2
    obtain ⟨ns, hz', lz, bz⟩ : ∃ ns, Ti H2 z ns ∧ ns.length = n ∧ Bd 1 6 ns := by
      rcases List.mem_cons.mp hz with rfl | hz
      · exact ⟨one, (hx.kp k1).kp k2, l1, b1⟩
      · rw [List.mem_singleton.mp hz]; exact ⟨other, (hy.kp k1).kp k2, l2, b2⟩
    obtain ⟨za, rfl, ha⟩ := id hz'
    refine ⟨_, rfl, za, rfl, ⟨_, SqT.of ha⟩, fun D hDn => ?_⟩
    refine lc_it walk_tup (PvD d b c H2 D 1 64) (PvD.start d2 hDn) (fun i H' hi p => SqT.of (p.1.tup za _ ha)) (fun i x G1 G2 hi pp yy => ?_) (fun H3 p3 => ?_)
    · obtain ⟨rfl, hx⟩ := yy
      obtain ⟨t, ht, rfl⟩ : ∃ t, ns[i]? = some t ∧ x = .int t := by
        rw [List.getElem?_map] at hx
        cases e : ns[i]? with
        | none => rw [e] at hx; cases hx
        | some n => rw [e] at hx; cases hx; exact ⟨n, rfl, rfl⟩
      obtain ⟨t1, t2⟩ := bz t (List.mem_of_getElem? ht)
      have hi4 : i < 4 := by rw [List.length_map] at hi; omega
      refine ⟨rfl, tYesI ⟨_, rfl, _, rfl, _, rfl, d, b, c, 4, rfl, pp.2.1, by decide, by decide, fun r G3 r0 r1 k hd => ⟨_, _, rfl, rfl, _, _, rfl, rfl, .inl ⟨by omega, by omega⟩, ?_⟩⟩⟩
      have m1 : 1 * 1 ≤ t * (1 + r) := Int.mul_le_mul t1 (by omega) (by decide) (by omega)
      have m2 : t * (1 + r) ≤ 6 * 4 := Int.mul_le_mul t2 (by omega) (by omega) (by decide)
      exact PvD.add d2 hDn pp k hd (by omega) (by omega) (by omega)
    · obtain ⟨k3, d3, ms, e3, l3, bd⟩ := p3
      rw [List.length_map] at l3
      exact ⟨_, _, rfl, ⟨D, rfl, e3⟩, fun v H4 k4 hv => q v H4 ms ((k02.trans k3).trans k4.nil) (d3.kp0 k4) hv (l3.trans lz) bd⟩
end
end TB
namespace TB
open PySem PySem.Spec PyProof.Rows L2
section
variable {P : Program} {w : World} {K : PySem.W.Frag} {mg : Str → Option Value} {base : Heap}
theorem sc_lcut : FnScope ["_law_deck_here", "_law_pair_here", "_law_many", "_law_axis", "_law_found", "_law_k"] ["_law_deck_here", "_law_pair_here", "_law_many"] (defScope s__law_cut_box) := ⟨rfl, rfl, rfl, by decide +kernel, rfl, by decide +kernel, by decide +kernel⟩
theorem ok_lcut (T : TX w K mg) : FnR P w K mg base CX0 3 (a__law_cut_box K) sp_lbox :=
  fnr0 (f__law_cut_box T) sc_lcut (fun vs H Q E ⟨_, _, _, _, _, _, _, e, _⟩ => by rw [e]; rfl) (fun _ _ _ _ _ _ us hl => match us, hl with | [_, _, _], _ => rfl) fun cdv A outer s H vs Q E hr h => by
    obtain ⟨d, b, c, u, n, one, other, rfl, hD, ⟨x, y, hu, hx, hy⟩, l1, l2, n1, n4, b1, b2, q⟩ := h
    have nd := sc_lcut.nd
    refine ⟨_, pss_cons (ps_par (i := 3) (j := 4) rfl nd rfl rfl (by decide) rfl rfl (pa_cons (pe_f (ok_draw T) (g__law_draw T) (kp__law_draw T) hr (pa_cons (L2.pv 0) (pa_cons (pe_callB call_lenU (by rfl) (n_len T) b_len (pa_cons (pe_ix ix_tupU (L2.pv 1) pe_int (fun _ _ => rfl)) pa_nil)) pa_nil))) (pa_cons (pe_lstU pa_nil) pa_nil)) (by rfl))
      (pss_cons (ps_for PassesOwn.never rfl (pi_range1 rfl (n_range T) (pa_cons (pe_callB call_lenU (by rfl) (n_len T) b_len (pa_cons (pe_ix ix_tupU (L2.pv 1) pe_int (fun _ _ => rfl)) pa_nil)) pa_nil)) (pg_name (i := 5) nd rfl (Or.inl rfl))
        (pss_one (ps_expr (pe_bm PySem.F.plainAttrs_list PySem.F.slot_list_append PySem.F.type_list_append mt_append (L2.pv 4) (pa_cons (pe_f (ok_llcm T) (g__law_lcm T) (kp__law_lcm T) hr (pa_cons (pe_ix ix_tupU (pe_ix ix_tupU (L2.pv 1) pe_int (fun _ _ => rfl)) (L2.pv 5) (fun _ _ => rfl)) (pa_cons (pe_ix ix_tupU (pe_ix ix_tupU (L2.pv 1) pe_int (fun _ _ => rfl)) (L2.pv 5) (fun _ _ => rfl)) pa_nil))) pa_nil)))))
      (pss_cons (ps_asg (pe_op op_add (pe_op op_mul (pe_ix ix_tupU (pe_ix ix_tupU (L2.pv 1) pe_int (fun _ _ => rfl)) (L2.pv 3) (fun _ _ => rfl)) (pe_f (ok_draw T) (g__law_draw T) (kp__law_draw T) hr (pa_cons (L2.pv 0) (pa_cons (L2.pv 2) pa_nil)))) (pe_op op_mul (pe_ix ix_tupU (pe_ix ix_tupU (L2.pv 1) pe_int (fun _ _ => rfl)) (L2.pv 3) (fun _ _ => rfl)) (pe_op op_add pe_int (pe_f (ok_draw T) (g__law_draw T) (kp__law_draw T) hr (pa_cons (L2.pv 0) (pa_cons (L2.pv 2) pa_nil)))))) (pg_sub (L2.pv 4) (L2.pv 3) set_list))
      (pss_one (ps_ret (pe_callTy call_tupU (by rfl) (n_tuple T) b_tuple (pa_cons (L2.pv 4) pa_nil)))))), ?_⟩
    have hl : (one.map V.int).length = n := by simp [l1]
    refine ⟨_, rfl, _, rfl, _, _, _, hu, rfl, atI_n 0 rfl rfl, _, _, rfl, .inl hx, d, b, c, _, rfl, hD, by omega, by omega, fun r H1 r0 r1 k1 d1 => ⟨Nat.le_of_ble_eq_true rfl, fun p H2 hp k2 e2 => ⟨_, _, rfl, ?_⟩⟩⟩
    rw [hl] at r1
    have k02 := k1.trans k2.nil
    have np := d1.ne hp
    have hp0 : H p = none := by
      cases e : H p with
      | none => rfl
      | some o =>
        have z := k1.old p o e (by simp [np.1, np.2.1])
        rw [hp] at z
        cases z
    have hu2 := hu.kp k02
    have hx2 := hx.kp k02
    have hy2 := hy.kp k02
    refine ⟨_, rfl, _, _, _, hu2, rfl, atI_n 0 rfl rfl, _, _, rfl, .inl hx2, _, rfl, by omega, by omega, ?_⟩
    rw [hl, show ((n : Nat) : Int).toNat = n from Int.toNat_natCast n]
    refine for_P walk_r0 (fun i σ H' => (∃ t, σ = [some (.ref d), some u, some (.int 4), some (.int r), some (.ref p), t]) ∧ Kp [d, b] H H' ∧ Dk H' d b c ∧ ∃ ns : List Int, H' p = some (.lst (ns.map V.int)) ∧ ns.length = i ∧ Bd 1 64 ns) ⟨⟨_, rfl⟩, k02, d1.kp0 k2, [], e2, rfl, fun _ m => nomatch m⟩ (fun _ _ _ _ _ => trivial) (fun i z σ G1 G2 hi pp yy => ?_) (fun σ H3 p3 => ?_)
    · obtain ⟨rfl, rfl⟩ := yy
      obtain ⟨⟨t, rfl⟩, kG, dG, ns, eG, lG, bG⟩ := pp
      have hi1 : i < one.length := by omega
      have hi2 : i < other.length := by omega
      obtain ⟨a1, a2⟩ := b1 _ (List.getElem_mem hi1)
      obtain ⟨c1, c2⟩ := b2 _ (List.getElem_mem hi2)
      have g1 : (one.map V.int)[i]? = some (V.int one[i]) := by rw [List.getElem?_map, List.getElem?_eq_getElem hi1]; rfl
      have g2 : (other.map V.int)[i]? = some (V.int other[i]) := by rw [List.getElem?_map, List.getElem?_eq_getElem hi2]; rfl
      refine ⟨_, rfl, .inl ⟨rfl, _, SqL.of eG⟩, ?_⟩
      refine ⟨_, rfl, _, _, _, hu.kp kG, rfl, atI_n 0 rfl rfl, _, rfl, _, _, _, hx.kp kG, rfl, atI_n i rfl g1, ?_⟩
      refine ⟨_, rfl, _, _, _, hu.kp kG, rfl, atI_n 1 rfl rfl, _, rfl, _, _, _, hy.kp kG, rfl, atI_n i rfl g2, ?_⟩
      refine ⟨_, _, rfl, a1, by omega, c1, by omega, fun r s0 s1 => ?_⟩
      have sz : 1000 ≤ sizeLine := by decide
      have m2 : one[i] * other[i] ≤ 6 * 6 := Int.mul_le_mul a2 c2 (by omega) (by decide)
      refine ⟨p, _, _, rfl, rfl, eG, by rw [List.length_map]; omega, ⟨_, rfl⟩, ?_, dG.put np, ns ++ [r], ?_, ?_, ?_⟩
      · exact kG.updn hp0 (fun xs z => by rw [eG] at z; cases z)
      · rw [upd_same, List.map_append]; rfl
      · rw [List.length_append, lG]; rfl
      · intro x hx
        rcases List.mem_append.mp hx with hx | hx
        · exact bG x hx
        · rw [List.mem_singleton.mp hx]; exact ⟨s0, by omega⟩
    · obtain ⟨⟨t, rfl⟩, k3, d3, ns, e3, l3, bd3⟩ := p3
      obtain ⟨j, rfl⟩ : ∃ j : Nat, r = (j : Nat) := ⟨r.toNat, (Int.toNat_of_nonneg r0).symm⟩
      have hi1 : j < one.length := by omega
      have hi2 : j < other.length := by omega
      obtain ⟨a1, a2⟩ := b1 _ (List.getElem_mem hi1)
      obtain ⟨c1, c2⟩ := b2 _ (List.getElem_mem hi2)
      have g1 : (one.map V.int)[j]? = some (V.int one[j]) := by rw [List.getElem?_map, List.getElem?_eq_getElem hi1]; rfl
      have g2 : (other.map V.int)[j]? = some (V.int other[j]) := by rw [List.getElem?_map, List.getElem?_eq_getElem hi2]; rfl
      have npS : p ∉ [d, b] := by simp [np.1, np.2.1]
      refine ⟨_, rfl, _, _, _, hu.kp k3, rfl, atI_n 0 rfl rfl, _, rfl, _, _, _, hx.kp k3, rfl, atI_n j rfl g1, _, rfl, _, rfl, d, b, c, 4, rfl, d3, by decide, by decide, fun s H4 s0 s1 k4 d4 => ⟨_, _, rfl, rfl, .inl ⟨by omega, by omega⟩, ?_⟩⟩
      have k04 := k3.trans k4
      refine ⟨_, rfl, _, _, _, hu.kp k04, rfl, atI_n 1 rfl rfl, _, rfl, _, _, _, hy.kp k04, rfl, atI_n j rfl g2, _, rfl, _, rfl, d, b, c, 4, rfl, d4, by decide, by decide, fun s' H5 s0' s1' k5 d5 => ⟨_, _, rfl, rfl, _, _, rfl, rfl, .inl ⟨by omega, by omega⟩, _, _, rfl, rfl, ?_⟩⟩
      have e5 : H5 p = some (.lst (ns.map V.int)) := k5.old p _ (k4.old p _ e3 npS) npS
      have hix : ixN (ns.map V.int).length (j : Int) = some j := by
        unfold ixN
        rw [if_pos (by omega), if_pos (by rw [List.length_map]; omega), Int.toNat_natCast]
      refine ⟨_, rfl, _, rfl, p, _, _, j, rfl, rfl, e5, hix, ?_⟩
      have m0 : 0 ≤ one[j] * s := Int.mul_nonneg (by omega) s0
      have m1 : one[j] * s ≤ 6 * 3 := Int.mul_le_mul a2 (by omega) s0 (by decide)
      have m2 : 1 * 1 ≤ other[j] * (1 + s') := Int.mul_le_mul c1 (by omega) (by decide) (by omega)
      have m3 : other[j] * (1 + s') ≤ 6 * 4 := Int.mul_le_mul c2 (by omega) (by omega) (by decide)
      refine ⟨_, rfl, _, _, rfl, ⟨p, rfl, upd_same⟩, fun v H6 k6 hv => ?_⟩
      refine q v H6 (ns.set j (one[j] * s + other[j] * (1 + s'))) ((((k04.trans k5).updn hp0 (fun xs z => by rw [e5] at z; cases z))).trans k6.nil) ((d5.put np).kp0 k6) (by unfold Ti; rw [List.map_set]; exact hv) (by rw [List.length_set]; exact l3) fun x hx => ?_
      rcases List.mem_or_eq_of_mem_set hx with hx | rfl
      · exact bd3 x hx
      · exact ⟨by omega, by omega⟩
end
end TB
namespace TB
open PySem PySem.Spec PyProof.Rows L2
theorem Bd.mono {lo hi hi' : Int} {ns : List Int} (h : Bd lo hi ns) (l : hi ≤ hi') : Bd lo hi' ns := fun x hx => ⟨(h x hx).1, Int.le_trans (h x hx).2 l⟩
section
variable {P : Program} {w : World} {K : PySem.W.Frag} {mg : Str → Option Value} {base : Heap}
theorem sc_lsays : FnScope ["_law_deck_here", "_law_pair_here"] ["_law_deck_here", "_law_pair_here"] (defScope s__law_says) := ⟨rfl, rfl, rfl, by decide +kernel, rfl, by decide +kernel, by decide +kernel⟩
def sp_lsays : Sp := fun vs H Q _ => ∃ (d b c : Addr) (u : V) (n : Nat) (one other : List Int), vs = [.ref d, u] ∧ Dk H d b c ∧ TP2 H u one other ∧ one.length = n ∧ other.length = n ∧ 1 ≤ n ∧ n ≤ 4 ∧ Bd 1 6 one ∧ Bd 1 6 other ∧ BoxPost d b c H n Q
theorem ok_lsays (T : TX w K mg) : FnR P w K mg base CX0 4 (a__law_says K) sp_lsays :=
  fnr0 (f__law_says T) sc_lsays (fun vs H Q E ⟨_, _, _, _, _, _, _, e, _⟩ => by rw [e]; rfl) (fun _ _ _ _ _ _ us hl => match us, hl with | [_, _], _ => rfl) fun cdv A outer s H vs Q E hr h => by
    obtain ⟨d, b, c, u, n, one, other, rfl, hD, hu, l1, l2, n1, n4, b1, b2, q⟩ := h
    refine ⟨_, pss_one (ps_ret (pe_f (ok_lone T) (g__law_one T) (kp__law_one T) hr (pa_cons (L2.pv 0) (pa_cons (pe_lstU (pa_cons (pe_f (ok_lcut T) (g__law_cut_box T) (kp__law_cut_box T) hr (pa_cons (L2.pv 0) (pa_cons (L2.pv 1) (pa_cons pe_int pa_nil))))
      (pa_cons (pe_f (ok_lplain T) (g__law_plain_box T) (kp__law_plain_box T) hr (pa_cons (L2.pv 0) (pa_cons (L2.pv 1) (pa_cons pe_int pa_nil))))
      (pa_cons (pe_f (ok_lsides T) (g__law_sides T) (kp__law_sides T) hr (pa_cons (L2.pv 0) (pa_cons (pe_callB call_lenU (by rfl) (n_len T) b_len (pa_cons (pe_ix ix_tupU (L2.pv 1) pe_int (fun _ _ => rfl)) pa_nil)) (pa_cons pe_int pa_nil)))) pa_nil)))) pa_nil)))), ?_⟩
    refine ⟨_, rfl, _, rfl, _, rfl, d, b, c, u, n, one, other, rfl, hD, hu, l1, l2, n1, n4, b1, b2, fun v1 H1 ns1 k1 d1 t1 m1 bd1 => ?_⟩
    refine ⟨_, rfl, _, rfl, d, b, c, u, n, one, other, rfl, d1, hu.kp k1, l1, l2, n1, n4, b1, b2, fun v2 H2 ns2 k2 d2 t2 m2 bd2 => ?_⟩
    have k02 := k1.trans k2
    obtain ⟨x, y, hu2, hx, hy⟩ := hu.kp k02
    refine ⟨_, rfl, _, rfl, _, _, _, hu2, rfl, atI_n 0 rfl rfl, _, _, rfl, .inl hx, d, b, c, n, 12, by rw [List.length_map, l1], d2, n4, by decide, by decide, fun v3 H3 ns3 k3 d3 t3 m3 bd3 => ?_⟩
    refine ⟨Nat.le_of_ble_eq_true rfl, fun p H4 hp k4 e4 => ?_⟩
    have np := d3.ne hp
    have k04 := (k02.trans k3).trans k4.nil
    refine ⟨d, b, c, p, _, rfl, d3.kp0 k4, e4, np.1, np.2.1, Nat.le_of_ble_eq_true rfl, Nat.le_of_ble_eq_true rfl, fun z hz H5 k5 d5 => ?_⟩
    have k05 := k04.trans k5
    rcases List.mem_cons.mp hz with rfl | hz
    · exact q _ H5 ns1 k05 d5 ((((t1.kp k2).kp k3).kp k4).kp k5) m1 bd1
    rcases List.mem_cons.mp hz with rfl | hz
    · exact q _ H5 ns2 k05 d5 (((t2.kp k3).kp k4).kp k5) m2 bd2
    · rw [List.mem_singleton.mp hz]
      exact q _ H5 ns3 k05 d5 ((t3.kp k4).kp k5) m3 (bd3.mono (by decide))
theorem sc_lstart : FnScope ["_law_deck_here", "_law_axes", "_law_pair_here"] ["_law_deck_here"] (defScope s__law_start) := ⟨rfl, rfl, rfl, by decide +kernel, rfl, by decide +kernel, by decide +kernel⟩
def sp_lstart : Sp := fun vs H Q _ => ∃ d b c, vs = [.ref d] ∧ Dk H d b c ∧ ∀ v H' u bx n one other box, Kp [d, b] H H' → Dk H' d b c → Tu H' v [u, bx] → TP2 H' u one other → Ti H' bx box → 1 ≤ n → n ≤ 4 → one.length = n → other.length = n → box.length = n → Bd 1 6 one → Bd 1 6 other → Bd 1 64 box → Q v H'
theorem ok_lstart (T : TX w K mg) : FnR P w K mg base CX0 5 (a__law_start K) sp_lstart :=
  fnr0 (f__law_start T) sc_lstart (fun vs H Q E ⟨_, _, _, e, _⟩ => by rw [e]; rfl) (fun _ _ _ _ _ _ us hl => match us, hl with | [_], _ => rfl) fun cdv A outer s H vs Q E hr h => by
    obtain ⟨d, b, c, rfl, hD, q⟩ := h
    have nd := sc_lstart.nd
    refine ⟨_, pss_cons (ps_set (i := 1) nd rfl (Or.inl rfl) (pe_op op_add pe_int (pe_f (ok_draw T) (g__law_draw T) (kp__law_draw T) hr (pa_cons (L2.pv 0) (pa_cons pe_int pa_nil)))))
      (pss_cons (ps_set (i := 2) nd rfl (Or.inl rfl) (pe_f (ok_lpair T) (g__law_pair T) (kp__law_pair T) hr (pa_cons (L2.pv 0) (pa_cons (L2.pv 1) (pa_cons pe_int pa_nil)))))
      (pss_one (ps_ret (pe_tupU (pa_cons (L2.pv 2) (pa_cons (pe_f (ok_lsays T) (g__law_says T) (kp__law_says T) hr (pa_cons (L2.pv 0) (pa_cons (L2.pv 2) pa_nil))) pa_nil)))))), ?_⟩
    refine ⟨_, rfl, d, b, c, 4, rfl, hD, by decide, by decide, fun r H1 r0 r1 k1 d1 => ⟨_, _, rfl, rfl, ?_⟩⟩
    obtain ⟨n, hn⟩ : ∃ n : Nat, 1 + r = (n : Nat) := ⟨(1 + r).toNat, (Int.toNat_of_nonneg (by omega)).symm⟩
    dsimp only
    rw [hn]
    refine ⟨_, rfl, _, rfl, d, b, c, n, 6, rfl, d1, by omega, by omega, by decide, by decide, fun u H2 one other k2 d2 t2 l1 l2 b1 b2 => ?_⟩
    refine ⟨_, rfl, _, rfl, _, rfl, d, b, c, u, n, one, other, rfl, d2, t2, l1, l2, by omega, by omega, b1, b2, fun bx H3 box k3 d3 t3 l3 b3 => ?_⟩
    refine ⟨Nat.le_of_ble_eq_true rfl, fun v H4 k4 hv => ?_⟩
    exact q v H4 u bx n one other box (((k1.trans k2).trans k3).trans k4.nil) (d3.kp0 k4) hv ((t2.kp k3).kp k4) (t3.kp k4) (by omega) (by omega) l1 l2 l3 b1 b2 b3
end
end TB
namespace TB
open PySem PySem.Spec PyProof.Rows L2
def nI (o : List Nat) : List V := o.map fun i => V.int ((i : Nat) : Int)
theorem nI_ord (o : List Nat) : nI o = (ordI o).map V.int := by unfold nI ordI; rw [List.map_map]; rfl
theorem ord_perm {n : Nat} {o : List Nat} (h : o.Perm (List.range n)) : Ord n o :=
  ⟨by rw [h.length_eq, List.length_range], fun i hi => List.mem_range.mp (h.mem_iff.mp hi), h.nodup_iff.mpr List.nodup_range⟩
theorem map_erase {α β : Type} {f : α → β} : ∀ (l : List α) (j : Nat), (l.map f).eraseIdx j = (l.eraseIdx j).map f
  | [], _ => rfl
  | x :: l, 0 => rfl
  | x :: l, j + 1 => by
    show f x :: (l.map f).eraseIdx j = f x :: (l.eraseIdx j).map f
    rw [map_erase l j]
theorem perm_erase {α : Type} : ∀ (l : List α) (j : Nat) (h : j < l.length), (l[j] :: l.eraseIdx j).Perm l
  | x :: l, 0, _ => List.Perm.refl _
  | x :: l, j + 1, h => by
    have hj : j < l.length := Nat.lt_of_succ_lt_succ h
    exact (List.Perm.swap x l[j] (l.eraseIdx j)).trans ((perm_erase l j hj).cons x)
section
variable {P : Program} {w : World} {K : PySem.W.Frag} {mg : Str → Option Value} {base : Heap}
theorem sc_lmixed : FnScope ["_law_deck_here", "_law_items", "_law_rest", "_law_found", "_law_turn"] ["_law_deck_here", "_law_items"] (defScope s__law_mixed) := ⟨rfl, rfl, rfl, by decide +kernel, rfl, by decide +kernel, by decide +kernel⟩
def sp_lmixed : Sp := fun vs H Q _ => ∃ (d b c : Addr) (v : V) (n : Nat), vs = [.ref d, v] ∧ Dk H d b c ∧ Ls H v (nI (List.range n)) ∧ n ≤ 4 ∧ ∀ p H' o, Kp [d, b] H H' → Dk H' d b c → Ls H' p (nI o) → Ord n o → Q p H'
theorem ok_lmixed (T : TX w K mg) : FnR P w K mg base CX0 2 (a__law_mixed K) sp_lmixed :=
  fnr0 (f__law_mixed T) sc_lmixed (fun vs H Q E ⟨_, _, _, _, _, e, _⟩ => by rw [e]; rfl) (fun _ _ _ _ _ _ us hl => match us, hl with | [_, _], _ => rfl) fun cdv A outer s H vs Q E hr h => by
    obtain ⟨d, b, c, v, n, rfl, hD, hv, n4, q⟩ := h
    have nd := sc_lmixed.nd
    refine ⟨_, pss_cons (ps_par (i := 2) (j := 3) rfl nd rfl rfl (by decide) rfl rfl (pa_cons (pe_callTy call_listU (by rfl) (n_list T) (show bootBuiltins "list" = some (.type "list") by decide +kernel) (pa_cons (L2.pv 1) pa_nil)) (pa_cons (pe_lstU pa_nil) pa_nil)) (by rfl))
      (pss_cons (ps_for PassesOwn.never rfl (pi_range1 rfl (n_range T) (pa_cons (pe_callB call_lenU (by rfl) (n_len T) b_len (pa_cons (L2.pv 1) pa_nil)) pa_nil)) (pg_name (i := 4) nd rfl (Or.inl rfl))
        (pss_one (ps_expr (pe_bm PySem.F.plainAttrs_list PySem.F.slot_list_append PySem.F.type_list_append mt_append (L2.pv 3) (pa_cons (pe_bm PySem.F.plainAttrs_list PySem.F.slot_list_pop PySem.F.type_list_pop mt_popAt (L2.pv 2) (pa_cons (pe_f (ok_draw T) (g__law_draw T) (kp__law_draw T) hr (pa_cons (L2.pv 0) (pa_cons (pe_callB call_lenU (by rfl) (n_len T) b_len (pa_cons (L2.pv 2) pa_nil)) pa_nil))) pa_nil)) pa_nil)))))
      (pss_one (ps_ret (L2.pv 3)))), ?_⟩
    have hl : (nI (List.range n)).length = n := by simp [nI]
    refine ⟨_, rfl, _, _, rfl, .inr hv, fun r H1 hr0 k1 e1 => ⟨Nat.le_of_ble_eq_true rfl, fun f H2 hf k2 e2 => ⟨_, _, rfl, ?_⟩⟩⟩
    have nr := hD.ne hr0
    have nf := (hD.kp0 k1).ne hf
    have rf : r ≠ f := fun e => by rw [e, hf] at e1; cases e1
    have hf0 : H f = none := k1.free hf
    have k02 := k1.trans k2
    refine ⟨_, rfl, _, _, rfl, .inr (hv.kp k02), _, rfl, by omega, by omega, ?_⟩
    rw [hl, show ((n : Nat) : Int).toNat = n from Int.toNat_natCast n]
    refine for_P walk_r0 (fun i σ H' => (∃ t, σ = [some (.ref d), some v, some (.ref r), some (.ref f), t]) ∧ Kp [d, b] H H' ∧ Dk H' d b c ∧ ∃ fs rs : List Nat, H' r = some (.lst (nI rs)) ∧ H' f = some (.lst (nI fs)) ∧ fs.length = i ∧ rs.length = n - i ∧ (fs ++ rs).Perm (List.range n)) ⟨⟨_, rfl⟩, k02.nil, hD.kp0 k02, [], _, k2.get e1, e2, rfl, by simp, List.Perm.refl _⟩ (fun _ _ _ _ _ => trivial) (fun i z σ G1 G2 hi pp yy => ?_) (fun σ H3 p3 => ?_)
    · obtain ⟨rfl, rfl⟩ := yy
      obtain ⟨⟨t, rfl⟩, kG, dG, fs, rs, er, ef, lf, lr, pm⟩ := pp
      have ll : (nI rs).length = n - i := by simp [nI, lr]
      refine ⟨_, rfl, .inl ⟨rfl, _, SqL.of ef⟩, _, rfl, .inl ⟨rfl, _, SqL.of er⟩, ?_⟩
      refine ⟨_, rfl, _, rfl, _, _, rfl, .inr ⟨r, rfl, er⟩, d, b, c, _, rfl, dG, by omega, by omega, fun x G3 x0 x1 k3 d3 => ?_⟩
      rw [ll] at x1
      obtain ⟨j, rfl⟩ : ∃ j : Nat, x = (j : Nat) := ⟨x.toNat, (Int.toNat_of_nonneg x0).symm⟩
      have hj : j < rs.length := by omega
      have er3 := k3.old r _ er (by simp [nr.1, nr.2.1])
      have ef3 := k3.old f _ ef (by simp [nf.1, nf.2.1])
      have hix : ixN (nI rs).length (j : Int) = some j := by
        unfold ixN
        rw [if_pos (by omega), if_pos (by omega), Int.toNat_natCast]
      have hg : (nI rs)[j]? = some (V.int ((rs[j] : Nat) : Int)) := by unfold nI; rw [List.getElem?_map, List.getElem?_eq_getElem hj]; rfl
      refine ⟨r, _, _, j, _, rfl, rfl, er3, by omega, by omega, (ixN_seq hix).1, hg, ?_⟩
      have k4 : Kp [d, b] H (upd G3 r (.lst ((nI rs).eraseIdx j))) := (kG.trans k3).updn hr0 (fun xs z => by rw [er3] at z; cases z)
      have d4 : Dk (upd G3 r (.lst ((nI rs).eraseIdx j))) d b c := d3.put nr
      have ef4 : upd G3 r (.lst ((nI rs).eraseIdx j)) f = some (.lst (nI fs)) := (upd_ne (Ne.symm rf)).trans ef3
      have er4 : upd G3 r (.lst ((nI rs).eraseIdx j)) r = some (.lst (nI (rs.eraseIdx j))) := by rw [upd_same]; unfold nI; congr 2; exact map_erase rs j
      generalize upd G3 r (.lst ((nI rs).eraseIdx j)) = G4 at k4 d4 ef4 er4
      have sz : 1000 ≤ sizeLine := by decide
      refine ⟨f, _, _, rfl, rfl, ef4, by simp [nI]; omega, ⟨_, rfl⟩, k4.updn hf0 (fun xs z => by rw [ef4] at z; cases z), d4.put nf, fs ++ [rs[j]], rs.eraseIdx j, (upd_ne rf).trans er4, ?_, ?_, ?_, ?_⟩
      · rw [upd_same]; unfold nI; rw [List.map_append]; rfl
      · simp [lf]
      · rw [List.length_eraseIdx, if_pos hj]; omega
      · refine List.Perm.trans ?_ pm
        rw [List.append_assoc]
        exact (perm_erase rs j hj).append_left fs
    · obtain ⟨⟨t, rfl⟩, k3, d3, fs, rs, er, ef, lf, lr, pm⟩ := p3
      have e : rs = [] := List.length_eq_zero_iff.mp (by omega)
      rw [e, List.append_nil] at pm
      exact ⟨_, rfl, q _ H3 fs k3 d3 ⟨f, rfl, ef⟩ (ord_perm pm)⟩
end
end TB
namespace TB
open PySem PySem.Spec PyProof.Rows L2
theorem ifS {A B : Prop} {x : Str} (h : A) : if decide (V.str x = V.str x) = true then A else B := by rw [if_pos (decide_eq_true rfl)]; exact h
theorem ifN {A B : Prop} {x y : Str} (n : ¬ x = y) (h : B) : if decide (V.str x = V.str y) = true then A else B := by
  rw [if_neg (by rw [decide_eq_false fun e => n (V.str.inj e)]; exact Bool.false_ne_true)]
  exact h
section
variable {w : World} {K : PySem.W.Frag} {mg : Str → Option Value} {base : Heap}
theorem sc_ldo : FnScope ["_law_yard", "_law_edit", "_law_word", "_law_held"] ["_law_yard", "_law_edit"] (defScope s__law_do) := ⟨rfl, rfl, rfl, by decide +kernel, rfl, by decide +kernel, by decide +kernel⟩
def sp_ldo (K : PySem.W.Frag) : Sp := fun vs H Q E => ∃ a v Y e n us, vs = [.ref a, v] ∧ Tu H v (.str (edName e) :: us) ∧ EdV H e us ∧ EdPre K a Y e n H ∧ EdPost K a Y e n H Q E
theorem ok_ldo (T : TX w K mg) : FnR PW w K mg base (L2.CX PW w) 12 (a__law_do K) (sp_ldo K) :=
  fnrX (f__law_do T) sc_ldo (fun vs H Q E ⟨_, _, _, _, _, _, e, _⟩ => by rw [e]; rfl) (fun _ _ _ _ _ _ us hl => match us, hl with | [_, _], _ => rfl) fun cdv A outer s H vs Q E hr h => by
    obtain ⟨a, v, Y, e, n, us, rfl, hv, he, pre, post⟩ := h
    have nd := sc_ldo.nd
    have cl := cl_Yard T
    refine ⟨_, pss_cons (ps_set (i := 2) nd rfl (Or.inl rfl) (pe_ix ix_tupU (L2.pv 1) pe_int (fun _ _ => rfl)))
      (pss_cons (ps_if (pt_cmpR op_eq (L2.pv 2) pe_str (nomark _)) (pss_one (ps_ret (pe_m (E := E) (L2.pv 0) cl (me_Yard_side T) (ok_Yside T) hr (pa_cons (pe_ix ix_tupU (L2.pv 1) pe_int (fun _ _ => rfl)) (pa_cons (pe_ix ix_tupU (L2.pv 1) pe_int (fun _ _ => rfl)) pa_nil)) psX))) pss_nil)
      (pss_cons (ps_if (pt_cmpR op_eq (L2.pv 2) pe_str (nomark _)) (pss_one (ps_ret (pe_m (E := E) (L2.pv 0) cl (me_Yard_brick T) (ok_Ybrick T) hr (pa_cons (pe_ix ix_tupU (L2.pv 1) pe_int (fun _ _ => rfl)) (pa_cons (pe_ix ix_tupU (L2.pv 1) pe_int (fun _ _ => rfl)) (pa_cons (pe_ix ix_tupU (L2.pv 1) pe_int (fun _ _ => rfl)) pa_nil))) psX))) pss_nil)
      (pss_cons (ps_if (pt_cmpR op_eq (L2.pv 2) pe_str (nomark _)) (pss_one (ps_ret (pe_m0 (E := E) (L2.pv 0) cl (me_Yard_swap T) (ok_Yswap T) hr psX))) pss_nil)
      (pss_cons (ps_if (pt_cmpR op_eq (L2.pv 2) pe_str (nomark _)) (pss_one (ps_ret (pe_m (E := E) (L2.pv 0) cl (me_Yard_turn T) (ok_Yturn T) hr (pa_cons (pe_ix ix_tupU (L2.pv 1) pe_int (fun _ _ => rfl)) pa_nil) psX))) pss_nil)
      (pss_cons (ps_if (pt_cmpR op_eq (L2.pv 2) pe_str (nomark _)) (pss_one (ps_ret (pe_m (E := E) (L2.pv 0) cl (me_Yard_stretch T) (ok_Ystretch T) hr (pa_cons (pe_ix ix_tupU (L2.pv 1) pe_int (fun _ _ => rfl)) (pa_cons (pe_ix ix_tupU (L2.pv 1) pe_int (fun _ _ => rfl)) pa_nil)) psX))) pss_nil)
      (pss_cons (ps_set (i := 3) nd rfl (Or.inl rfl) (L2.pv 0))
      (pss_cons (ps_aug (i := 3) nd rfl (Or.inl rfl) (pe_ix ix_tupU (L2.pv 1) pe_int (fun _ _ => rfl)) (iop_addOwn (ym_Yard T) (me_Yard_iadd T).at_ (me_Yard_iadd T).fn (ok_iaddY T) hr pass0))
      (pss_one (ps_ret (pe_propR (L2.pv 3) cl (pr_version T) (ok_version T) hr)))))))))), ?_⟩
    obtain ⟨dx, fs, h1, only⟩ := pre.yat.ins
    refine ⟨_, rfl, _, _, _, hv, rfl, atI_n 0 rfl rfl, ?_⟩
    cases e with
    | side k x =>
      cases he
      refine ⟨_, rfl, rfl, _, rfl, ifS ?_⟩
      exact ⟨_, rfl, a, dx, fs, rfl, h1, only _ (by decide) (by decide) (by decide) (by decide), _, rfl, _, _, _, hv, rfl, atI_n 1 rfl rfl, _, rfl, _, _, _, hv, rfl, atI_n 2 rfl rfl, a, Y, .side k x, n, _, rfl, rfl, pre, rfl, post⟩
    | brick b k x =>
      cases he
      refine ⟨_, rfl, rfl, _, rfl, ifN (by simp only [edName]; decide +kernel) ⟨_, rfl, rfl, _, rfl, ifS ?_⟩⟩
      exact ⟨_, rfl, a, dx, fs, rfl, h1, only _ (by decide) (by decide) (by decide) (by decide), _, rfl, _, _, _, hv, rfl, atI_n 1 rfl rfl, _, rfl, _, _, _, hv, rfl, atI_n 2 rfl rfl, _, rfl, _, _, _, hv, rfl, atI_n 3 rfl rfl, a, Y, .brick b k x, n, _, rfl, rfl, pre, rfl, post⟩
    | swap =>
      cases he
      refine ⟨_, rfl, rfl, _, rfl, ifN (by simp only [edName]; decide +kernel) ⟨_, rfl, rfl, _, rfl, ifN (by simp only [edName]; decide +kernel) ⟨_, rfl, rfl, _, rfl, ifS ?_⟩⟩⟩
      exact ⟨_, rfl, a, dx, fs, rfl, h1, only _ (by decide) (by decide) (by decide) (by decide), a, Y, .swap, n, _, rfl, rfl, pre, rfl, post⟩
    | turn o =>
      obtain ⟨u, rfl, hu⟩ := he
      refine ⟨_, rfl, rfl, _, rfl, ifN (by simp only [edName]; decide +kernel) ⟨_, rfl, rfl, _, rfl, ifN (by simp only [edName]; decide +kernel) ⟨_, rfl, rfl, _, rfl, ifN (by simp only [edName]; decide +kernel) ⟨_, rfl, rfl, _, rfl, ifS ?_⟩⟩⟩⟩
      exact ⟨_, rfl, a, dx, fs, rfl, h1, only _ (by decide) (by decide) (by decide) (by decide), _, rfl, _, _, _, hv, rfl, atI_n 1 rfl rfl, a, Y, .turn o, n, _, rfl, rfl, pre, ⟨u, rfl, hu⟩, post⟩
    | stretch k x =>
      cases he
      refine ⟨_, rfl, rfl, _, rfl, ifN (by simp only [edName]; decide +kernel) ⟨_, rfl, rfl, _, rfl, ifN (by simp only [edName]; decide +kernel) ⟨_, rfl, rfl, _, rfl, ifN (by simp only [edName]; decide +kernel) ⟨_, rfl, rfl, _, rfl, ifN (by simp only [edName]; decide +kernel) ⟨_, rfl, rfl, _, rfl, ifS ?_⟩⟩⟩⟩⟩
      exact ⟨_, rfl, a, dx, fs, rfl, h1, only _ (by decide) (by decide) (by decide) (by decide), _, rfl, _, _, _, hv, rfl, atI_n 1 rfl rfl, _, rfl, _, _, _, hv, rfl, atI_n 2 rfl rfl, a, Y, .stretch k x, n, _, rfl, rfl, pre, rfl, post⟩
    | more x =>
      cases he
      refine ⟨_, rfl, rfl, _, rfl, ifN (by simp only [edName]; decide +kernel) ⟨_, rfl, rfl, _, rfl, ifN (by simp only [edName]; decide +kernel) ⟨_, rfl, rfl, _, rfl, ifN (by simp only [edName]; decide +kernel) ⟨_, rfl, rfl, _, rfl, ifN (by simp only [edName]; decide +kernel) ⟨_, rfl, rfl, _, rfl, ifN (by simp only [edName]; decide +kernel) ?_⟩⟩⟩⟩⟩
      refine ⟨_, rfl, _, rfl, _, rfl, _, _, _, hv, rfl, atI_n 1 rfl rfl, a, dx, fs, rfl, h1, a, Y, n, x, rfl, pre, fun H2 k2 hY2 => ⟨⟨a, rfl⟩, ?_⟩⟩
      obtain ⟨dx2, fs2, g2, only2⟩ := hY2.ins
      refine ⟨_, rfl, a, dx2, fs2, rfl, g2, a, _, rfl, hY2, ?_⟩
      have z := post.1 rfl H2 k2 hY2
      show Q (.int (((Y.pages ++ [moreP (lastP Y.pages) x]).length : Nat) - 1)) H2
      rw [List.length_append]
      show Q (.int ((((Y.pages.length + 1 : Nat) : Nat) : Int) - 1)) H2
      rw [show ((((Y.pages.length + 1 : Nat) : Nat) : Int) - 1) = ((Y.pages.length : Nat) : Int) by omega]
      exact z
end
end TB
namespace TB
open PySem PySem.Spec PyProof.Rows L2
/-! ### try with several clauses, some of them with a name, some never taken -/
inductive Hd
  | skip
  | plain (ts : Addr → Value → Option Addr → TS)
  | as (i : Nat) (ts : Addr → Value → Option Addr → TS)
def goneD (i : Nat) (D : Ends) : Ends := { nx := fun u G => D.nx (u.set i none) G, rt := D.rt, bk := fun u G => D.bk (u.set i none) G, ct := fun u G => D.ct (u.set i none) G }
def wHds (K : PySem.W.Frag) (Wo : WX) (D : Ends) : List (Value × Hd) → WX
  | [] => Wo
  | (c, .skip) :: r => fun z d u G => PySem.W.exmOne K z c = some false ∧ wHds K Wo D r z d u G
  | (c, .plain ts) :: r => fun z d u G => ∃ b, PySem.W.exmOne K z c = some b ∧ (b = true → ∀ p, G p = none → ts p z d D u G) ∧ (b = false → wHds K Wo D r z d u G)
  | (c, .as i ts) :: r => fun z d u G => ∃ b, PySem.W.exmOne K z c = some b ∧ (b = true → ∀ p, G p = none → ts p z d (goneD i D) (u.set i (some (.ref p))) G) ∧ (b = false → wHds K Wo D r z d u G)
inductive HdsA (X : Cx) : List ExceptHandler → List (Value × Hd) → Prop
  | nil : HdsA X [] []
  | skip {x : Str} {c : Value} {nm : Option Str} {suite : List Stmt} {np q : Pos} {hds : List ExceptHandler} {l : List (Value × Hd)} (hc : Names X x c) (r : HdsA X hds l) : HdsA X (.ExceptHandler (some (.Name x np)) nm suite q :: hds) ((c, .skip) :: l)
  | plain {x : Str} {c : Value} {ts : Addr → Value → Option Addr → TS} {b : Stmt} {suite : List Stmt} {np q : Pos} {hds : List ExceptHandler} {l : List (Value × Hd)} (hc : Names X x c)
      (hu : ∀ (p : Addr) (o : Obj) (z : Value) (d : Option Addr) (pn : List (Addr × Obj)), Zc z d o → (∃ vs, o.data = .fields vs) → PSs (X.suite p ((p, o) :: pn)) (b :: suite) (ts p z d)) (r : HdsA X hds l) :
      HdsA X (.ExceptHandler (some (.Name x np)) none (b :: suite) q :: hds) ((c, .plain ts) :: l)
  | as {x n : Str} {c : Value} {i : Nat} {ts : Addr → Value → Option Addr → TS} {b : Stmt} {suite : List Stmt} {np q : Pos} {hds : List ExceptHandler} {l : List (Value × Hd)} (hc : Names X x c) (hi : X.N[i]? = some n) (hk : X.env.kindOf n = some .local)
      (hu : ∀ (p : Addr) (o : Obj) (z : Value) (d : Option Addr) (pn : List (Addr × Obj)), Zc z d o → (∃ vs, o.data = .fields vs) → PSs (X.suite p ((p, o) :: pn)) (b :: suite) (ts p z d)) (r : HdsA X hds l) :
      HdsA X (.ExceptHandler (some (.Name x np)) (some n) (b :: suite) q :: hds) ((c, .as i ts) :: l)
section
variable {X : Cx} {body : List Stmt} {h0 : ExceptHandler} {hds : List ExceptHandler} {l : List (Value × Hd)} {pos : Pos} {tb : WX → TS} {Wo : WX}
/-- the way back from a taken clause without a name -/
theorem back_plain {X : Cx} {pins : List (Addr × Obj)} {D : Ends} {p : Addr} {q : Addr × Obj} (ok : X.Ok) {f : Flow} {s6 : Shared} (h : SP (X.suite p (q :: (X.pn ++ pins))) [] D f s6) : SP X pins D f s6 := by
  cases f with
  | ret u => obtain ⟨v, u1, G, S, r, z⟩ := h; exact ⟨v, u1, G, S.unsuite ok, r, z⟩
  | next => obtain ⟨u1, G, S, z⟩ := h; exact ⟨u1, G, S.unsuite ok, z⟩
  | brk => obtain ⟨u1, G, S, z⟩ := h; exact ⟨u1, G, S.unsuite ok, z⟩
  | cont => obtain ⟨u1, G, S, z⟩ := h; exact ⟨u1, G, S.unsuite ok, z⟩
/-- .. with a name, which goes -/
theorem back_as {X : Cx} {pins : List (Addr × Obj)} {D : Ends} {p : Addr} {q : Addr × Obj} {n : Str} {i : Nat} {ps : Pos} (ok : X.Ok) (nd : X.N.Nodup) (hi : X.N[i]? = some n) (hk : X.env.kindOf n = some .local) {f : Flow} {s6 : Shared} (h : SP (X.suite p (q :: (X.pn ++ pins))) [] (goneD i D) f s6) :
    wpAny (model X.prog X.w) X.A (do bindName X.env n .none; unbindBehindTheSuite X.env n ps) (fun _ s7 => SP X pins D f s7) X.xe s6 := by
  cases f with
  | ret u => obtain ⟨v, u1, G, S, r, z⟩ := h; exact gone_ok (S.unsuite ok) nd hi hk fun s7 J => ⟨v, _, G, J, r, z⟩
  | next => obtain ⟨u1, G, S, z⟩ := h; exact gone_ok (S.unsuite ok) nd hi hk fun s7 J => ⟨_, G, J, z⟩
  | brk => obtain ⟨u1, G, S, z⟩ := h; exact gone_ok (S.unsuite ok) nd hi hk fun s7 J => ⟨_, G, J, z⟩
  | cont => obtain ⟨u1, G, S, z⟩ := h; exact gone_ok (S.unsuite ok) nd hi hk fun s7 J => ⟨_, G, J, z⟩
theorem ps_try_hds (hs : X.stack = X.env :: X.outer) (hf : X.env.frame = some X.env.locals) (nd : X.N.Nodup) (tk : Takes X Wo)
    (hb : ∀ (W : WX) (pn : List (Addr × Obj)) (xe : Value → Shared → Prop), Takes (X.tr pn xe) W → PassesOwn (model X.prog X.w) X.A X.env xe → PSs (X.tr pn xe) body (tb W))
    (hh : HdsA X (h0 :: hds) l) : PS X (.Try body (h0 :: hds) [] [] pos) (fun D u G => tb (wHds X.K Wo D l) D u G) := by
  refine ⟨fun pins s u H D I h => ?_⟩
  have okX := I.ok; have frX : X.A.frames = some (X.env :: X.outer) := by rw [okX.frames, hs]
  refine wpAny_Try_except (wpAny_mono ((hb (wHds X.K Wo D l) (X.pn ++ pins) (fun e s₁ => wpAny (model X.prog X.w) X.A (noteFrame e X.env) (fun _ s₂ => wpAny (model X.prog X.w) X.A (setFlight e none) (fun _ s₃ =>
    wpAny (model X.prog X.w) X.A (handleBy e X.env (h0 :: hds)) (SP X pins D) X.xe s₃) X.xe s₂) X.xe s₁) (fun x0 s' xx => ?_) PassesOwn.looking).run [] s u H D (I.toTry _) h) (fun f s1 hsp => ?_) (fun e s1 he => he))
  · obtain ⟨p, B, sI, pins2, u2, G, z, d, rfl, J', nb, up, sky, na, os, ag, w⟩ := xx
    have Jx : Inv X pins u2 G sI := J'.ofTry okX
    have skyX : Sky B (X.env :: X.outer) p (Zc z d) X.env.locals s'.heap := by rw [← hs]; exact sky
    show wpAny (model X.prog X.w) X.A (noteFrame (.ref p) X.env) _ _ _
    refine Sky.land Zc.steady frX hf skyX fun g3 fl3 up3 => ?_
    have J3 : Inv X pins u2 G { s' with heap := g3 } := Jx.landed nb fl3.1 (up.trans up3) os ag
    obtain ⟨o3, vs3, ho3, hz3, hd3⟩ := fl3.there
    have offF : p ∉ frs (X.env :: X.outer) := fun hm => by
      obtain ⟨_, o', e', hnf⟩ := fl3.2.2.1.mem hm
      rw [ho3] at e'; cases e'
      exact hnf _ hd3
    have offL : p ≠ X.env.locals := fun e => offF (List.mem_filterMap.mpr ⟨X.env, List.mem_cons_self, by rw [hf, e]⟩)
    have offS : p ∉ X.fs := fun hm => by
      obtain ⟨e, he, q⟩ := List.mem_filterMap.mp hm
      exact offF (List.mem_filterMap.mpr ⟨e, List.mem_cons_of_mem _ he, q⟩)
    have S3 := J3.suite ho3 hd3 na offL offS
    have LT : PySem.W.Looks (model X.prog X.w) g3 (typeOf (.ref p)) z := fun A Q E s k q => wpAny_typeOf_ref (k _ _ ho3) (by rw [hz3.1]; exact q)
    have test : ∀ {x : Str} {c : Value} {np : Pos} {Q E : Value → Shared → Prop}, Names X x c → Q c { s' with heap := g3 } → wpAny (model X.prog X.w) (X.A.mark (some (.ref p))) (eval (.Name x np) X.env) Q E { s' with heap := g3 } := fun {x c np Q E} hc q => by
      obtain ⟨hg, hdb, hm | ⟨hm, hv, hnn⟩⟩ := hc
      · exact ld_glob (X := X.suite p ((p, o3) :: (X.pn ++ pins))) S3 hg hm q hdb
      · exact ld_blt (X := X.suite p ((p, o3) :: (X.pn ++ pins))) S3 hg hm hv q hnn hdb
    have go : ∀ {hds2 : List ExceptHandler} {l2 : List (Value × Hd)}, HdsA X hds2 l2 → wHds X.K Wo D l2 z d u2 G → wpAny (model X.prog X.w) X.A (handleBy (.ref p) X.env hds2) (SP X pins D) X.xe { s' with heap := g3 } := by
      intro hds2 l2 hk
      induction hk with
      | nil =>
        intro w
        refine wpAny_handleBy_nil ?_
        obtain ⟨k1, k2, k3, oe, vs, tb, oT, ts', he, hz, hd, h1, hr⟩ := id fl3
        unfold PySem.passOn
        refine wpAny_bind (wpAny_field he hd h1 ?_)
        rw [if_neg (show ¬ ((Value.ref tb == Value.none) = true) from by simp)]
        have last : wpAny (model X.prog X.w) X.A (setFlight (.ref p) X.env.frame) (fun _ s4 => wpAny (model X.prog X.w) X.A (throw (.ref p) : Sem Flow) (SP X pins D) X.xe s4) X.xe { s' with heap := g3 } := by
          rw [hf]
          refine HandSPX.setFlight_upZ fl3 fun h4 hh4 up4 => wpAny_throw (tk _ _ ⟨p, B, sI, pins, u2, G, z, d, rfl, Jx, nb, (up.trans up3).trans up4, .inr (.inr (by rw [hs]; exact hh4)), na, os, ag, w⟩)
        first
          | exact wpAny_bind (wpAny_pure (wpAny_bind last))
          | exact wpAny_bind last
      | skip hc r ih =>
        intro w
        refine wpAny_handleBy_cons (codeAny_handlers_test ?_) (by intro q; cases q)
        exact test hc ((PySem.W.exm_one (M := model X.prog X.w) J3.kIn LT w.1).here (ih w.2))
      | plain hc hu r ih =>
        intro w
        obtain ⟨b, hb1, hyes, hno⟩ := w
        refine wpAny_handleBy_cons (codeAny_handlers_test ?_) (by intro q; cases q)
        refine test hc ((PySem.W.exm_one (M := model X.prog X.w) J3.kIn LT hb1).here ?_)
        cases b with
        | false => exact ih (hno rfl)
        | true =>
          refine codeAny_handlers_suite (HandSPX.lands_againZ fl3 fun g4 fl4 up4 => ?_)
          have J4 : Inv X pins u2 G { s' with heap := g4 } := Jx.landed nb fl4.1 ((up.trans up3).trans up4) os ag
          obtain ⟨o4, vs4, ho4, hz4, hd4⟩ := fl4.there
          exact wpAny_mono ((hu p o4 z d (X.pn ++ pins) hz4 ⟨_, hd4⟩).run [] _ _ G _ (J4.suite ho4 hd4 na offL offS) (hyes rfl p na)) (fun f s6 hsp => back_plain okX hsp) (fun _ _ z => False.elim z)
      | as hc hi hk hu r ih =>
        intro w
        obtain ⟨b, hb1, hyes, hno⟩ := w
        refine wpAny_handleBy_cons (codeAny_handlers_test ?_) (by intro q; cases q)
        refine test hc ((PySem.W.exm_one (M := model X.prog X.w) J3.kIn LT hb1).here ?_)
        cases b with
        | false => exact ih (hno rfl)
        | true =>
          refine codeAny_handlers_suite_as (HandSPX.lands_againZ fl3 fun g4 fl4 up4 => ?_)
          have J4 : Inv X pins u2 G { s' with heap := g4 } := Jx.landed nb fl4.1 ((up.trans up3).trans up4) os ag
          obtain ⟨o4, vs4, ho4, hz4, hd4⟩ := fl4.there
          refine store_ok (X := X.suite p ((p, o4) :: (X.pn ++ pins))) (v := .ref p) (J4.suite ho4 hd4 na offL offS) nd hi (.inl hk) rfl (fun s5 S5 => ?_) (.inr hk)
          exact wpAny_mono ((hu p o4 z d (X.pn ++ pins) hz4 ⟨_, hd4⟩).run [] s5 _ G _ S5 (hyes rfl p na)) (fun f s6 hsp => back_as okX nd hi hk hsp) (fun _ _ z => False.elim z)
    exact go hh w
  · cases f with
    | ret u => obtain ⟨v, u2, G, J', r, q⟩ := hsp; exact ⟨v, u2, G, J'.ofTry okX, r, q⟩
    | next => obtain ⟨u2, G, J', q⟩ := hsp; exact wpAny_execs_nil ⟨u2, G, J'.ofTry okX, q⟩
    | brk => obtain ⟨u2, G, J', q⟩ := hsp; exact ⟨u2, G, J'.ofTry okX, q⟩
    | cont => obtain ⟨u2, G, J', q⟩ := hsp; exact ⟨u2, G, J'.ofTry okX, q⟩
end
section
variable {X : Cx} {CX : CXT} {k j : Nat} {C f : Addr} {m : Str} {sp : Sp} {o : PySem.Expr} {ta : TE} {apos pos : Pos} {pl : Sem Bool} {E : L2.St → XK}
/-- a method without arguments that may let out, by the slots -/
theorem pe_m0S (he : PE X o ta) (c : Cls X.K C) (hm : Meth X.K C m f) (F : FnR X.prog X.w X.K X.mg X.base CX k f sp) (hr : Room j X.A) (hx : ∀ σ, PassesAt CX X σ (E σ)) (hkj : k ≤ j := by decide)
    (ht : eval (.Call (.Attribute o m apos) [] [] pos) X.env = (do let ov ← eval o X.env; standAt apos.atName; let (g, first) ← holding [ov] (getMethod ov m pl); callWith pos g first (backTo pos (starEach [] X.env)) (backToKw pos (keywordEach [] X.env))) := by rfl) :
    PE X (.Call (.Attribute o m apos) [] [] pos) (tMethS C m sp E ta tNil) := by
  refine ⟨fun pins s σ H Q I h => PySem.W.methodCall_KW (pl := pl) (thn (he.run pins s σ H _ I h) fun u s1 ⟨x, H1, I1, rx, a, dx, fs, ex, ea, l, q⟩ => ?_) ht⟩
  subst ex
  obtain rfl : u = Value.ref a := rx
  exact getmeth_ok I1 ea c hm l (PySem.W.callWith_K0 (first := [.ref a]) I1.kIn hm.kp (wp_fnS (us := [.ref a]) (vs := [.ref a]) F hr hkj (hx σ) I1 (.cons rfl .nil) q))
end
end TB
namespace TB
open PySem PySem.Spec PyProof.Rows L2
/-! ### an edit of the law, what comes of it -/
def LeV (H : Hp) : Cmd → List V → Prop
  | .ed e, us => EdV H e us
  | .undo, us => us = []
  | _, _ => False
theorem LeV.kp {S : List Addr} {H H' : Hp} {c : Cmd} {us : List V} (h : LeV H c us) (k : Kp S H H') : LeV H' c us := by
  cases c with
  | ed e => exact EdV.kp h k
  | undo => exact h
  | _ => exact h
def verI (Y : YS) : Cmd → Int
  | .ed _ => (Y.pages.length : Nat)
  | _ => (Y.pages.length : Nat) - 2
def dnL (n : Nat) (Y : YS) (c : Cmd) : List V := match cmdMiss n Y c with
  | none => [.str "ok", .int (verI Y c)]
  | some (some k) => [.str "NoAxis", .int (k : Nat)]
  | some none => [.str "NothingToUndo"]
theorem Kp.freeI {S : List Addr} {H H' : Hp} (k : Kp S H H') (hS : ∀ x ∈ S, H' x ≠ none) {p : Addr} (h : H' p = none) : H p = none := by
  cases e : H p with
  | none => rfl
  | some o =>
    by_cases m : p ∈ S
    · exact absurd h (hS p m)
    · rw [k.old p o e m] at h; cases h
section
variable {w : World} {K : PySem.W.Frag} {mg : Str → Option Value} {base : Heap}
theorem sc_ldone : FnScope ["_law_yard", "_law_edit", "_law_found", "error"] ["_law_yard", "_law_edit"] (defScope s__law_done) := ⟨rfl, rfl, rfl, by decide +kernel, rfl, by decide +kernel, by decide +kernel⟩
def sp_ldone (K : PySem.W.Frag) : Sp := fun vs H Q _ => ∃ a v Y c n us, vs = [.ref a, v] ∧ Tu H v (.str (cmdW c) :: us) ∧ LeV H c us ∧ YAt K H a Y ∧ PgOk 1048576 n (lastP Y.pages) ∧ CmdOk n Y c ∧
  ∀ p H', H p = none → Kp [a] H H' → YAt K H' a (ansY n Y c) → H' p = some (.lst (dnL n Y c)) → Q (.ref p) H'
theorem ok_ldone (T : TX w K mg) : FnR PW w K mg base (L2.CX PW w) 13 (a__law_done K) (sp_ldone K) :=
  fnrX (f__law_done T) sc_ldone (fun vs H Q E ⟨_, _, _, _, _, _, e, _⟩ => by rw [e]; rfl) (fun _ _ _ _ _ _ us hl => match us, hl with | [_, _], _ => rfl) fun cdv A outer s H vs Q E hr h => by
    obtain ⟨a, v, Y, c, n, us, rfl, hv, he, hY, pk, ok, q⟩ := h
    have nd := sc_ldone.nd
    have cl := cl_Yard T
    refine ⟨_, pss_cons (ps_try_hds (Wo := fun cls d _ H => E cls d H) (l := [(.ref (He.ga K "NoAxis"), .as 3 _), (.ref (He.ga K "NoKind"), .skip), (.ref (He.ga K "BadSide"), .skip), (.ref (He.ga K "BadOrder"), .skip), (.ref (He.ga K "TooLarge"), .skip), (.ref (He.ga K "NotFilled"), .skip), (.ref (He.ga K "NothingToUndo"), .plain _), (.ref (He.ga K "TooManyEdits"), .skip), (.ref (He.ga K "Busy"), .skip)]) rfl rfl nd tkX
        (fun W pn xe tk' _ => pss_one (ps_set (i := 2) nd rfl (Or.inl rfl) (pe_lstU (pa_cons pe_str (pa_cons (pe_ifExp (pt_cmpR op_eq (pe_ix ix_tupU (L2.pv 1) pe_int (fun _ _ => rfl)) pe_str (nomark _))
            (pe_m0S (E := WE W) (L2.pv 0) cl (me_Yard_undo T) (ok_undo T) hr (fun σ => passAt tk' σ))
            (pe_fS (E := WE W) (ok_ldo T) (g__law_do T) (kp__law_do T) hr (pa_cons (L2.pv 0) (pa_cons (L2.pv 1) pa_nil)) (fun σ => passAt tk' σ))) pa_nil)))))
        (.as ⟨by rfl, by decide, .inl (g_NoAxis T)⟩ rfl rfl (fun p o z d pn hz hf => pss_one (ps_set (i := 2) nd rfl (Or.inl rfl) (pe_lstU (pa_cons pe_str (pa_cons (pe_xf (xfB_ok (nx_xf T)) (nx_giv T) hz hf (L2.pv 3)) pa_nil)))))
        (.skip ⟨by rfl, by decide, .inl (g_NoKind T)⟩ (.skip ⟨by rfl, by decide, .inl (g_BadSide T)⟩ (.skip ⟨by rfl, by decide, .inl (g_BadOrder T)⟩ (.skip ⟨by rfl, by decide, .inl (g_TooLarge T)⟩ (.skip ⟨by rfl, by decide, .inl (g_NotFilled T)⟩
        (.plain ⟨by rfl, by decide, .inl (g_NothingToUndo T)⟩ (fun p o z d pn hz hf => pss_one (ps_set (i := 2) nd rfl (Or.inl rfl) (pe_lstU (pa_cons pe_str pa_nil))))
        (.skip ⟨by rfl, by decide, .inl (g_TooManyEdits T)⟩ (.skip ⟨by rfl, by decide, .inl (g_Busy T)⟩ .nil))))))))))
      (pss_one (ps_ret (L2.pv 2))), ?_⟩
    obtain ⟨dx, fs, h1, only⟩ := hY.ins
    -- how it ends well
    have good : ∀ (H1 H2 : Hp) (p : Addr), cmdMiss n Y c = none → Kp [a] H H1 → YAt K H1 a (cmdY Y c) → H1 p = none → Kp [] H1 H2 → H2 p = some (.lst [.str "ok", .int (verI Y c)]) → Q (.ref p) H2 := fun H1 H2 p cm k1 hY1 hp k2 e => by
      obtain ⟨dx1, fs1, g1, _⟩ := hY1.ins
      refine q p H2 (k1.freeI (fun x hx => by rw [List.mem_singleton.mp hx, g1]; exact fun z => nomatch z) hp) (k1.trans k2.nil) ?_ ?_
      · unfold ansY; rw [if_pos cm]; exact hY1.kp0 k2
      · unfold dnL; rw [cm]; exact e
    refine ⟨_, rfl, _, _, _, hv, rfl, atI_n 0 rfl rfl, rfl, _, rfl, ?_⟩
    cases c with
    | undo =>
      obtain ⟨o1, o2, o3⟩ := ok
      refine ifS ⟨_, rfl, a, dx, fs, rfl, h1, only _ (by decide) (by decide) (by decide) (by decide), a, Y, rfl, ⟨hY, ⟨n, pk⟩, o1, o2⟩, fun c2 H1 k1 hY1 => ?_, fun c1 H1 k1 => ?_⟩
      · exact ⟨Nat.le_of_ble_eq_true rfl, fun p H2 hp k2 e => ⟨_, rfl, good H1 H2 p (by unfold cmdMiss; rw [if_neg (by omega)]) k1 hY1 hp k2 e⟩⟩
      · refine ⟨false, em_NothingToUndo_NoAxis T, (fun z => nomatch z), fun _ => ⟨em_NothingToUndo_NoKind T, em_NothingToUndo_BadSide T, em_NothingToUndo_BadOrder T, em_NothingToUndo_TooLarge T, em_NothingToUndo_NotFilled T, true, em_NothingToUndo_NothingToUndo T, fun _ p0 hp0 => ?_, (fun z => nomatch z)⟩⟩
        refine ⟨Nat.le_of_ble_eq_true rfl, fun p H2 hp k2 e => ⟨_, rfl, q p H2 (k1.free hp) (k1.trans k2).nil ?_ ?_⟩⟩
        · have cm : cmdMiss n Y .undo = some none := by unfold cmdMiss; rw [if_pos c1]
          unfold ansY; rw [if_neg (by rw [cm]; simp)]; exact (hY.kp0 k1).kp0 k2
        · have cm : cmdMiss n Y .undo = some none := by unfold cmdMiss; rw [if_pos c1]
          unfold dnL; rw [cm]; exact e
    | ed e =>
      obtain ⟨o1, o2, o3⟩ := ok
      have nu : ¬ edName e = "undo" := by cases e <;> simp only [edName] <;> decide +kernel
      refine ifN nu ⟨_, rfl, _, rfl, a, v, Y, e, n, us, rfl, hv, he, ⟨hY, o1, pk, o2, o3⟩, fun em H1 k1 hY1 => ?_, fun k em d H1 k1 hd => ?_⟩
      · exact ⟨Nat.le_of_ble_eq_true rfl, fun p H2 hp k2 e2 => ⟨_, rfl, good H1 H2 p (by show (edMiss n e).map some = _; rw [em]; rfl) k1 hY1 hp k2 e2⟩⟩
      · refine ⟨true, em_NoAxis_NoAxis T, fun _ p0 hp0 => ?_, fun z => nomatch z⟩
        refine ⟨_, rfl, rfl, rfl, d, _, _, rfl, hd, rfl, Nat.le_of_ble_eq_true rfl, fun p H2 hp k2 e2 => ⟨_, rfl, q p H2 (k1.free hp) (k1.trans k2).nil ?_ ?_⟩⟩
        · have cm : cmdMiss n Y (.ed e) = some (some k) := by show (edMiss n e).map some = _; rw [em]; rfl
          unfold ansY; rw [if_neg (by rw [cm]; simp)]; exact (hY.kp0 k1).kp0 k2
        · have cm : cmdMiss n Y (.ed e) = some (some k) := by show (edMiss n e).map some = _; rw [em]; rfl
          unfold dnL; rw [cm]; exact e2
    | _ => exact he.elim
end
end TB
namespace TB
open PySem PySem.Spec PyProof.Rows L2
/-! ### an edit for a line -/
def LEok (n : Nat) : Cmd → Prop
  | .ed (.side k x) => (k < n ∨ k = 9) ∧ 1 ≤ x ∧ x ≤ 12
  | .ed (.brick b k x) => b < 2 ∧ k < n ∧ 1 ≤ x ∧ x ≤ 12
  | .ed .swap => True
  | .ed (.turn o) => Ord n o
  | .ed (.stretch k x) => k < n ∧ 1 ≤ x ∧ x ≤ 2
  | .ed (.more x) => 1 ≤ x ∧ x ≤ 12
  | .undo => True
  | _ => False
theorem rg_nI {m : Int} {n : Nat} (h : m = (n : Nat)) : rgV 0 m = nI (List.range n) := by
  subst h
  unfold rgV nI
  rw [Int.sub_zero, Int.toNat_natCast]
  congr 1
  funext i
  rw [Int.zero_add]
theorem nat_of {r : Int} {n : Nat} (h0 : 0 ≤ r) (h1 : r < (n : Nat)) : ∃ k : Nat, r = (k : Nat) ∧ k < n := ⟨r.toNat, (Int.toNat_of_nonneg h0).symm, by omega⟩
section
variable {P : Program} {w : World} {K : PySem.W.Frag} {mg : Str → Option Value} {base : Heap}
theorem sc_lline : FnScope ["_law_deck_here", "_law_page", "_law_axis", "_law_number", "_law_order", "_law_rows"] ["_law_deck_here", "_law_page"] (defScope s__law_line_edit) := ⟨rfl, rfl, rfl, by decide +kernel, rfl, by decide +kernel, by decide +kernel⟩
def sp_lline : Sp := fun vs H Q _ => ∃ (d b c : Addr) (pv : V) (S : Pg) (n : Nat), vs = [.ref d, pv] ∧ Dk H d b c ∧ PgV H pv S ∧ S.box.length = n ∧ 1 ≤ n ∧ n ≤ 4 ∧
  ∀ v H' cm us, Kp [d, b] H H' → Dk H' d b c → Tu H' v (.str (cmdW cm) :: us) → LeV H' cm us → LEok n cm → Q v H'
theorem ok_lline (T : TX w K mg) : FnR P w K mg base CX0 3 (a__law_line_edit K) sp_lline :=
  fnr0 (f__law_line_edit T) sc_lline (fun vs H Q E ⟨_, _, _, _, _, _, e, _⟩ => by rw [e]; rfl) (fun _ _ _ _ _ _ us hl => match us, hl with | [_, _], _ => rfl) fun cdv A outer s H vs Q E hr h => by
    obtain ⟨d, b, c, pv, S, n, rfl, hD, ⟨x, y, hp, hx, hy⟩, hn, n1, n4, q⟩ := h
    have nd := sc_lline.nd
    refine ⟨_, pss_cons (ps_par (i := 2) (j := 3) rfl nd rfl rfl (by decide) rfl rfl (pa_cons (pe_f (ok_draw T) (g__law_draw T) (kp__law_draw T) hr (pa_cons (L2.pv 0) (pa_cons (pe_callB call_lenU (by rfl) (n_len T) b_len (pa_cons (pe_ix ix_tupU (L2.pv 1) pe_int (fun _ _ => rfl)) pa_nil)) pa_nil)))
        (pa_cons (pe_op op_add pe_int (pe_f (ok_draw T) (g__law_draw T) (kp__law_draw T) hr (pa_cons (L2.pv 0) (pa_cons pe_int pa_nil)))) pa_nil)) (by rfl))
      (pss_cons (ps_set (i := 4) nd rfl (Or.inl rfl) (pe_callTy call_tupU (by rfl) (n_tuple T) b_tuple (pa_cons (pe_f (ok_lmixed T) (g__law_mixed T) (kp__law_mixed T) hr (pa_cons (L2.pv 0) (pa_cons (pe_listRg rfl (by rfl) (n_list T) (prg_1 (by rfl) (n_range T) (pe_callB call_lenU (by rfl) (n_len T) b_len (pa_cons (pe_ix ix_tupU (L2.pv 1) pe_int (fun _ _ => rfl)) pa_nil)))) pa_nil))) pa_nil)))
      (pss_cons (ps_set (i := 5) nd rfl (Or.inl rfl) (pe_lstU (pa_cons (pe_tupU (pa_cons pe_str (pa_cons (L2.pv 2) (pa_cons (L2.pv 3) pa_nil))))
        (pa_cons (pe_tupU (pa_cons pe_str (pa_cons (pe_f (ok_draw T) (g__law_draw T) (kp__law_draw T) hr (pa_cons (L2.pv 0) (pa_cons pe_int pa_nil))) (pa_cons (L2.pv 2) (pa_cons (L2.pv 3) pa_nil)))))
        (pa_cons (pe_tupU (pa_cons pe_str pa_nil)) (pa_cons (pe_tupU (pa_cons pe_str (pa_cons (L2.pv 4) pa_nil))) (pa_cons (pe_tupU (pa_cons pe_str pa_nil)) pa_nil)))))))
      (pss_one (ps_ret (pe_f (ok_lone T) (g__law_one T) (kp__law_one T) hr (pa_cons (L2.pv 0) (pa_cons (pe_op op_cat (L2.pv 5) (pe_lstU (pa_cons (pe_tupU (pa_cons pe_str (pa_cons (L2.pv 2) (pa_cons (pe_op op_add pe_int (pe_f (ok_draw T) (g__law_draw T) (kp__law_draw T) hr (pa_cons (L2.pv 0) (pa_cons pe_int pa_nil)))) pa_nil))))
        (pa_cons (pe_tupU (pa_cons pe_str (pa_cons (L2.pv 3) pa_nil))) (pa_cons (pe_tupU (pa_cons pe_str (pa_cons pe_int (pa_cons (L2.pv 3) pa_nil)))) pa_nil))))) pa_nil))))))), ?_⟩
    have ll : (S.box.map V.int).length = n := by rw [List.length_map, hn]
    refine ⟨_, rfl, _, rfl, _, _, _, hp, rfl, atI_n 1 rfl rfl, _, _, rfl, .inl hy, d, b, c, _, rfl, hD, by omega, by omega, fun r1 H1 r10 r11 k1 d1 => ?_⟩
    rw [ll] at r11
    obtain ⟨k, rfl, hk⟩ := nat_of r10 r11
    refine ⟨_, rfl, d, b, c, 12, rfl, d1, by decide, by decide, fun r2 H2 r20 r21 k2 d2 => ⟨_, _, rfl, rfl, ⟨_, _, rfl, ?_⟩⟩⟩
    have k02 := k1.trans k2
    refine ⟨_, rfl, _, rfl, _, _, _, hp.kp k02, rfl, atI_n 1 rfl rfl, _, _, rfl, .inl (hy.kp k02), _, rfl, RgOk.of_le (by decide) (by omega) (by decide) (by omega), fun q0 hq0 => ?_⟩
    rw [ll, rg_nI rfl]
    have k3 : Kp [] H2 (upd H2 q0 (.lst (nI (List.range n)))) := Kp.upd hq0
    refine ⟨d, b, c, .ref q0, n, rfl, d2.kp0 k3, ⟨q0, rfl, upd_same⟩, n4, fun ov H4 o k4 d4 ho hO => ⟨_, _, rfl, ho, fun tv H5 k5 ht => ?_⟩⟩
    have k05 := ((k02.trans k3.nil).trans k4).trans k5.nil
    have d5 := d4.kp0 k5
    have ht5 : Ti H5 tv (ordI o) := by rw [nI_ord] at ht; exact ht
    generalize upd H2 q0 (.lst (nI (List.range n))) = H3 at k3 k4
    -- the rows
    refine ⟨_, rfl, _, rfl, Nat.le_of_ble_eq_true rfl, fun v1 H6 k6 t1 => ?_⟩
    refine ⟨_, rfl, d, b, c, 2, rfl, d5.kp0 k6, by decide, by decide, fun r3 H7 r30 r31 k7 d7 => ?_⟩
    obtain ⟨m, rfl, hm⟩ := nat_of (n := 2) r30 r31
    refine ⟨_, rfl, _, rfl, Nat.le_of_ble_eq_true rfl, fun v2 H8 k8 t2 => ?_⟩
    refine ⟨Nat.le_of_ble_eq_true rfl, fun v3 H9 k9 t3 => ?_⟩
    refine ⟨_, rfl, Nat.le_of_ble_eq_true rfl, fun v4 H10 k10 t4 => ?_⟩
    refine ⟨Nat.le_of_ble_eq_true rfl, fun v5 H11 k11 t5 => ?_⟩
    refine ⟨Nat.le_of_ble_eq_true rfl, fun p H12 hp12 k12 e12 => ?_⟩
    have d11 := (((d7.kp0 k8).kp0 k9).kp0 k10).kp0 k11
    have d12 := d11.kp0 k12
    have np := d11.ne hp12
    refine ⟨_, rfl, _, rfl, _, rfl, _, rfl, d, b, c, 2, rfl, d12, by decide, by decide, fun r4 H13 r40 r41 k13 d13 => ⟨_, _, rfl, rfl, Nat.le_of_ble_eq_true rfl, fun v6 H14 k14 t6 => ?_⟩⟩
    refine ⟨_, rfl, Nat.le_of_ble_eq_true rfl, fun v7 H15 k15 t7 => ?_⟩
    refine ⟨_, rfl, Nat.le_of_ble_eq_true rfl, fun v8 H16 k16 t8 => ?_⟩
    refine ⟨Nat.le_of_ble_eq_true rfl, fun p2 H17 hp17 k17 e17 => ?_⟩
    have k1317 := ((k14.trans k15).trans k16).trans k17
    have e12' : H17 p = some (.lst [v1, v2, v3, v4, v5]) := k1317.get (k13.old p _ e12 (by simp [np.1, np.2.1]))
    have sz : 1000 ≤ sizeLine := by decide
    refine ⟨p, p2, _, _, rfl, rfl, e12', e17, Nat.le_trans (Nat.le_of_ble_eq_true rfl) sz, fun p3 hp3 => ?_⟩
    have k18 : Kp [] H17 (upd H17 p3 (.lst ([v1, v2, v3, v4, v5] ++ [v6, v7, v8]))) := Kp.upd hp3
    have d17 := d13.kp0 k1317
    have np3 := d17.ne hp3
    refine ⟨d, b, c, p3, _, rfl, d17.kp0 k18, upd_same, np3.1, np3.2.1, Nat.le_of_ble_eq_true rfl, Nat.le_of_ble_eq_true rfl, fun z hz H19 k19 d19 => ?_⟩
    generalize upd H17 p3 (.lst ([v1, v2, v3, v4, v5] ++ [v6, v7, v8])) = H18 at k18 k19
    have kB := (k1317.trans k18).nil.trans k19
    have kC : Kp [d, b] H12 H19 := k13.trans kB
    have kD : Kp [d, b] H5 H19 := (((((((k6.nil.trans k7).trans k8.nil).trans k9.nil).trans k10.nil).trans k11.nil).trans k12.nil)).trans kC
    have kE := k05.trans kD
    rcases List.mem_cons.mp hz with rfl | hz
    · exact q _ H19 (.ed (.side k (1 + r2))) _ kE d19 ((((((((t1.kp k7).kp k8).kp k9).kp k10).kp k11).kp k12)).kp kC) rfl ⟨.inl hk, by omega, by omega⟩
    rcases List.mem_cons.mp hz with rfl | hz
    · exact q _ H19 (.ed (.brick m k (1 + r2))) _ kE d19 ((((((t2.kp k9).kp k10).kp k11).kp k12)).kp kC) rfl ⟨hm, hk, by omega, by omega⟩
    rcases List.mem_cons.mp hz with rfl | hz
    · exact q _ H19 (.ed .swap) _ kE d19 (((((t3.kp k10).kp k11).kp k12)).kp kC) rfl trivial
    rcases List.mem_cons.mp hz with rfl | hz
    · exact q _ H19 (.ed (.turn o)) _ kE d19 ((((t4.kp k11).kp k12)).kp kC) ⟨tv, rfl, ht5.kp kD⟩ hO
    rcases List.mem_cons.mp hz with rfl | hz
    · exact q _ H19 .undo _ kE d19 ((t5.kp k12).kp kC) rfl trivial
    rcases List.mem_cons.mp hz with rfl | hz
    · exact q _ H19 (.ed (.stretch k (1 + r4))) _ kE d19 (((((t6.kp k15).kp k16).kp k17).kp k18).kp k19) rfl ⟨hk, by omega, by omega⟩
    rcases List.mem_cons.mp hz with rfl | hz
    · exact q _ H19 (.ed (.more (1 + r2))) _ kE d19 ((((t7.kp k16).kp k17).kp k18).kp k19) rfl ⟨by omega, by omega⟩
    · rw [List.mem_singleton.mp hz]
      exact q _ H19 (.ed (.side 9 (1 + r2))) _ kE d19 (((t8.kp k17).kp k18).kp k19) rfl ⟨.inr rfl, by omega, by omega⟩
end
end TB
namespace TB
open PySem PySem.Spec PyProof.Rows L2
/-! ### the plain law: sizes after edits -/
theorem at_M {M : Int} {n i : Nat} {ns : List Int} (h : SdM M n ns) (hi : i < n) : 0 < at_ ns i ∧ at_ ns i ≤ M := by
  have hl : i < ns.length := by rw [h.1]; exact hi
  have e : at_ ns i = ns[i] := by unfold at_; rw [List.getD_eq_getElem?_getD, List.getElem?_eq_getElem hl]; rfl
  rw [e]
  exact h.2 _ (List.getElem_mem hl)
theorem perm_M {M : Int} {n : Nat} {ns : List Int} {o : List Nat} (h : SdM M n ns) (ho : Ord n o) : SdM M n (permI ns o) :=
  ⟨by unfold permI; rw [List.length_map, ho.len], fun x hx => by
    obtain ⟨i, hi, rfl⟩ := List.mem_map.mp hx
    exact at_M h (ho.lt i hi)⟩
theorem setM_M {M x : Int} {n k : Nat} {ns : List Int} (h : SdM M n ns) (hk : k < n) (x1 : 1 ≤ x) (x2 : x ≤ 2) : SdM (2 * M) n (setM ns k x) := by
  obtain ⟨a, b⟩ := at_M h hk
  have c : x = 1 ∨ x = 2 := by omega
  unfold setM
  rcases c with rfl | rfl
  · exact (h.mono (by omega)).set (by omega) (by omega)
  · exact (h.mono (by omega)).set (by omega) (by omega)
theorem ed_M {M : Int} {n : Nat} {S : Pg} {e : Ed} (hM : 64 ≤ M) (h : PgOk M n S) (he : LEok n (.ed e)) : PgOk (2 * M) n (edP S e) := by
  have h2 := h.mono (show M ≤ 2 * M by omega)
  cases e with
  | side k x => exact ⟨h2.one, h2.other, h2.box.set (by have := he.2.1; omega) (by have := he.2.2; omega), h.n1, h.n4⟩
  | brick b k x =>
    obtain ⟨b2, hk, x1, x2⟩ := he
    show PgOk (2 * M) n (brickP S b k x)
    unfold brickP
    split
    · exact ⟨h2.one.set (by omega) (by omega), h2.other, h2.box, h.n1, h.n4⟩
    · exact ⟨h2.one, h2.other.set (by omega) (by omega), h2.box, h.n1, h.n4⟩
  | swap => exact ⟨h2.other, h2.one, h2.box, h.n1, h.n4⟩
  | turn o => exact ⟨perm_M h2.one he, perm_M h2.other he, perm_M h2.box he, h.n1, h.n4⟩
  | stretch k x =>
    obtain ⟨hk, x1, x2⟩ := he
    exact ⟨setM_M h.one hk x1 x2, setM_M h.other hk x1 x2, setM_M h.box hk x1 x2, h.n1, h.n4⟩
  | more x =>
    obtain ⟨x1, x2⟩ := he
    refine ⟨h2.one, h2.other, ⟨by show (S.box.map _).length = n; rw [List.length_map]; exact h.box.1, fun y hy => ?_⟩, h.n1, h.n4⟩
    obtain ⟨z, hz, rfl⟩ := List.mem_map.mp hy
    have := h.box.2 z hz
    omega
theorem lastP_mem : ∀ {Ss : List Pg}, 1 ≤ Ss.length → lastP Ss ∈ Ss
  | [], h => absurd h (by decide)
  | [S], _ => List.mem_singleton.mpr rfl
  | _ :: b :: r, _ => List.mem_cons_of_mem _ (lastP_mem (Ss := b :: r) (by simp))
/-- a yard after i edits at most -/
structure Stp (i n : Nat) (Y : YS) : Prop where
  pg : ∀ S ∈ Y.pages, PgOk (64 * 2 ^ i) n S
  l1 : 1 ≤ Y.pages.length
  l2 : Y.pages.length ≤ i + 1
theorem two_pow {i : Nat} : (64 : Int) * 2 ^ (i + 1) = 2 * (64 * 2 ^ i) := by rw [Int.pow_succ]; omega
theorem pow_pos2 (i : Nat) : (1 : Int) ≤ 2 ^ i := by
  induction i with
  | zero => decide
  | succ i ih => rw [Int.pow_succ]; omega
theorem pow_12 : ∀ {i : Nat}, i ≤ 12 → (64 : Int) * 2 ^ i ≤ 262144
  | 0, _ | 1, _ | 2, _ | 3, _ | 4, _ | 5, _ | 6, _ | 7, _ | 8, _ | 9, _ | 10, _ | 11, _ | 12, _ => by decide
  | i + 13, h => absurd h (by omega)
theorem Stp.all {i n : Nat} {Y : YS} (h : Stp i n Y) (hi : i ≤ 12) : ∀ S ∈ Y.pages, PgOk 262144 n S := fun S hS => (h.pg S hS).mono (pow_12 hi)
theorem Stp.big {i n : Nat} {Y : YS} (h : Stp i n Y) (hi : i ≤ 12) : ∀ S ∈ Y.pages, PgOk 1048576 n S := fun S hS => (h.all hi S hS).mono (by decide)
theorem Stp.last {i n : Nat} {Y : YS} (h : Stp i n Y) (hi : i ≤ 12) : PgOk 1048576 n (lastP Y.pages) := h.big hi _ (lastP_mem h.l1)
theorem dropLast_mem {α : Type} {l : List α} {x : α} (h : x ∈ l.dropLast) : x ∈ l := by
  rw [List.dropLast_eq_take] at h
  exact List.mem_of_mem_take h
theorem Stp.ok {i n : Nat} {Y : YS} {c : Cmd} (h : Stp i n Y) (hi : i ≤ 12) (hc : LEok n c) : CmdOk n Y c := by
  cases c with
  | ed e =>
    refine ⟨?_, fun _ => ?_, by have := h.l2; omega⟩
    · cases e with
      | side k x => exact ⟨hc.2.1, by have := hc.2.2; omega⟩
      | brick b k x => exact ⟨hc.1, hc.2.1, hc.2.2.1, by have := hc.2.2.2; omega⟩
      | swap => trivial
      | turn o => exact hc
      | stretch k x => exact ⟨hc.1, hc.2.1, by have := hc.2.2; omega⟩
      | more x => exact ⟨hc.1, by have := hc.2; omega⟩
    · exact (ed_M (M := 262144) (by decide) (h.all hi _ (lastP_mem h.l1)) hc).mono (by decide)
  | undo =>
    refine ⟨fun l2 => ⟨n, h.big hi _ (dropLast_mem (lastP_mem ?_))⟩, h.l1, by have := h.l2; omega⟩
    rw [List.length_dropLast]; omega
  | _ => exact hc.elim
theorem Stp.next {i n : Nat} {Y : YS} {c : Cmd} (h : Stp i n Y) (hc : LEok n c) : Stp (i + 1) n (ansY n Y c) := by
  have p := pow_pos2 i
  have up : ∀ S ∈ Y.pages, PgOk (64 * 2 ^ (i + 1)) n S := fun S hS => (h.pg S hS).mono (by rw [two_pow]; omega)
  have l2 := h.l2
  have l1 := h.l1
  unfold ansY
  split
  · rename_i cm
    cases c with
    | ed e =>
      refine ⟨fun S hS => ?_, by show 1 ≤ (Y.pages ++ _).length; rw [List.length_append]; omega, by show (Y.pages ++ [_]).length ≤ _; rw [List.length_append, List.length_singleton]; omega⟩
      rcases List.mem_append.mp hS with hS | hS
      · exact up S hS
      · rw [List.mem_singleton.mp hS, two_pow]
        exact ed_M (by omega) (h.pg _ (lastP_mem h.l1)) hc
    | undo =>
      have n1 : ¬ Y.pages.length = 1 := fun z => by
        unfold cmdMiss at cm
        rw [if_pos z] at cm
        cases cm
      exact ⟨fun S hS => up S (dropLast_mem hS), by show 1 ≤ Y.pages.dropLast.length; rw [List.length_dropLast]; omega, by show Y.pages.dropLast.length ≤ _; rw [List.length_dropLast]; omega⟩
    | _ => exact hc.elim
  · exact ⟨up, l1, by omega⟩
/-! ### lines -/
theorem int_nat {x : Int} (h : 1 ≤ x) : ∃ m : Nat, x = (m : Nat) ∧ 1 ≤ m := ⟨x.toNat, (Int.toNat_of_nonneg (by omega)).symm, by omega⟩
theorem fit_by {sh : Str} {ns : List Nat} (h1 : sh.cps.size = ns.length) (h2 : ns.length ≤ 4) (h3 : ∀ i c n : Nat, sh.cps[i]? = some c → ns[i]? = some n → n ≤ 1000000000000 ∧ (c = 110 ∨ n < 10)) : Fit sh ns := ⟨h1, h2, h3⟩
theorem fit_dn {k m : Nat} (hk : k < 10) (hm : m ≤ 100) : Fit "dn" [k, m] := ⟨(by show ("dn" : Str).cps.size = 2; decide +kernel), (by decide : 2 ≤ 4), fun i c n hc hn => by
  match i, hn with
  | 0, hn => cases hn; exact ⟨by omega, .inr hk⟩
  | 1, hn => cases hn; cases hc; exact ⟨by omega, .inl (by decide)⟩⟩
theorem fit_ddn {b k m : Nat} (hb : b < 10) (hk : k < 10) (hm : m ≤ 100) : Fit "ddn" [b, k, m] := ⟨(by show ("ddn" : Str).cps.size = 3; decide +kernel), (by decide : 3 ≤ 4), fun i c n hc hn => by
  match i, hn with
  | 0, hn => cases hn; exact ⟨by omega, .inr hb⟩
  | 1, hn => cases hn; exact ⟨by omega, .inr hk⟩
  | 2, hn => cases hn; cases hc; exact ⟨by omega, .inl (by decide)⟩⟩
theorem fit_n {m : Nat} (hm : m ≤ 1000000000) : Fit "n" [m] := ⟨(by show ("n" : Str).cps.size = 1; decide +kernel), (by decide : 1 ≤ 4), fun i c n hc hn => by
  match i, hn with
  | 0, hn => cases hn; cases hc; exact ⟨by omega, .inl (by decide)⟩⟩
theorem fit_d1 {k : Nat} (hk : k < 10) : Fit "d" [k] := ⟨(by show ("d" : Str).cps.size = 1; decide +kernel), (by decide : 1 ≤ 4), fun i c n hc hn => by
  match i, hn with
  | 0, hn => cases hn; exact ⟨by omega, .inr hk⟩⟩
theorem fit_0 : Fit "" [] := ⟨by decide, by decide, fun i c n hc hn => nomatch hn⟩
theorem fitC {c : Cmd} {sh : Str} {ns : List Nat} (h1 : isTurn c = false) (h2 : (cmdW c, sh) ∈ shapes) (h3 : Fit sh ns) (h4 : (cmdI c).map V.int = ns.map fun n => V.int (n : Nat)) (h5 : cmdW c ≠ "next") : CmdFit c ns :=
  ⟨h4, fun z => (Bool.false_ne_true (h1.symm.trans z)).elim, fun _ => ⟨sh, h2, h3⟩, fun z => (h5 z).elim⟩
theorem sayN (n : Nat) : sayV (.int ((n : Nat) : Int)) = nT n := rfl
theorem says_nat (ns : List Nat) : (ns.map fun n => V.int ((n : Nat) : Int)).map sayV = ns.map nT := by rw [List.map_map]; rfl
theorem okW_n {n : Nat} (h : n ≤ 100) : okW (.int ((n : Nat) : Int)) := okB (by omega) (by omega)
/-- how the law writes an edit's line -/
structure Lined (c : Cmd) (ns : List Nat) : Prop where
  fit : CmdFit c ns
  txt : isTurn c = false → ∀ H us, LeV H c us → sayJ " " (.str (cmdW c) :: us) = lineT c ns ∧ (∀ x ∈ V.str (cmdW c) :: us, okW x) ∧ us.length ≤ 29
  trn : ∀ o, c = .ed (.turn o) → ("turn " : Str) ++ sayJ " " ((ordI o).map V.int) = lineT c ns ∧ (∀ x ∈ (ordI o).map V.int, okW x) ∧ ((ordI o).map V.int).length ≤ 30
theorem okW_w (c : Cmd) : okW (.str (cmdW c)) := .inr ⟨_, rfl, Nat.le_trans (word_len c) (by decide)⟩
theorem txt_of {c : Cmd} {us : List V} {ns : List Nat} (e : us = ns.map fun n => V.int ((n : Nat) : Int)) (hl : ns.length ≤ 4) (hn : ∀ n ∈ ns, n ≤ 100) : sayJ " " (.str (cmdW c) :: us) = lineT c ns ∧ (∀ x ∈ V.str (cmdW c) :: us, okW x) ∧ us.length ≤ 29 := by
  subst e
  refine ⟨?_, fun x hx => ?_, by rw [List.length_map]; omega⟩
  · unfold sayJ lineT
    rw [List.map_cons, says_nat]
    rfl
  · rcases List.mem_cons.mp hx with rfl | hx
    · exact okW_w c
    · obtain ⟨n, hm, rfl⟩ := List.mem_map.mp hx
      exact okW_n (hn n hm)
theorem join_cons {s x y : Str} {r : List Str} : Str.join s (x :: y :: r) = x ++ s ++ Str.join s (y :: r) := rfl
theorem lined {n : Nat} {c : Cmd} (n1 : 1 ≤ n) (n4 : n ≤ 4) (hc : LEok n c) : ∃ ns, Lined c ns := by
  cases c with
  | ed e =>
    cases e with
    | side k x =>
      obtain ⟨hk, x1, x2⟩ := hc
      obtain ⟨m, rfl, m1⟩ := int_nat x1
      refine ⟨[k, m], fitC rfl (by simp only [cmdW, edName]; decide +kernel) (fit_dn (by omega) (by omega)) rfl (by simp only [cmdW, edName]; decide +kernel), fun _ H us hu => txt_of hu (by decide : 2 ≤ 4) fun j hj => ?_, fun o z => nomatch z⟩
      simp at hj; omega
    | brick b k x =>
      obtain ⟨hb, hk, x1, x2⟩ := hc
      obtain ⟨m, rfl, m1⟩ := int_nat x1
      refine ⟨[b, k, m], fitC rfl (by simp only [cmdW, edName]; decide +kernel) (fit_ddn (by omega) (by omega) (by omega)) rfl (by simp only [cmdW, edName]; decide +kernel), fun _ H us hu => txt_of hu (by decide : 3 ≤ 4) fun j hj => ?_, fun o z => nomatch z⟩
      simp at hj; omega
    | swap => exact ⟨[], fitC rfl (by simp only [cmdW, edName]; decide +kernel) fit_0 rfl (by simp only [cmdW, edName]; decide +kernel), fun _ H us hu => txt_of hu (by decide) (fun j hj => nomatch hj), fun o z => nomatch z⟩
    | turn o =>
      have ho : Ord n o := hc
      have ll := ho.len
      have lt := ho.lt
      refine ⟨o, ⟨by show (ordI o).map V.int = _; unfold ordI; rw [List.map_map]; rfl, fun _ => ⟨by omega, by omega, fun j hj => by have := lt j hj; omega⟩, fun z => (nomatch (show true = false from z)), fun z => absurd z (by simp only [cmdW, edName]; decide +kernel)⟩, fun z => (nomatch (show true = false from z)), fun o' z => ?_⟩
      cases z
      have e : (ordI o).map V.int = o.map fun n => V.int ((n : Nat) : Int) := by unfold ordI; rw [List.map_map]; rfl
      refine ⟨?_, fun x hx => ?_, by rw [e, List.length_map]; omega⟩
      · unfold sayJ lineT
        rw [e, says_nat, TL.join_eq, TL.join_eq]
        cases o with
        | nil => exact absurd ll (by simp; omega)
        | cons a r =>
          show _ = ("turn" ++ " ") ++ Str.join " " (nT a :: r.map nT)
          rw [show ("turn" : Str) ++ " " = "turn " by decide +kernel]
          rfl
      · rw [e] at hx
        obtain ⟨j, hj, rfl⟩ := List.mem_map.mp hx
        exact okW_n (by have := lt j hj; omega)
    | stretch k x =>
      obtain ⟨hk, x1, x2⟩ := hc
      obtain ⟨m, rfl, m1⟩ := int_nat x1
      refine ⟨[k, m], fitC rfl (by simp only [cmdW, edName]; decide +kernel) (fit_dn (by omega) (by omega)) rfl (by simp only [cmdW, edName]; decide +kernel), fun _ H us hu => txt_of hu (by decide : 2 ≤ 4) fun j hj => ?_, fun o z => nomatch z⟩
      simp at hj; omega
    | more x =>
      obtain ⟨x1, x2⟩ := hc
      obtain ⟨m, rfl, m1⟩ := int_nat x1
      refine ⟨[m], fitC rfl (by simp only [cmdW, edName]; decide +kernel) (fit_n (by omega)) rfl (by simp only [cmdW, edName]; decide +kernel), fun _ H us hu => txt_of hu (by decide : 1 ≤ 4) fun j hj => ?_, fun o z => nomatch z⟩
      simp at hj; omega
  | undo => exact ⟨[], fitC rfl (by simp only [cmdW, edName]; decide +kernel) fit_0 rfl (by simp only [cmdW, edName]; decide +kernel), fun _ H us hu => txt_of hu (by decide) (fun j hj => nomatch hj), fun o z => nomatch z⟩
  | _ => exact hc.elim
/-! ### the questions' lines -/
theorem line_next (k l : Nat) : ((("next " : Str) ++ sayV (.int (k : Nat))) ++ " ") ++ sayV (.int (l : Nat)) = lineT (.next k (l : Nat)) [k, l] := by
  unfold lineT
  rw [TL.join_eq, sayN, sayN]
  show _ = ("next" ++ " ") ++ ((nT k ++ " ") ++ nT l)
  rw [show ("next" : Str) ++ " " = "next " by decide +kernel, Str.append_assoc, Str.append_assoc, Str.append_assoc]
theorem line_along (k : Nat) : ("along " : Str) ++ sayV (.int (k : Nat)) = lineT (.along k) [k] := by
  unfold lineT
  rw [TL.join_eq, sayN]
  show _ = ("along" ++ " ") ++ nT k
  rw [show ("along" : Str) ++ " " = "along " by decide +kernel]
theorem line_cut (k : Nat) : ("cut " : Str) ++ sayV (.int (k : Nat)) = lineT (.cut (k : Nat)) [k] := by
  unfold lineT
  rw [TL.join_eq, sayN]
  show _ = ("cut" ++ " ") ++ nT k
  rw [show ("cut" : Str) ++ " " = "cut " by decide +kernel]
theorem fit_next {k l : Nat} (hk : k < 10) (l1 : 1 ≤ l) (l2 : l ≤ 100) : CmdFit (.next k (l : Nat)) [k, l] :=
  ⟨rfl, fun z => (nomatch (show false = true from z)), fun _ => ⟨"dn", by simp only [cmdW, edName]; decide +kernel, fit_dn hk l2⟩, fun _ => ⟨k, l, rfl, l1⟩⟩
theorem fit_along {k : Nat} (hk : k < 10) : CmdFit (.along k) [k] := fitC rfl (by simp only [cmdW, edName]; decide +kernel) (fit_d1 hk) rfl (by simp only [cmdW, edName]; decide +kernel)
theorem fit_cut {i : Nat} (hi : i ≤ 1000000000) : CmdFit (.cut (i : Nat)) [i] := fitC rfl (by simp only [cmdW, edName]; decide +kernel) (fit_n hi) rfl (by simp only [cmdW, edName]; decide +kernel)
theorem fit_cuts : CmdFit .cuts [] := fitC rfl (by simp only [cmdW, edName]; decide +kernel) fit_0 rfl (by simp only [cmdW, edName]; decide +kernel)
theorem fit_news : CmdFit .news [] := fitC rfl (by simp only [cmdW, edName]; decide +kernel) fit_0 rfl (by simp only [cmdW, edName]; decide +kernel)
theorem fit_paper : CmdFit .paper [] := fitC rfl (by simp only [cmdW, edName]; decide +kernel) fit_0 rfl (by simp only [cmdW, edName]; decide +kernel)
theorem fit_shw : CmdFit .shw [] := fitC rfl (by simp only [cmdW, edName]; decide +kernel) fit_0 rfl (by simp only [cmdW, edName]; decide +kernel)
theorem fit_filled : CmdFit .filled [] := fitC rfl (by simp only [cmdW, edName]; decide +kernel) fit_0 rfl (by simp only [cmdW, edName]; decide +kernel)
/-! ### answers -/
/-- what the law expects of a line, from what the method gave -/
def dueT (n : Nat) (Y : YS) (c : Cmd) : Str := match cmdMiss n Y c with
  | none => ("version " : Str) ++ sayV (.int (verI Y c))
  | some (some _) => ("no " : Str) ++ "NoAxis"
  | some none => ("no " : Str) ++ "NothingToUndo"
theorem due_ans {n : Nat} {Y : YS} {c : Cmd} (hc : LEok n c) : ansT n Y c = dueT n Y c := by
  unfold ansT dueT
  cases e : cmdMiss n Y c with
  | some x => cases x <;> rfl
  | none =>
    cases c with
    | ed e => exact congrArg (· ++ _) (show Str.empty ++ ("version " : Str) = "version " by decide +kernel)
    | undo => exact congrArg (· ++ _) (show Str.empty ++ ("version " : Str) = "version " by decide +kernel)
    | _ => exact hc.elim
theorem ver_ok {n i : Nat} {Y : YS} {c : Cmd} (h : Stp i n Y) (hi : i ≤ 12) (hc : LEok n c) (e : cmdMiss n Y c = none) : okW (.int (verI Y c)) := by
  have l1 := h.l1
  have l2 := h.l2
  cases c with
  | ed e => exact okB (show (0 : Int) ≤ (Y.pages.length : Nat) by omega) (show ((Y.pages.length : Nat) : Int) ≤ _ by omega)
  | undo =>
    have n1 : ¬ Y.pages.length = 1 := fun z => by
      unfold cmdMiss at e
      rw [if_pos z] at e
      cases e
    exact okB (show (0 : Int) ≤ (Y.pages.length : Nat) - 2 by omega) (show ((Y.pages.length : Nat) : Int) - 2 ≤ _ by omega)
  | _ => exact hc.elim
theorem ans_same {n : Nat} {Y : YS} {c : Cmd} (h1 : cmdMiss n Y c = none) (h2 : cmdY Y c = Y) : ansY n Y c = Y := by unfold ansY; rw [if_pos h1, h2]
theorem ansT_of {n : Nat} {Y : YS} {c : Cmd} (h1 : cmdMiss n Y c = none) : ansT n Y c = cmdT Y c := by unfold ansT; rw [h1]
end TB
namespace TB
open PySem PySem.Spec PyProof.Rows L2
/-! ### == and != of what is alike -/
theorem eqV_refl {v : V} (h : flatV v = true) : eqV v v = true := by
  cases v with
  | non => rfl
  | bl b => exact beq_self_eq_true b
  | int i => exact beq_self_eq_true i
  | str x => exact beq_self_eq_true x
  | _ => exact absurd (show false = true from h) Bool.false_ne_true
theorem items_eq {A : Around} {s : Shared} : ∀ {xs : List V} {us ws : List Value}, Vals xs us → Vals xs ws → (∀ v ∈ xs, flatV v = true) → ∀ j (h1 : j < us.length) (h2 : j < ws.length), SeqAt.EqAt A s us[j] ws[j] true
  | [], [], _, _, _, _, j, h1, _ => absurd h1 (Nat.not_lt_zero _)
  | x :: xs, u :: us, y :: ws, .cons r1 t1, .cons r2 t2, f, 0, _, _ => by
    have z := eqAt_V (A := A) (s := s) r1 r2 (f x (List.mem_cons_self ..)) (f x (List.mem_cons_self ..))
    rw [eqV_refl (f x (List.mem_cons_self ..))] at z
    exact z
  | x :: xs, u :: us, y :: ws, .cons r1 t1, .cons r2 t2, f, j + 1, h1, h2 => items_eq t1 t2 (fun v hv => f v (List.mem_cons_of_mem _ hv)) j (Nat.lt_of_succ_lt_succ h1) (Nat.lt_of_succ_lt_succ h2)
theorem rg_true {n : Nat} : ((List.range n).all fun _ => true) = true := List.all_eq_true.mpr fun _ _ => rfl
def rAlike (r : Bool) : R2 := fun x y H Q => ∃ xs, Ls H x xs ∧ Ls H y xs ∧ (∀ v ∈ xs, flatV v = true) ∧ Q (.bl r) H
theorem op_eqL {X : Cx} (hu : X.A.units + 64 < cLine) : OpR X (compareOp .Eq) (rAlike true) := by
  intro pins s σ H x y v u Q I rx ry h
  obtain ⟨xs, ⟨p, rfl, hp⟩, ⟨q, rfl, hq⟩, f, h⟩ := h
  obtain rfl : v = Value.ref p := rx
  obtain rfl : u = Value.ref q := ry
  obtain ⟨us, r1, p1, _⟩ := I.list (SqL.of hp)
  obtain ⟨ws, r2, p2, _⟩ := I.list (SqL.of hq)
  have el : us.length = ws.length := r1.length.symm.trans r2.length
  refine SeqAt.RcAt.lists (e := fun _ => true) p1.isList p2.isList (by simpa using el) (by omega) (fun j h1 h2 => ?_) _ _ _ _ ?_
  · have z := items_eq (A := X.A.in1) (s := s) r1 r2 f j (by simpa using h1) (by simpa using h2)
    simpa using z
  · rw [rg_true]; exact ⟨.bl true, H, I, rfl, h⟩
theorem op_neL {X : Cx} (hu : X.A.units + 64 < cLine) : OpR X (compareOp .NotEq) (rAlike false) := by
  intro pins s σ H x y v u Q I rx ry h
  obtain ⟨xs, ⟨p, rfl, hp⟩, ⟨q, rfl, hq⟩, f, h⟩ := h
  obtain rfl : v = Value.ref p := rx
  obtain rfl : u = Value.ref q := ry
  obtain ⟨us, r1, p1, _⟩ := I.list (SqL.of hp)
  obtain ⟨ws, r2, p2, _⟩ := I.list (SqL.of hq)
  have el : us.length = ws.length := r1.length.symm.trans r2.length
  refine SeqAt.RcNeAt.lists (e := fun _ => true) p1.isList p2.isList (by simpa using el) (by omega) (fun j h1 h2 => ?_) _ _ _ _ ?_
  · have z := items_eq (A := X.A.in1) (s := s) r1 r2 f j (by simpa using h1) (by simpa using h2)
    simpa using z
  · rw [rg_true]; exact ⟨.bl false, H, I, rfl, h⟩
/-- t != t, one tuple -/
def rOneT : R2 := fun x y H Q => ∃ xs, Tu H x xs ∧ y = x ∧ Q (.bl false) H
theorem op_neOne {X : Cx} (hu : X.A.units + 64 < cLine) : OpR X (compareOp .NotEq) rOneT := by
  intro pins s σ H x y v u Q I rx ry h
  obtain ⟨xs, ⟨p, rfl, hp⟩, rfl, h⟩ := h
  obtain rfl : v = Value.ref p := rx
  obtain rfl : u = Value.ref p := ry
  obtain ⟨us, r1, p1, _⟩ := I.tuple (SqT.of hp)
  refine SeqAt.RcNeAt.tuples (e := fun _ => true) p1 p1 (by omega) (fun j h1 h2 => SeqAt.EqAt.same _) _ _ _ _ ?_
  rw [rg_true, beq_self_eq_true]; exact ⟨.bl false, H, I, rfl, h⟩
end TB
namespace TB
open PySem PySem.Spec PyProof.Rows L2
theorem seq_via2 {t u : TS} {D : Ends} {σ : L2.St} {H : Hp} (S : L2.St → Hp → Prop) (h1 : ∀ D' : Ends, (∀ σ' H3, S σ' H3 → D'.nx σ' H3) → t D' σ H) (h2 : ∀ σ' H3, S σ' H3 → u D σ' H3) : tSeq t u D σ H := h1 _ h2
theorem te_via {te : TE} {σ : L2.St} {H : Hp} {Q : VK} (R : V → Hp → Prop) (h1 : ∀ Q' : VK, (∀ y G, R y G → Q' y G) → te σ H Q') (h2 : ∀ y G, R y G → Q y G) : te σ H Q := h1 Q h2
theorem TbI.kpL {K : PySem.W.Frag} {S : List Addr} {H H' : Hp} (t : TbI K H) (k : Kp S H H') (hS : ∀ a ∈ S, ∃ xs, H a = some (.lst xs)) : TbI K H' := by
  obtain ⟨ps, h1, h2, h3⟩ := t
  have stay : ∀ a o, H a = some o → (∀ xs, o ≠ .lst xs) → H' a = some o := fun a o e n => k.old a o e fun m => by
    obtain ⟨xs, z⟩ := hS a m
    rw [e] at z
    exact n _ (Option.some.inj z)
  refine ⟨ps, stay _ _ h1 (fun _ z => nomatch z), h2, fun pos cv hc => ?_⟩
  obtain ⟨c, e1, e2⟩ := h3 pos cv hc
  exact ⟨c, e1, stay _ _ e2 fun _ z => by unfold LamX.CodeO at z; cases z⟩
theorem Dk.lists {H : Hp} {d b c : Addr} (h : Dk H d b c) : ∀ a ∈ [d, b], ∃ xs, H a = some (.lst xs) := fun a m => by
  obtain ⟨bs, cs, i, h1, h2, h3, _⟩ := h.ex
  rcases List.mem_cons.mp m with rfl | m
  · exact ⟨_, h1⟩
  · rw [List.mem_singleton.mp m]; exact ⟨_, h2⟩
theorem Dk.out {H : Hp} {d b c a : Addr} (h : Dk H d b c) (z : ∃ C dx fs, H a = some (.ins C dx fs)) : a ∉ [d, b] := fun m => by
  obtain ⟨xs, e⟩ := h.lists a m
  obtain ⟨C, dx, fs, z⟩ := z
  rw [e] at z
  cases z
/-- what stands while a shell is asked -/
structure LS (K : PySem.W.Frag) (H : Hp) (d b c a s : Addr) (Y : YS) (n : Nat) (lv : V) : Prop where
  dk : Dk H d b c
  ya : YAt K H a Y
  sh : ShAt K H s a lv
  tb : TbI K H
  pg : PgOk 1048576 n (lastP Y.pages)
theorem LS.kp0 {K : PySem.W.Frag} {H H' : Hp} {d b c a s : Addr} {Y : YS} {n : Nat} {lv : V} (L : LS K H d b c a s Y n lv) (k : Kp [] H H') : LS K H' d b c a s Y n lv := ⟨L.dk.kp0 k, L.ya.kp0 k, L.sh.kp0 k, L.tb.kp0 k, L.pg⟩
theorem LS.kt0 {K : PySem.W.Frag} {H H' : Hp} {d b c a s : Addr} {Y : YS} {n : Nat} {lv : V} (L : LS K H d b c a s Y n lv) (k : KT [] H H') (t : TbI K H') : LS K H' d b c a s Y n lv := ⟨L.dk.kt k (fun _ q => nomatch q), L.ya.kt k (fun q => nomatch q), L.sh.kt k (fun q => nomatch q), t, L.pg⟩
theorem LS.draw {K : PySem.W.Frag} {H H' : Hp} {d b c a s : Addr} {Y : YS} {n : Nat} {lv : V} (L : LS K H d b c a s Y n lv) (k : Kp [d, b] H H') (hd : Dk H' d b c) : LS K H' d b c a s Y n lv := ⟨hd, L.ya.kp k (L.dk.out L.ya.isIns), L.sh.kp k (L.dk.out L.sh.isIns), L.tb.kpL k L.dk.lists, L.pg⟩
theorem LS.insAS {K : PySem.W.Frag} {H : Hp} {d b c a s : Addr} {Y : YS} {n : Nat} {lv : V} (L : LS K H d b c a s Y n lv) : ∀ x ∈ [a, s], ∃ C dx fs, H x = some (.ins C dx fs) := fun x m => by
  rcases List.mem_cons.mp m with rfl | m
  · exact L.ya.isIns
  · rw [List.mem_singleton.mp m]; exact L.sh.isIns
/-- a list is neither of them -/
theorem LS.lst {K : PySem.W.Frag} {H : Hp} {d b c a s p : Addr} {Y : YS} {n : Nat} {lv : V} {xs : List V} (L : LS K H d b c a s Y n lv) (h : H p = some (.lst xs)) : p ∉ [a, s] := fun m => by
  obtain ⟨C, dx, fs, z⟩ := L.insAS p m
  rw [h] at z
  cases z
theorem LS.put {K : PySem.W.Frag} {H : Hp} {d b c a s p : Addr} {Y : YS} {n : Nat} {lv : V} {xs ys : List V} (L : LS K H d b c a s Y n lv) (h : H p = some (.lst xs)) (np : p ≠ d ∧ p ≠ b ∧ p ≠ c) : LS K (upd H p (.lst ys)) d b c a s Y n lv := by
  have k : Kp [p] H (upd H p (.lst ys)) := Kp.wr h (fun _ z => nomatch z) (List.mem_singleton.mpr rfl)
  have np2 := L.lst h
  exact ⟨L.dk.put np, L.ya.kp k (fun m => np2 (by rw [List.mem_singleton.mp m]; simp)), L.sh.kp k (fun m => np2 (by rw [List.mem_singleton.mp m]; simp)), L.tb.kpL k (fun x m => ⟨xs, by rw [List.mem_singleton.mp m]; exact h⟩), L.pg⟩
abbrev All4 (d b a s : Addr) (H H' : Hp) : Prop := KT [d, b, a, s] H H'
theorem KT.freeT {S : List Addr} {H H' : Hp} (k : KT S H H') (hS : ∀ x ∈ S, H' x ≠ none) {p : Addr} (h : H' p = none) : ∀ u, H p = some u → ∃ ps, u = .tbl ps := fun u e => by
  have np : p ∉ S := fun m => hS p m h
  cases u with
  | tbl ps => exact ⟨ps, rfl⟩
  | _ => rw [k.old p _ e np (fun _ z => nomatch z)] at h; cases h
theorem KT.upN {S : List Addr} {H H1 : Hp} {p : Addr} {o : HO} (k : KT S H H1) (hp : ∀ u, H p = some u → ∃ ps, u = .tbl ps) : KT S H (upd H1 p o) := by
  refine ⟨fun a u e n t => ?_, fun a xs e => ?_⟩
  · by_cases z : a = p
    · subst z; obtain ⟨ps, rfl⟩ := hp u e; exact absurd rfl (t ps)
    · exact (upd_ne z).trans (k.old a u e n t)
  · by_cases z : a = p
    · subst z; obtain ⟨ps, w⟩ := hp _ e; cases w
    · exact (upd_ne z).trans (k.tup a xs e)
theorem all_db {d b a s : Addr} {H H' : Hp} (k : Kp [d, b] H H') : All4 d b a s H H' := k.kt.mono fun x hx => by
  rcases List.mem_cons.mp hx with rfl | hx
  · simp
  · rw [List.mem_singleton.mp hx]; simp
theorem all_as {d b a s : Addr} {H H' : Hp} (k : KT [a, s] H H') : All4 d b a s H H' := k.mono fun x hx => by
  rcases List.mem_cons.mp hx with rfl | hx
  · simp
  · rw [List.mem_singleton.mp hx]; simp
theorem all_k0 {d b a s : Addr} {H H' : Hp} (k : Kp [] H H') : All4 d b a s H H' := k.nil.kt
theorem LS.there {K : PySem.W.Frag} {H : Hp} {d b c a s : Addr} {Y : YS} {n : Nat} {lv : V} (L : LS K H d b c a s Y n lv) : ∀ x ∈ [d, b, a, s], H x ≠ none := fun x m => by
  have h2 : x ∈ [d, b] ∨ x ∈ [a, s] := by simp at m ⊢; rcases m with h | h | h | h <;> simp [h]
  rcases h2 with m | m
  · obtain ⟨xs, e⟩ := L.dk.lists x m; rw [e]; exact fun z => nomatch z
  · obtain ⟨C, dx, fs, e⟩ := L.insAS x m; rw [e]; exact fun z => nomatch z
theorem LS.keep {K : PySem.W.Frag} {H H' : Hp} {d b c a s p : Addr} {Y : YS} {n : Nat} {lv : V} {xs : List V} (L : LS K H d b c a s Y n lv) (k : KT [a, s] H H') (h : H p = some (.lst xs)) : H' p = some (.lst xs) := k.old p _ h (L.lst h) fun _ z => nomatch z
theorem line_one (c : Cmd) : cmdW c = lineT c [] := by
  unfold lineT
  rw [TL.join_eq]
  rfl
section
variable {w : World} {K : PySem.W.Frag} {mg : Str → Option Value} {base : Heap}
/-- a question to a shell -/
theorem ask {H : Hp} {d b c a s : Addr} {Y : YS} {n : Nat} {lv : V} {cm : Cmd} {ns : List Nat} {z : Str} {Q : VK} {E : XK} (L : LS K H d b c a s Y n lv) (hz : z = lineT cm ns) (ok : CmdOk n Y cm) (F : CmdFit cm ns) (h1 : cmdMiss n Y cm = none) (h2 : cmdY Y cm = Y)
    (q : ∀ H' lv', KT [a, s] H H' → LS K H' d b c a s Y n lv' → Q (.str (cmdT Y cm)) H') : sp_exec K [.ref s, .str z] H Q E := by
  subst hz
  refine ⟨s, a, Y, lv, cm, n, ns, rfl, L.sh, L.ya, L.pg, L.tb, ok, F, fun H' lv' k t hY hS => ?_⟩
  rw [ans_same h1 h2] at hY
  rw [ansT_of h1]
  exact q H' lv' k ⟨L.dk.kt k L.insAS, hY, hS, t, L.pg⟩
theorem insC_of {X : Cx} {H : Hp} {d b c a s : Addr} {Y : YS} {n : Nat} {lv : V} (L : LS K H d b c a s Y n lv) : StX.InsC X H s (He.ga K "Shell") := .inr (let ⟨dx, fs, _, h1, _⟩ := L.sh.ex; ⟨dx, fs, h1⟩)
theorem sc_lright : FnScope ["_law_deck_here", "_law_shell", "_law_yard", "_law_axis", "_law_least", "_law_found", "_law_many", "_law_told", "_law_due", "_law_number"] ["_law_deck_here", "_law_shell", "_law_yard"] (defScope s__law_is_right) := ⟨rfl, rfl, rfl, by decide +kernel, rfl, by decide +kernel, by decide +kernel⟩
def sp_lright (K : PySem.W.Frag) : Sp := fun vs H Q _ => ∃ d b c a s Y n lv, vs = [.ref d, .ref s, .ref a] ∧ LS K H d b c a s Y n lv ∧ ∀ H' lv', All4 d b a s H H' → LS K H' d b c a s Y n lv' → Q (.bl true) H'
theorem ok_lright (T : TX w K mg) (hB : LamX.TabB base mg (He.codeOf K ("sum_at", none)) (tbP K)) : FnR PW w K mg base (L2.CX PW w) 16 (a__law_is_right K) (sp_lright K) :=
  fnrX (f__law_is_right T) sc_lright (fun vs H Q E ⟨_, _, _, _, _, _, _, _, e, _⟩ => by rw [e]; rfl) (fun _ _ _ _ _ _ us hl => match us, hl with | [_, _, _], _ => rfl) fun cdv A outer s0 H vs Q E hr h => by
    obtain ⟨d, b, c, a, s, Y, n, lv, rfl, L, q⟩ := h
    have nd := sc_lright.nd
    have cy := cl_Yard T
    have cs := callO_Shell T
    refine ⟨_, pss_cons (ps_par (i := 3) (j := 4) rfl nd rfl rfl (by decide) rfl rfl (pa_cons (pe_f (ok_draw T) (g__law_draw T) (kp__law_draw T) hr (pa_cons (L2.pv 0) (pa_cons (pe_callB call_lenU (by rfl) (n_len T) b_len (pa_cons (pe_propR (L2.pv 2) cy (pr_box T) (ok_box T) hr) pa_nil)) pa_nil)))
        (pa_cons (pe_op op_add pe_int (pe_f (ok_draw T) (g__law_draw T) (kp__law_draw T) hr (pa_cons (L2.pv 0) (pa_cons pe_int pa_nil)))) pa_nil)) (by rfl))
      (pss_cons (ps_par (i := 5) (j := 6) rfl nd rfl rfl (by decide) rfl rfl (pa_cons (pe_f (ok_next_side T hB) (g_next_side T) (kp_next_side T) hr (pa_cons (pe_propR (L2.pv 2) cy (pr_pair T) (ok_pair T) hr) (pa_cons (pe_propR (L2.pv 2) cy (pr_box T) (ok_box T) hr) (pa_cons (L2.pv 3) (pa_cons (L2.pv 4) pa_nil)))))
        (pa_cons (pe_f (ok_count_cuts T) (g_count_cuts T) (kp_count_cuts T) hr (pa_cons (pe_propR (L2.pv 2) cy (pr_pair T) (ok_pair T) hr) (pa_cons (pe_propR (L2.pv 2) cy (pr_box T) (ok_box T) hr) pa_nil))) pa_nil)) (by rfl))
      (pss_cons (ps_set (i := 7) nd rfl (Or.inl rfl) (pe_lstU (pa_cons (StX.pe_callO (E := E) (L2.pv 1) cs (ok_Scall T hB) hr psX (pa_cons (pe_op op_add_str (pe_op op_add_str (pe_op op_add_str pe_str (pe_callTy call_say (by rfl) (n_str T) b_str (pa_cons (L2.pv 3) pa_nil))) pe_str) (pe_callTy call_say (by rfl) (n_str T) b_str (pa_cons (L2.pv 4) pa_nil))) pa_nil))
        (pa_cons (StX.pe_callO (E := E) (L2.pv 1) cs (ok_Scall T hB) hr psX (pa_cons (pe_op op_add_str pe_str (pe_callTy call_say (by rfl) (n_str T) b_str (pa_cons (L2.pv 3) pa_nil))) pa_nil))
        (pa_cons (StX.pe_callO (E := E) (L2.pv 1) cs (ok_Scall T hB) hr psX (pa_cons pe_str pa_nil)) (pa_cons (StX.pe_callO (E := E) (L2.pv 1) cs (ok_Scall T hB) hr psX (pa_cons pe_str pa_nil)) pa_nil))))))
      (pss_cons (ps_set (i := 8) nd rfl (Or.inl rfl) (pe_lstU (pa_cons (pe_ifExp (pt_cmpR op_isN (L2.pv 5) pe_non (nomark _)) pe_str (pe_callTy call_say (by rfl) (n_str T) b_str (pa_cons (L2.pv 5) pa_nil)))
        (pa_cons (pe_f (ok__law_words T) (g__law_words T) (kp__law_words T) hr (pa_cons (pe_f (ok_along T) (g_along T) (kp_along T) hr (pa_cons (pe_propR (L2.pv 2) cy (pr_pair T) (ok_pair T) hr) (pa_cons (pe_propR (L2.pv 2) cy (pr_box T) (ok_box T) hr) (pa_cons (L2.pv 3) pa_nil)))) pa_nil))
        (pa_cons (pe_callTy call_say (by rfl) (n_str T) b_str (pa_cons (L2.pv 6) pa_nil)) (pa_cons (pe_propR (L2.pv 2) cy (pr_news T) (ok_news T) hr) pa_nil))))))
      (pss_cons (ps_if (pt_cmpR op_gt (L2.pv 6) pe_int (nomark _)) (pss_cons (ps_set (i := 9) nd rfl (Or.inl rfl) (pe_f (ok_draw T) (g__law_draw T) (kp__law_draw T) hr (pa_cons (L2.pv 0) (pa_cons (L2.pv 6) pa_nil))))
          (pss_cons (ps_expr (pe_bm PySem.F.plainAttrs_list PySem.F.slot_list_append PySem.F.type_list_append mt_append (L2.pv 7) (pa_cons (StX.pe_callO (E := E) (L2.pv 1) cs (ok_Scall T hB) hr psX (pa_cons (pe_op op_add_str pe_str (pe_callTy call_say (by rfl) (n_str T) b_str (pa_cons (L2.pv 9) pa_nil))) pa_nil)) pa_nil)))
          (pss_one (ps_expr (pe_bm PySem.F.plainAttrs_list PySem.F.slot_list_append PySem.F.type_list_append mt_append (L2.pv 8) (pa_cons (pe_f (ok__law_words T) (g__law_words T) (kp__law_words T) hr (pa_cons (pe_f (ok_cut_at T) (g_cut_at T) (kp_cut_at T) hr (pa_cons (pe_propR (L2.pv 2) cy (pr_pair T) (ok_pair T) hr) (pa_cons (pe_propR (L2.pv 2) cy (pr_box T) (ok_box T) hr) (pa_cons (L2.pv 9) pa_nil)))) pa_nil)) pa_nil)))))) pss_nil)
      (pss_cons (ps_set (i := 7) nd rfl (Or.inl rfl) (pe_op op_cat (L2.pv 7) (pe_lstU (pa_cons (StX.pe_callO (E := E) (L2.pv 1) cs (ok_Scall T hB) hr psX (pa_cons pe_str pa_nil)) (pa_cons (StX.pe_callO (E := E) (L2.pv 1) cs (ok_Scall T hB) hr psX (pa_cons pe_str pa_nil)) (pa_cons (StX.pe_callO (E := E) (L2.pv 1) cs (ok_Scall T hB) hr psX (pa_cons pe_str pa_nil)) pa_nil))))))
      (pss_one (ps_ret (pe_cmpR (op_eqL hr.units) (L2.pv 7) (pe_op op_cat (L2.pv 8) (pe_lstU (pa_cons (pe_f (ok__law_words T) (g__law_words T) (kp__law_words T) hr (pa_cons (pe_propR (L2.pv 2) cy (pr_paper T) (ok_paperY T) hr) pa_nil))
        (pa_cons (pe_callTy (call_strOwn (me_Yard_str T).at_ (me_Yard_str T).fn (ok_strY T) hr pass0) (by rfl) (n_str T) b_str (pa_cons (L2.pv 2) pa_nil)) (pa_cons (pe_ifExp (pt_truthR (L2.pv 2) (tru_own (me_Yard_bool T).at_ (me_Yard_bool T).fn (ok_boolY T) hr pass0) (fun _ => rfl)) pe_str pe_str) pa_nil))))) (nomark _))))))))), ?_⟩
    have pk := L.pg
    have s1 := pk.one.sds (Int.le_refl _)
    have s2 := pk.other.sds (Int.le_refl _)
    have s3 := pk.box.sds (Int.le_refl _)
    have ebl : (lastP Y.pages).box.length = n := s3.1
    have n1 := pk.n1
    have n4 := pk.n4
    have sz : 100000 ≤ sizeLine := by decide
    have e5 : ("next " : Str).length = 5 := rfl
    have e6 : ("along " : Str).length = 6 := rfl
    have e4 : ("cut " : Str).length = 4 := rfl
    have e1 : (" " : Str).length = 1 := rfl
    obtain ⟨dx, fs, ga, _⟩ := L.ya.ins
    refine ⟨_, rfl, _, rfl, a, dx, fs, rfl, ga, a, Y, rfl, L.ya, fun bx hbx => ⟨_, _, rfl, .inl hbx, d, b, c, _, rfl, L.dk, by rw [List.length_map, ebl]; omega, by rw [List.length_map, ebl]; omega, fun r1 H1 r10 r11 k1 d1 => ?_⟩⟩
    rw [List.length_map, ebl] at r11
    obtain ⟨k, rfl, hk⟩ := nat_of r10 r11
    refine ⟨_, rfl, d, b, c, 99, rfl, d1, by decide, by decide, fun r2 H2 r20 r21 k2 d2 => ⟨_, _, rfl, rfl, ⟨_, _, rfl, ?_⟩⟩⟩
    have k02 := k1.trans k2
    have La := L.draw k02 d2
    obtain ⟨l, hl⟩ : ∃ l : Nat, 1 + r2 = (l : Nat) := ⟨(1 + r2).toNat, (Int.toNat_of_nonneg (by omega)).symm⟩
    dsimp only
    rw [hl]
    obtain ⟨dx, fs, ga, _⟩ := La.ya.ins
    refine ⟨_, rfl, a, dx, fs, rfl, ga, a, Y, rfl, La.ya, fun u hu => ⟨_, rfl, a, dx, fs, rfl, ga, a, Y, rfl, La.ya, fun v hv => ⟨_, rfl, _, rfl, u, v, n, k, _, _, _, _, rfl, hu, hv, s1, s2, s3, hk, n4, by omega, La.tb, fun H3 k3 t3 => ?_⟩⟩⟩
    have Lb := La.kt0 k3 t3
    obtain ⟨dx, fs, ga, _⟩ := Lb.ya.ins
    refine ⟨_, rfl, a, dx, fs, rfl, ga, a, Y, rfl, Lb.ya, fun u hu => ⟨_, rfl, a, dx, fs, rfl, ga, a, Y, rfl, Lb.ya, fun v hv => ⟨u, v, n, _, _, _, rfl, hu, hv, s1, s2, s3, n4, fun H4 k4 => ⟨_, _, rfl, ?_⟩⟩⟩⟩
    have Lc := Lb.kp0 k4
    have A4 : All4 d b a s H H4 := ((all_db k02).trans k3.nil).trans (all_k0 k4)
    have lk : (sayV (.int ((k : Nat) : Int))).length ≤ 60 := sayV_len (okW_n (by omega))
    have ll : (sayV (.int ((l : Nat) : Int))).length ≤ 60 := sayV_len (okW_n (by omega))
    refine ⟨_, rfl, s, rfl, _, rfl, _, rfl, okW_n (by omega), _, _, rfl, rfl, by omega, _, _, rfl, rfl, by rw [txt_app_len]; omega, _, rfl, _, rfl, okW_n (by omega), _, _, rfl, rfl, by rw [txt_app_len, txt_app_len]; omega, insC_of Lc, ask Lc (line_next k l) ⟨hk, by omega, by omega⟩ (fit_next (by omega) (by omega) (by omega)) rfl rfl fun H5 lv5 k5 L5 => ?_⟩
    refine ⟨_, rfl, s, rfl, _, rfl, _, rfl, okW_n (by omega), _, _, rfl, rfl, by omega, insC_of L5, ask L5 (line_along k) hk (fit_along (by omega)) rfl rfl fun H6 lv6 k6 L6 => ?_⟩
    refine ⟨_, rfl, s, rfl, insC_of L6, ask L6 (line_one .cuts) trivial fit_cuts rfl rfl fun H7 lv7 k7 L7 => ?_⟩
    refine ⟨_, rfl, s, rfl, insC_of L7, ask L7 (line_one .news) trivial fit_news rfl rfl fun H8 lv8 k8 L8 => ?_⟩
    refine ⟨Nat.le_of_ble_eq_true rfl, fun p H9 hp k9 ep => ?_⟩
    have A8 : All4 d b a s H H8 := (((A4.trans (all_as k5)).trans (all_as k6)).trans (all_as k7)).trans (all_as k8)
    have np := L8.dk.ne hp
    have fp := A8.freeT L8.there hp
    have L9 := L8.kp0 k9
    have A9 := A8.trans (all_k0 k9)
    -- what is due
    have W := alongF_ok (box := (lastP Y.pages).box) s1 s2 hk
    have eW : pgWay (lastP Y.pages) k = alongF (lastP Y.pages).one (lastP Y.pages).other (lastP Y.pages).box n k := by unfold pgWay; rw [ebl]
    have eC : pgCuts (lastP Y.pages) = countF (lastP Y.pages).one (lastP Y.pages).other (lastP Y.pages).box n := by unfold pgCuts; rw [ebl]
    unfold gName
    dsimp only
    show tIf _ _ _ _ _ _
    refine te_via (te := tIf _ _ _) (fun y G => y = .str (nextT (pgWay (lastP Y.pages) k) (l : Nat)) ∧ G = H9) (fun Q' hQ => ?_) (fun y G hy => ?_)
    · rw [eW] at hQ
      unfold nextT at hQ
      cases e : nextF (alongF (lastP Y.pages).one (lastP Y.pages).other (lastP Y.pages).box n k) (l : Nat) with
      | none =>
        rw [e] at hQ
        exact ⟨_, rfl, rfl, _, rfl, iteT (hQ _ _ ⟨rfl, rfl⟩)⟩
      | some i =>
        rw [e] at hQ
        exact ⟨_, rfl, rfl, _, rfl, iteF ⟨_, rfl, _, rfl, next_ok W (by omega) (by omega) e, hQ _ _ ⟨rfl, rfl⟩⟩⟩
    obtain ⟨rfl, rfl⟩ := hy
    obtain ⟨wo, wl⟩ := way_ok W
    obtain ⟨dx, fs, ga, _⟩ := L9.ya.ins
    refine ⟨_, rfl, a, dx, fs, rfl, ga, a, Y, rfl, L9.ya, fun u hu => ⟨_, rfl, a, dx, fs, rfl, ga, a, Y, rfl, L9.ya, fun v hv => ⟨_, rfl, u, v, n, k, _, _, _, rfl, hu, hv, s1, s2, s3, hk, n4, fun r H10 k10 hr10 => ⟨r, _, rfl, hr10, wo, wl, fun H11 k11 => ?_⟩⟩⟩⟩
    have cb := countF_bd s1 s2 s3 n4
    have k911 := k10.trans k11
    have L11 := L9.kp0 k911
    obtain ⟨dx, fs, ga, _⟩ := L11.ya.ins
    refine ⟨_, rfl, _, rfl, okB cb.1 (by omega), _, rfl, a, dx, fs, rfl, ga, a, Y, rfl, L11.ya, Nat.le_of_ble_eq_true rfl, fun p2 H12 hp2 k12 ep2 => ?_⟩
    have A11 := A9.trans (all_k0 k911)
    have np2 := L11.dk.ne hp2
    have fp2 := A11.freeT L11.there hp2
    have L12 := L11.kp0 k12
    have A12 := A11.trans (all_k0 k12)
    have ep12 : H12 p = some (.lst [V.str (cmdT Y (.next k (l : Nat))), .str (cmdT Y (.along k)), .str (cmdT Y .cuts), .str (cmdT Y .news)]) := (k911.trans k12).get ep
    have pp2 : p ≠ p2 := fun e => by
      have z := k911.get ep
      rw [e, hp2] at z
      cases z
    have ep2 : H12 p2 = some (.lst [V.str (cmdT Y (.next k (l : Nat))), .str (cmdT Y (.along k)), .str (cmdT Y .cuts), .str (cmdT Y .news)]) := by
      rw [← eW, ← eC] at ep2
      exact ep2
    clear ep
    dsimp only
    show tSeq _ _ _ _ _
    refine seq_via2 (fun σ' H' => ∃ x3 x4 x5 x6 z lv' xs, σ' = [some (.ref d), some (.ref s), some (.ref a), x3, x4, x5, x6, some (.ref p), some (.ref p2), z] ∧ All4 d b a s H H' ∧ LS K H' d b c a s Y n lv' ∧ H' p = some (.lst xs) ∧ H' p2 = some (.lst xs) ∧ (∀ v ∈ xs, flatV v = true) ∧ xs.length ≤ 10) (fun D' hn => ?_) (fun σ' H' hS => ?_)
    · have f4 : ∀ v ∈ [V.str (cmdT Y (.next k (l : Nat))), .str (cmdT Y (.along k)), .str (cmdT Y .cuts), .str (cmdT Y .news)], flatV v = true := fun v hv => by
        simp only [List.mem_cons, List.not_mem_nil, or_false] at hv
        rcases hv with rfl | rfl | rfl | rfl <;> rfl
      refine ⟨_, rfl, _, _, rfl, rfl, _, rfl, ?_⟩
      refine ite2 (fun c0 => ?_) fun c0 => hn _ H12 ⟨_, _, _, _, _, _, _, rfl, A12, L12, ep12, ep2, f4, Nat.le_of_ble_eq_true rfl⟩
      have c0 : 0 < countF (lastP Y.pages).one (lastP Y.pages).other (lastP Y.pages).box n := of_decide_eq_true c0
      refine ⟨_, rfl, _, rfl, d, b, c, _, rfl, L12.dk, by omega, by omega, fun r3 H13 r30 r31 k13 d13 => ?_⟩
      obtain ⟨i, rfl⟩ : ∃ i : Nat, r3 = (i : Nat) := ⟨r3.toNat, (Int.toNat_of_nonneg r30).symm⟩
      have L13 := L12.draw k13 d13
      have A13 := A12.trans (all_db k13)
      have ep13 := k13.old p _ ep12 (by simp [np.1, np.2.1])
      have ep213 := k13.old p2 _ ep2 (by simp [np2.1, np2.2.1])
      have li : (sayV (.int ((i : Nat) : Int))).length ≤ 60 := sayV_len (okB (by omega) (by omega))
      refine ⟨_, rfl, .inl ⟨rfl, _, SqL.of ep13⟩, _, rfl, s, rfl, _, rfl, _, rfl, okB (by omega) (by omega), _, _, rfl, rfl, by omega, insC_of L13, ask L13 (line_cut i) ⟨by omega, by rw [eC]; exact r31⟩ (fit_cut (by omega)) rfl rfl fun H14 lv14 k14 L14 => ?_⟩
      have ep14 := L13.keep k14 ep13
      have ep214 := L13.keep k14 ep213
      refine ⟨p, _, _, rfl, rfl, ep14, Nat.lt_of_lt_of_le (Nat.le_of_ble_eq_true rfl : 4 < 1000) (by omega), ?_⟩
      have L15 := L14.put (ys := [V.str (cmdT Y (.next k (l : Nat))), .str (cmdT Y (.along k)), .str (cmdT Y .cuts), .str (cmdT Y .news)] ++ [V.str (cmdT Y (.cut (i : Nat)))]) ep14 np
      have A15 := (A13.trans (all_as k14)).upN (o := .lst ([V.str (cmdT Y (.next k (l : Nat))), .str (cmdT Y (.along k)), .str (cmdT Y .cuts), .str (cmdT Y .news)] ++ [V.str (cmdT Y (.cut (i : Nat)))])) fp
      have ep15 : upd H14 p (.lst ([V.str (cmdT Y (.next k (l : Nat))), .str (cmdT Y (.along k)), .str (cmdT Y .cuts), .str (cmdT Y .news)] ++ [V.str (cmdT Y (.cut (i : Nat)))])) p = some (.lst ([V.str (cmdT Y (.next k (l : Nat))), .str (cmdT Y (.along k)), .str (cmdT Y .cuts), .str (cmdT Y .news)] ++ [V.str (cmdT Y (.cut (i : Nat)))])) := upd_same
      have ep215 := (upd_ne (o := .lst ([V.str (cmdT Y (.next k (l : Nat))), .str (cmdT Y (.along k)), .str (cmdT Y .cuts), .str (cmdT Y .news)] ++ [V.str (cmdT Y (.cut (i : Nat)))])) pp2.symm).trans ep214
      generalize upd H14 p (.lst ([V.str (cmdT Y (.next k (l : Nat))), .str (cmdT Y (.along k)), .str (cmdT Y .cuts), .str (cmdT Y .news)] ++ [V.str (cmdT Y (.cut (i : Nat)))])) = H15 at L15 A15 ep15 ep215 ⊢
      obtain ⟨dx, fs, ga, _⟩ := L15.ya.ins
      refine ⟨_, rfl, .inl ⟨rfl, _, SqL.of ep215⟩, _, rfl, a, dx, fs, rfl, ga, a, Y, rfl, L15.ya, fun u hu => ⟨_, rfl, a, dx, fs, rfl, ga, a, Y, rfl, L15.ya, fun v hv => ⟨_, rfl, u, v, n, i, _, _, _, rfl, hu, hv, s1, s2, s3, n4, by omega, r31, fun r H16 xs k16 hx hr16 => ?_⟩⟩⟩
      have co := cut_ok s1 s2 s3 n4 (l := cutsL n) (fun q hq => cutsL_mem (f := q.1) (k := q.2) hq) (by omega) hx
      refine ⟨r, xs, rfl, hr16, co.1, co.2, fun H17 k17 => ?_⟩
      have k1517 := k16.trans k17
      have L17 := L15.kp0 k1517
      have ep17 := k1517.get ep15
      have ep217 := k1517.get ep215
      have eX : sayJ " " xs = cmdT Y (.cut (i : Nat)) := by
        show _ = sayJ " " (pgCut (lastP Y.pages) (i : Nat))
        unfold pgCut
        rw [ebl, hx]
        rfl
      refine ⟨p2, _, _, rfl, rfl, ep217, Nat.lt_of_lt_of_le (Nat.le_of_ble_eq_true rfl : 4 < 1000) (by omega), ?_⟩
      rw [eX]
      refine hn _ _ ⟨_, _, _, _, _, _, _, rfl, (A15.trans (all_k0 k1517)).upN fp2, L17.put ep217 np2, (upd_ne pp2).trans ep17, upd_same, fun v hv => ?_, Nat.le_of_ble_eq_true rfl⟩
      rcases List.mem_append.mp hv with hv | hv
      · exact f4 v hv
      · rw [List.mem_singleton.mp hv]; rfl
    obtain ⟨x3, x4, x5, x6, z, lv0, xs, rfl, A0, L0, ep, ep2, fl, lx⟩ := hS
    refine ⟨_, rfl, _, rfl, s, rfl, insC_of L0, ask L0 (line_one .paper) trivial fit_paper rfl rfl fun H19 lv19 k19 L19 => ?_⟩
    refine ⟨_, rfl, s, rfl, insC_of L19, ask L19 (line_one .shw) trivial fit_shw rfl rfl fun H20 lv20 k20 L20 => ?_⟩
    refine ⟨_, rfl, s, rfl, insC_of L20, ask L20 (line_one .filled) trivial fit_filled rfl rfl fun H21 lv21 k21 L21 => ?_⟩
    refine ⟨Nat.le_of_ble_eq_true rfl, fun p3 H22 hp3 k22 ep3 => ?_⟩
    have ep' := k22.get (L20.keep k21 (L19.keep k20 (L0.keep k19 ep)))
    have ep2' := k22.get (L20.keep k21 (L19.keep k20 (L0.keep k19 ep2)))
    have L22 := L21.kp0 k22
    have A22 := (((A0.trans (all_as k19)).trans (all_as k20)).trans (all_as k21)).trans (all_k0 k22)
    refine ⟨p, p3, _, _, rfl, rfl, ep', ep3, by show xs.length + 3 ≤ _; omega, fun p4 hp4 => ?_⟩
    have k23 : Kp [] H22 (upd H22 p4 (.lst (xs ++ [V.str (cmdT Y .paper), .str (cmdT Y .shw), .str (cmdT Y .filled)]))) := Kp.upd hp4
    have ep4 : upd H22 p4 (.lst (xs ++ [V.str (cmdT Y .paper), .str (cmdT Y .shw), .str (cmdT Y .filled)])) p4 = some (.lst (xs ++ [V.str (cmdT Y .paper), .str (cmdT Y .shw), .str (cmdT Y .filled)])) := upd_same
    generalize upd H22 p4 (.lst (xs ++ [V.str (cmdT Y .paper), .str (cmdT Y .shw), .str (cmdT Y .filled)])) = H23 at k23 ep4 ⊢
    have L23 := L22.kp0 k23
    obtain ⟨dx, fs, ga, _⟩ := L23.ya.ins
    have po := paper_ok s1 s2 s3 pk.n1 pk.n4
    have eP : pgPaper (lastP Y.pages) = paperF (lastP Y.pages).one (lastP Y.pages).other (lastP Y.pages).box n := by unfold pgPaper; rw [ebl]
    refine ⟨_, rfl, _, rfl, _, rfl, a, dx, fs, rfl, ga, a, Y, rfl, L23.ya, ⟨n, pk⟩, fun r H24 k24 hr24 => ⟨r, _, rfl, hr24, by rw [eP]; exact po.1, by rw [eP]; exact po.2, fun H25 k25 => ?_⟩⟩
    have k2325 := k24.trans k25
    have L25 := L23.kp0 k2325
    obtain ⟨dx, fs, ga, _⟩ := L25.ya.ins
    refine ⟨_, rfl, _, a, dx, fs, rfl, rfl, ga, a, Y, rfl, L25.ya, ⟨n, pk⟩, fun H26 k26 => ⟨_, rfl, ?_⟩⟩
    have L26 := L25.kp0 k26
    show tIf _ _ _ _ _ _
    refine te_via (te := tIf _ _ _) (fun y G => y = .str (cmdT Y .filled) ∧ Kp [] H26 G) (fun Q' hQ => ?_) (fun y H27 hy => ?_)
    · obtain ⟨dx, fs, ga, _⟩ := L26.ya.ins
      refine ⟨_, rfl, a, dx, fs, rfl, ga, a, Y, rfl, L26.ya, ⟨n, pk⟩, fun H' k => ⟨_, rfl, ?_⟩⟩
      have hq := hQ (.str (cmdT Y .filled)) H' ⟨rfl, k⟩
      unfold cmdT at hq
      cases e : pgFill (lastP Y.pages) with
      | true => rw [e, if_pos rfl] at hq; exact iteT hq
      | false => rw [e, if_neg (by decide)] at hq; exact iteF hq
    obtain ⟨rfl, k27⟩ := hy
    refine ⟨Nat.le_of_ble_eq_true rfl, fun p5 H28 hp5 k28 ep5 => ?_⟩
    have k2328 := ((k2325.trans k26).trans k27).trans k28
    refine ⟨p2, p5, _, _, rfl, rfl, (k23.trans k2328).get ep2', ep5, by show xs.length + 3 ≤ _; omega, fun p6 hp6 => ?_⟩
    have k29 : Kp [] H28 (upd H28 p6 (.lst (xs ++ [V.str (cmdT Y .paper), .str (cmdT Y .shw), .str (cmdT Y .filled)]))) := Kp.upd hp6
    refine ⟨xs ++ [V.str (cmdT Y .paper), .str (cmdT Y .shw), .str (cmdT Y .filled)], ⟨p4, rfl, (k2328.trans k29).get ep4⟩, ⟨p6, rfl, upd_same⟩, fun v hv => ?_, ?_⟩
    · rcases List.mem_append.mp hv with hv | hv
      · exact fl v hv
      · simp only [List.mem_cons, List.not_mem_nil, or_false] at hv
        rcases hv with rfl | rfl | rfl <;> rfl
    · exact q _ lv21 (A22.trans (all_k0 ((k23.trans k2328).trans k29))) (L23.kp0 (k2328.trans k29))
end
end TB
namespace TB
open PySem PySem.Spec PyProof.Rows L2
theorem neF {A B : Prop} {v : V} (h : B) : if (!decide (v = v)) = true then A else B := by rw [decide_eq_true rfl]; exact iteF h
/-- what stands within a step: two yards, two shells of the first -/
structure MS (K : PySem.W.Frag) (H : Hp) (d b c a o sl s0 s1 t u : Addr) (Y Z : YS) (lt lu : V) : Prop where
  dk : Dk H d b c
  ya : YAt K H a Y
  yo : YAt K H o Z
  ht : ShAt K H t a lt
  hu : ShAt K H u a lu
  tb : TbI K H
  ls : H sl = some (.lst [.ref s0, .ref s1])
  nl : sl ≠ d ∧ sl ≠ b ∧ sl ≠ c
  ao : a ≠ o
  tu : t ≠ u
section
variable {K : PySem.W.Frag} {H H' : Hp} {d b c a o sl s0 s1 t u : Addr} {Y Z Y' Z' : YS} {lt lu lt' lu' : V}
theorem lst_ne {p x : Addr} {xs : List V} (h : H p = some (.lst xs)) (z : ∃ C dx fs, H x = some (.ins C dx fs)) : p ≠ x := fun e => by
  obtain ⟨C, dx, fs, z⟩ := z
  rw [e, z] at h
  cases h
theorem MS.swap (M : MS K H d b c a o sl s0 s1 t u Y Z lt lu) : MS K H d b c a o sl s0 s1 u t Y Z lu lt := ⟨M.dk, M.ya, M.yo, M.hu, M.ht, M.tb, M.ls, M.nl, M.ao, M.tu.symm⟩
theorem MS.kp0 (M : MS K H d b c a o sl s0 s1 t u Y Z lt lu) (k : Kp [] H H') : MS K H' d b c a o sl s0 s1 t u Y Z lt lu := ⟨M.dk.kp0 k, M.ya.kp0 k, M.yo.kp0 k, M.ht.kp0 k, M.hu.kp0 k, M.tb.kp0 k, k.get M.ls, M.nl, M.ao, M.tu⟩
theorem MS.draw (M : MS K H d b c a o sl s0 s1 t u Y Z lt lu) (k : Kp [d, b] H H') (hd : Dk H' d b c) : MS K H' d b c a o sl s0 s1 t u Y Z lt lu :=
  ⟨hd, M.ya.kp k (M.dk.out M.ya.isIns), M.yo.kp k (M.dk.out M.yo.isIns), M.ht.kp k (M.dk.out M.ht.isIns), M.hu.kp k (M.dk.out M.hu.isIns), M.tb.kpL k M.dk.lists, k.old _ _ M.ls (by simp [M.nl.1, M.nl.2.1]), M.nl, M.ao, M.tu⟩
theorem one_ins {x : Addr} (h : ∃ C dx fs, H x = some (.ins C dx fs)) : ∀ z ∈ [x], ∃ C dx fs, H z = some (.ins C dx fs) := fun z m => by rw [List.mem_singleton.mp m]; exact h
theorem n1_of {x y : Addr} (h : x ≠ y) : x ∉ [y] := fun m => h (List.mem_singleton.mp m)
theorem n2_of {x y z : Addr} (h : x ≠ y) (h2 : x ≠ z) : x ∉ [y, z] := fun m => by
  rcases List.mem_cons.mp m with e | m
  · exact h e
  · exact h2 (List.mem_singleton.mp m)
theorem MS.edo (M : MS K H d b c a o sl s0 s1 t u Y Z lt lu) (k : Kp [o] H H') (hY : YAt K H' o Z') : MS K H' d b c a o sl s0 s1 t u Y Z' lt lu :=
  ⟨M.dk.kp k (one_ins M.yo.isIns), M.ya.kp k (n1_of M.ao), hY, M.ht.kp k (n1_of (sh_ne M.ht M.yo)), M.hu.kp k (n1_of (sh_ne M.hu M.yo)), M.tb.kpY k M.yo.isIns, k.old _ _ M.ls (n1_of (lst_ne M.ls M.yo.isIns)), M.nl, M.ao, M.tu⟩
theorem MS.eda (M : MS K H d b c a o sl s0 s1 t u Y Z lt lu) (k : Kp [a] H H') (hY : YAt K H' a Y') : MS K H' d b c a o sl s0 s1 t u Y' Z lt lu :=
  ⟨M.dk.kp k (one_ins M.ya.isIns), hY, M.yo.kp k (n1_of M.ao.symm), M.ht.kp k (n1_of (sh_ne M.ht M.ya)), M.hu.kp k (n1_of (sh_ne M.hu M.ya)), M.tb.kpY k M.ya.isIns, k.old _ _ M.ls (n1_of (lst_ne M.ls M.ya.isIns)), M.nl, M.ao, M.tu⟩
theorem MS.tell (M : MS K H d b c a o sl s0 s1 t u Y Z lt lu) (k : KT [a, t] H H') (tb : TbI K H') (hY : YAt K H' a Y') (hS : ShAt K H' t a lt') : MS K H' d b c a o sl s0 s1 t u Y' Z lt' lu := by
  refine ⟨M.dk.kt k fun z m => ?_, hY, M.yo.kt k (n2_of M.ao.symm (sh_ne M.ht M.yo).symm), hS, M.hu.kt k (n2_of (sh_ne M.hu M.ya) M.tu.symm), tb, k.old _ _ M.ls (n2_of (lst_ne M.ls M.ya.isIns) (lst_ne M.ls M.ht.isIns)) fun _ z => (nomatch z), M.nl, M.ao, M.tu⟩
  rcases List.mem_cons.mp m with rfl | m
  · exact M.ya.isIns
  · rw [List.mem_singleton.mp m]; exact M.ht.isIns
theorem MS.LSof {n : Nat} (M : MS K H d b c a o sl s0 s1 t u Y Z lt lu) (pg : PgOk 1048576 n (lastP Y.pages)) : LS K H d b c a t Y n lt := ⟨M.dk, M.ya, M.ht, M.tb, pg⟩
theorem n4_of {x e1 e2 e3 e4 : Addr} (h12 : x ∉ [e1, e2]) (h3 : x ≠ e3) (h4 : x ≠ e4) : x ∉ [e1, e2, e3, e4] := fun m => by
  simp only [List.mem_cons, List.not_mem_nil, or_false] at m h12
  rcases m with e | e | e | e
  · exact h12 (.inl e)
  · exact h12 (.inr e)
  · exact h3 e
  · exact h4 e
theorem MS.right {n : Nat} (M : MS K H d b c a o sl s0 s1 t u Y Z lt lu) (k : All4 d b a t H H') (L : LS K H' d b c a t Y n lt') : MS K H' d b c a o sl s0 s1 t u Y Z lt' lu :=
  ⟨L.dk, L.ya, M.yo.kt k (n4_of (M.dk.out M.yo.isIns) M.ao.symm (sh_ne M.ht M.yo).symm), L.sh, M.hu.kt k (n4_of (M.dk.out M.hu.isIns) (sh_ne M.hu M.ya) M.tu.symm), L.tb,
    k.old _ _ M.ls (n4_of (by simp [M.nl.1, M.nl.2.1]) (lst_ne M.ls M.ya.isIns) (lst_ne M.ls M.ht.isIns)) (fun _ z => nomatch z), M.nl, M.ao, M.tu⟩
theorem MS.insA (M : MS K H d b c a o sl s0 s1 t u Y Z lt lu) : ∃ dx fs, H a = some (.ins (He.ga K "Yard") dx fs) ∧ OnlyF fs := M.ya.ins
theorem sh_ins (h : ShAt K H t a lt) : ∃ dx fs, H t = some (.ins (He.ga K "Shell") dx fs) := let ⟨dx, fs, _, h1, _⟩ := h.ex; ⟨dx, fs, h1⟩
theorem sh_lines (h : ShAt K H t a lt) : ∃ xs, Tu H lt xs := let ⟨_, _, xs, _, _, _, _, _, h6, _⟩ := h.ex; ⟨xs, h6⟩
/-- which shell it is -/
theorem MS.pick (M : MS K H d b c a o sl s0 s1 s0 s1 Y Z lt lu) {k : Nat} (hk : k < 2) : ∃ t u lt lu, MS K H d b c a o sl s0 s1 t u Y Z lt lu ∧ atI [V.ref s0, .ref s1] ((k : Nat) : Int) = some (.ref t) ∧ atI [V.ref s0, .ref s1] (1 - ((k : Nat) : Int)) = some (.ref u) ∧
    ∀ H' Y' Z' lt' lu', MS K H' d b c a o sl s0 s1 t u Y' Z' lt' lu' → ∃ l0 l1, MS K H' d b c a o sl s0 s1 s0 s1 Y' Z' l0 l1 := by
  have c : k = 0 ∨ k = 1 := by omega
  rcases c with rfl | rfl
  · exact ⟨s0, s1, lt, lu, M, rfl, rfl, fun H' Y' Z' x y m => ⟨x, y, m⟩⟩
  · exact ⟨s1, s0, lu, lt, M.swap, rfl, rfl, fun H' Y' Z' x y m => ⟨y, x, m.swap⟩⟩
/-- a list made in between stays -/
theorem MS.keepL (M : MS K H d b c a o sl s0 s1 t u Y Z lt lu) {p : Addr} {xs : List V} (h : H p = some (.lst xs)) (k : KT [a, t] H H') : H' p = some (.lst xs) := k.old _ _ h (n2_of (lst_ne h M.ya.isIns) (lst_ne h M.ht.isIns)) fun _ z => nomatch z
theorem dn_flat {n : Nat} {Y : YS} {c : Cmd} : ∀ v ∈ dnL n Y c, flatV v = true := fun v hv => by
  unfold dnL at hv
  split at hv
  · simp only [List.mem_cons, List.not_mem_nil, or_false] at hv; rcases hv with rfl | rfl <;> rfl
  · simp only [List.mem_cons, List.not_mem_nil, or_false] at hv; rcases hv with rfl | rfl <;> rfl
  · rw [List.mem_singleton.mp hv]; rfl
end
end TB
namespace TB
open PySem PySem.Spec PyProof.Rows L2
section
variable {w : World} {K : PySem.W.Frag} {mg : Str → Option Value} {base : Heap}
def lawN : List Str := ["_law_script", "_law_deck_here", "_law_turn", "_law_pair_here", "_law_box", "_law_yard", "_law_other", "_law_shells", "_law_step", "_law_edit", "_law_at", "_law_due", "_law_kept", "_law_line"]
theorem sc_law : FnScope ["_law_script", "_law_deck_here", "_law_turn", "_law_pair_here", "_law_box", "_law_yard", "_law_other", "_law_shells", "_law_step", "_law_edit", "_law_at", "_law_due", "_law_kept", "_law_line"] ["_law_script"] (defScope s_law) := ⟨rfl, rfl, rfl, by decide +kernel, rfl, by decide +kernel, by decide +kernel⟩
def sp_law (K : PySem.W.Frag) : Sp := fun vs H Q _ => ∃ (sa : Addr) (ns : List Int), vs = [.ref sa] ∧ SqL K H sa (ns.map V.int) ∧ ns.length ≤ 63 ∧ TbI K H ∧ ∀ H', Q (.bl true) H'
theorem law_body (T : TX w K mg) (hB : LamX.TabB base mg (He.codeOf K ("sum_at", none)) (tbP K)) (cdv : Value) (A : Around) (outer : List Env) (s : Shared) (H : Hp) (vs : List V) (Q : VK) (E : XK) (hr : Room 16 (A.deeper (envOfC "law" (defScope s_law) s.heap.objs.size (a_law K) cdv))) (h : sp_law K vs H Q E) :
    ∃ t, PSs (cxOf CX0 PW w K mg base ["_law_script", "_law_deck_here", "_law_turn", "_law_pair_here", "_law_box", "_law_yard", "_law_other", "_law_shells", "_law_step", "_law_edit", "_law_at", "_law_due", "_law_kept", "_law_line"] "law" (defScope s_law) (a_law K) cdv A outer s H E).nox (defBody s_law) t ∧ t { nx := fun _ H' => Q .non H', rt := Q } (start ["_law_script", "_law_deck_here", "_law_turn", "_law_pair_here", "_law_box", "_law_yard", "_law_other", "_law_shells", "_law_step", "_law_edit", "_law_at", "_law_due", "_law_kept", "_law_line"] vs) H := by
  obtain ⟨sa, ns, rfl, hS, h63, hT, q⟩ := h
  have nd := sc_law.nd
  have cy := cl_Yard T
  have cs := cl_Shell T
  have co := callO_Shell T
  refine ⟨_, pss_cons (ps_set (i := 1) nd rfl (Or.inl rfl) (pe_f (ok_deck T) (g__law_deck T) (kp__law_deck T) hr (pa_cons (L2.pv 0) pa_nil)))
    (pss_cons (ps_for PassesOwn.never rfl (pi_range1 rfl (n_range T) (pa_cons pe_int pa_nil)) (pg_name (i := 2) nd rfl (Or.inl rfl))
      (pss_cons (ps_asg (pe_f (ok_lstart T) (g__law_start T) (kp__law_start T) hr (pa_cons (L2.pv 1) pa_nil)) (pg_tupU (n := 2) rfl (pgs_cons (pg_name (i := 3) nd rfl (Or.inl rfl)) (pgs_cons (pg_name (i := 4) nd rfl (Or.inl rfl)) pgs_nil))))
      (pss_cons (ps_par (i := 5) (j := 6) rfl nd rfl rfl (by decide) rfl rfl (pa_cons (pe_makeU (mk_Yard T) (ok_Yinit T) (g_Yard T) hr (pa_cons (L2.pv 3) (pa_cons (L2.pv 4) pa_nil))) (pa_cons (pe_makeU (mk_Yard T) (ok_Yinit T) (g_Yard T) hr (pa_cons (L2.pv 3) (pa_cons (L2.pv 4) pa_nil))) pa_nil)) (by rfl))
      (pss_cons (ps_set (i := 7) nd rfl (Or.inl rfl) (pe_lstU (pa_cons (pe_makeU (mk_Shell T) (ok_Sinit T) (g_Shell T) hr (pa_cons (L2.pv 5) pa_nil)) (pa_cons (pe_makeU (mk_Shell T) (ok_Sinit T) (g_Shell T) hr (pa_cons (L2.pv 5) pa_nil)) pa_nil))))
      (pss_one (ps_for PassesOwn.never rfl (pi_range1 rfl (n_range T) (pa_cons pe_int pa_nil)) (pg_name (i := 8) nd rfl (Or.inl rfl))
        (pss_cons (ps_par (i := 9) (j := 10) rfl nd rfl rfl (by decide) rfl rfl (pa_cons (pe_f (ok_lline T) (g__law_line_edit T) (kp__law_line_edit T) hr (pa_cons (L2.pv 1) (pa_cons (pe_m0 (L2.pv 5) cy (me_Yard_state_at T) (ok_state_at T) hr) pa_nil))) (pa_cons (pe_f (ok_draw T) (g__law_draw T) (kp__law_draw T) hr (pa_cons (L2.pv 1) (pa_cons pe_int pa_nil))) pa_nil)) (by rfl))
        (pss_cons (ps_par (i := 11) (j := 12) rfl nd rfl rfl (by decide) rfl rfl (pa_cons (pe_f (ok_ldone T) (g__law_done T) (kp__law_done T) hr (pa_cons (L2.pv 6) (pa_cons (L2.pv 9) pa_nil))) (pa_cons (pe_propR (pe_ix ix_listU (L2.pv 7) (pe_op op_sub pe_int (L2.pv 10)) (fun _ _ => rfl)) cs (pr_heard T) (ok_heard T) hr) pa_nil)) (by rfl))
        (pss_cons (ps_set (i := 13) nd rfl (Or.inl rfl) (pe_ifExp (pt_cmpR op_eq (pe_ix ix_tupU (L2.pv 9) pe_int (fun _ _ => rfl)) pe_str (nomark _)) (pe_op op_add_str pe_str (pe_f (ok__law_words T) (g__law_words T) (kp__law_words T) hr (pa_cons (pe_ix ix_tupU (L2.pv 9) pe_int (fun _ _ => rfl)) pa_nil))) (pe_f (ok__law_words T) (g__law_words T) (kp__law_words T) hr (pa_cons (L2.pv 9) pa_nil))))
        (pss_cons (ps_if (pt_cmpR op_eq (pe_f (ok_draw T) (g__law_draw T) (kp__law_draw T) hr (pa_cons (L2.pv 1) (pa_cons pe_int pa_nil))) pe_int (nomark _))
          (pss_one (ps_if (pt_cmpR (op_neL hr.units) (pe_f (ok_ldone T) (g__law_done T) (kp__law_done T) hr (pa_cons (L2.pv 5) (pa_cons (L2.pv 9) pa_nil))) (L2.pv 11) (nomark _)) (pss_one (ps_ret pe_bl)) pss_nil))
          (pss_one (ps_if (pt_cmpR op_ne (StX.pe_callO (E := E0) (pe_ix ix_listU (L2.pv 7) (L2.pv 10) (fun _ _ => rfl)) co (ok_Scall T hB) (hr.mono (by decide)) passL (pa_cons (L2.pv 13) pa_nil))
            (pe_ifExp (pt_cmpR op_eq (pe_ix ix_listU (L2.pv 11) pe_int (fun _ _ => rfl)) pe_str (nomark _)) (pe_op op_add_str pe_str (pe_callTy call_say (by rfl) (n_str T) b_str (pa_cons (pe_ix ix_listU (L2.pv 11) pe_int (fun _ _ => rfl)) pa_nil))) (pe_op op_add_str pe_str (pe_ix ix_listU (L2.pv 11) pe_int (fun _ _ => rfl)))) (nomark _)) (pss_one (ps_ret pe_bl)) pss_nil)))
        (pss_cons (ps_if (PW.pt (pw_or (pt_not (pt_cmpR (op_eqOwn (me_Yard_eq T).at_ (me_Yard_eq T).fn (ok_eqY T) hr pass0) (L2.pv 5) (L2.pv 6) (nomark _))) (pw_or (pt_cmpR op_ne (pe_propR (L2.pv 5) cy (pr_version T) (ok_version T) hr) (pe_propR (L2.pv 6) cy (pr_version T) (ok_version T) hr) (nomark _))
          (pw_or (pt_cmpR op_ne (pe_propR (L2.pv 5) cy (pr_news T) (ok_news T) hr) (pe_propR (L2.pv 6) cy (pr_news T) (ok_news T) hr) (nomark _))
          (pw_or1 (pt_cmpR (op_neOne hr.units) (pe_propR (pe_ix ix_listU (L2.pv 7) (pe_op op_sub pe_int (L2.pv 10)) (fun _ _ => rfl)) cs (pr_heard T) (ok_heard T) hr) (L2.pv 12) (nomark _))))))) (pss_one (ps_ret pe_bl)) pss_nil)
        (pss_one (ps_if (PW.pt (pw_and (pt_cmpR op_eq (pe_op op_mod (L2.pv 8) pe_int) pe_int (nomark _)) (pw_and1 (pt_not (pt_val (pe_f (ok_lright T hB) (g__law_is_right T) (kp__law_is_right T) hr (pa_cons (L2.pv 1) (pa_cons (pe_ix ix_listU (L2.pv 7) (L2.pv 10) (fun _ _ => rfl)) (pa_cons (L2.pv 5) pa_nil)))))))))
          (pss_one (ps_ret pe_bl)) pss_nil)))))))))))))
    (pss_one (ps_ret pe_bl))), ?_⟩
  have sz : 100000 ≤ sizeLine := by decide
  refine ⟨_, rfl, sa, ns, rfl, hS, h63, fun d b c H1 k1 d1 => ?_⟩
  have t1 := hT.kp0 k1
  refine ⟨_, rfl, by decide, by decide, ?_⟩
  refine for_P walk_r0 (fun i σ H' => (∃ x0 x2 x3 x4 x5 x6 x7 x8 x9 x10 x11 x12 x13, σ = [x0, some (.ref d), x2, x3, x4, x5, x6, x7, x8, x9, x10, x11, x12, x13]) ∧ Dk H' d b c ∧ TbI K H') ⟨⟨_, _, _, _, _, _, _, _, _, _, _, _, _, rfl⟩, d1, t1⟩ (fun _ _ _ _ _ => trivial) (fun i z σ G1 G2 hi pp yy => ?_) (fun σ H3 p3 => ?_)
  · obtain ⟨rfl, rfl⟩ := yy
    obtain ⟨⟨x0, x2, x3, x4, x5, x6, x7, x8, x9, x10, x11, x12, x13, rfl⟩, dG, tG⟩ := pp
    refine ⟨_, rfl, d, b, c, rfl, dG, fun v H1 u bx n one other box k1 d1 hv hu hb n1 n4 l1 l2 l3 b1 b2 b3 => ?_⟩
    have t1 := tG.kpL k1 dG.lists
    refine ⟨_, hv, rfl, _, _, rfl, _, _, rfl, rfl, ?_⟩
    -- the page to begin with
    have pg : PgOk 64 n ⟨one, other, box⟩ := ⟨⟨l1, fun x hx => ⟨by have := (b1 x hx).1; omega, by have := (b1 x hx).2; omega⟩⟩, ⟨l2, fun x hx => ⟨by have := (b2 x hx).1; omega, by have := (b2 x hx).2; omega⟩⟩, ⟨l3, fun x hx => ⟨by have := (b3 x hx).1; omega, (b3 x hx).2⟩⟩, n1, n4⟩
    have pg2 : PgOk 1048576 n ⟨one, other, box⟩ := pg.mono (by decide)
    refine ⟨_, rfl, _, rfl, fun a dx H2 na k2 ea => ⟨a, dx, u, bx, ⟨one, other, box⟩, n, rfl, ea, hu.kp k2, hb.kp k2, pg2, fun H3 k3 ya => ⟨rfl, ?_⟩⟩⟩
    have k13 : Kp [] H1 H3 := k2.drop k3 na
    refine ⟨_, rfl, _, rfl, fun o dx2 H4 no k4 eo => ⟨o, dx2, u, bx, ⟨one, other, box⟩, n, rfl, eo, (hu.kp k13).kp k4, (hb.kp k13).kp k4, pg2, fun H5 k5 yo => ⟨rfl, ⟨_, _, rfl, ?_⟩⟩⟩⟩
    have k35 : Kp [] H3 H5 := k4.drop k5 no
    have ao : a ≠ o := fun e => by
      obtain ⟨C, dx, fs, z⟩ := ya.isIns
      rw [e, no] at z
      cases z
    have k15 := k13.trans k35
    have ya5 := ya.kp0 k35
    refine ⟨_, rfl, fun s0 dx3 H6 ns0 k6 es0 => ⟨s0, dx3, a, rfl, es0, fun H7 lv0 k7 h0 => ⟨rfl, ?_⟩⟩⟩
    have k57 : Kp [] H5 H7 := k6.drop k7 ns0
    refine ⟨_, rfl, fun s1 dx4 H8 ns1 k8 es1 => ⟨s1, dx4, a, rfl, es1, fun H9 lv1 k9 h1 => ⟨rfl, ?_⟩⟩⟩
    have k79 : Kp [] H7 H9 := k8.drop k9 ns1
    have ss : s0 ≠ s1 := fun e => by
      obtain ⟨C, dx, fs, z⟩ := h0.isIns
      rw [e, ns1] at z
      cases z
    refine ⟨Nat.le_of_ble_eq_true rfl, fun sl H10 nsl k10 esl => ?_⟩
    have k59 := k57.trans k79
    have k19 := k15.trans k59
    have M0 : MS K H10 d b c a o sl s0 s1 s0 s1 ⟨[⟨one, other, box⟩], "same"⟩ ⟨[⟨one, other, box⟩], "same"⟩ lv0 lv1 :=
      ⟨(d1.kp0 k19).kp0 k10, (ya5.kp0 k59).kp0 k10, (yo.kp0 k59).kp0 k10, (h0.kp0 k79).kp0 k10, h1.kp0 k10, (t1.kp0 k19).kp0 k10, esl, (d1.kp0 k19).ne nsl, ao, ss⟩
    have S0 : Stp 0 n ⟨[⟨one, other, box⟩], "same"⟩ := ⟨fun S hS => by rw [List.mem_singleton.mp hS]; exact pg, Nat.le_refl _, Nat.le_refl _⟩
    refine ⟨_, rfl, by decide, by decide, ?_⟩
    refine for_P walk_r0 (fun i σ H' => (∃ x0 x2 x3 x4 x8 x9 x10 x11 x12 x13, σ = [x0, some (.ref d), x2, x3, x4, some (.ref a), some (.ref o), some (.ref sl), x8, x9, x10, x11, x12, x13]) ∧ ∃ Y l0 l1, MS K H' d b c a o sl s0 s1 s0 s1 Y Y l0 l1 ∧ Stp i n Y) ⟨⟨_, _, _, _, _, _, _, _, _, _, rfl⟩, _, _, _, M0, S0⟩ (fun _ _ _ _ _ => trivial) (fun i z σ G1 G2 hi pp yy => ?_) (fun σ H3 p3 => ?_)
    · obtain ⟨rfl, rfl⟩ := yy
      obtain ⟨⟨x0, x2, x3, x4, x8, x9, x10, x11, x12, x13, rfl⟩, Y, l0, l1, M, St⟩ := pp
      have hi12 : i < 12 := hi
      have pk := St.last (Nat.le_of_lt hi12)
      have ebl : (lastP Y.pages).box.length = n := pk.box.1
      obtain ⟨dxa, fsa, ga, onlya⟩ := M.insA
      refine ⟨_, rfl, _, rfl, a, dxa, fsa, rfl, ga, onlya _ (by decide) (by decide) (by decide) (by decide), a, Y, rfl, M.ya, fun pv hpv => ⟨d, b, c, pv, lastP Y.pages, n, rfl, M.dk, hpv, ebl, n1, n4, fun ev H1 cm us k1 d1 hev hle ok => ?_⟩⟩
      have M1 := M.draw k1 d1
      refine ⟨_, rfl, d, b, c, 2, rfl, d1, by decide, by decide, fun r H2 r0 r1 k2 d2 => ⟨_, _, rfl, ?_⟩⟩
      have M2 := M1.draw k2 d2
      have hev2 := hev.kp k2
      have hle2 := hle.kp k2
      obtain ⟨m, rfl, hm⟩ := nat_of (n := 2) r0 r1
      obtain ⟨t, u, lt, lu, N2, ht, hu, back⟩ := M2.pick hm
      have cok : CmdOk n Y cm := St.ok (Nat.le_of_lt hi12) ok
      obtain ⟨ns, lin⟩ := lined n1 n4 ok
      -- the other yard
      refine ⟨_, rfl, _, rfl, o, ev, Y, cm, n, us, rfl, hev2, hle2, N2.yo, pk, cok, fun p H3 hp k3 yo3 ep => ?_⟩
      have N3 := N2.edo k3 yo3
      have np := N2.dk.ne hp
      have hev3 := hev2.kp k3
      have hle3 := hle2.kp k3
      obtain ⟨dxu, fsu, gu⟩ := sh_ins N3.hu
      refine ⟨_, rfl, _, rfl, _, _, rfl, rfl, _, _, _, ⟨sl, rfl, N3.ls⟩, rfl, hu, u, dxu, fsu, rfl, gu, u, a, lu, rfl, N3.hu, ⟨_, _, rfl, ?_⟩⟩
      -- the line
      dsimp only
      show tSeq _ _ _ _ _
      have bnd := lin.fit.bnd
      have llen := line_len (c := cm) bnd.1 bnd.2
      show tIf _ _ _ _ _ _
      refine te_via (te := tIf _ _ _) (fun y G => y = .str (lineT cm ns) ∧ Kp [] H3 G) (fun Q' hQ => ?_) (fun y H4 hy => ?_)
      · refine ⟨_, rfl, _, _, _, hev3, rfl, atI_n 0 rfl rfl, rfl, _, rfl, ?_⟩
        cases ht : isTurn cm with
        | true =>
          obtain ⟨o', rfl⟩ : ∃ o', cm = .ed (.turn o') := by
            cases cm with
            | ed e => cases e <;> first | exact ⟨_, rfl⟩ | exact absurd ht Bool.false_ne_true
            | _ => exact absurd ht Bool.false_ne_true
          obtain ⟨e1, e2, e3⟩ := lin.trn o' rfl
          obtain ⟨w', rfl, hw⟩ := hle3
          refine ifS ⟨_, rfl, _, _, _, hev3, rfl, atI_n 1 rfl rfl, w', _, rfl, hw, e2, e3, fun G kG => ⟨_, _, rfl, rfl, ?_, ?_⟩⟩
          · rw [← txt_app_len, e1]; omega
          · exact hQ _ G ⟨congrArg V.str e1, kG⟩
        | false =>
          obtain ⟨e1, e2, e3⟩ := lin.txt ht H3 us hle3
          refine ifN (turn_not ht) ⟨_, rfl, ev, _, rfl, hev3, e2, by simp only [List.length_cons]; omega, fun G kG => ?_⟩
          exact hQ _ G ⟨congrArg V.str e1, kG⟩
      obtain ⟨rfl, k4⟩ := hy
      have N4 := N3.kp0 k4
      have ep4 := k4.get ep
      have hev4 := hev3.kp k4
      have hle4 := hle3.kp k4
      dsimp only
      show tSeq _ _ _ _ _
      refine seq_via2 (fun σ' H' => ∃ lt', σ' = [x0, some (.ref d), x2, x3, x4, some (.ref a), some (.ref o), some (.ref sl), some (.int (i : Nat)), some ev, some (.int (m : Nat)), some (.ref p), some lu, some (.str (lineT cm ns))] ∧ MS K H' d b c a o sl s0 s1 t u (ansY n Y cm) (ansY n Y cm) lt' lu) (fun D' hn => ?_) (fun σ' H' hS => ?_)
      · refine ⟨_, rfl, d, b, c, 4, rfl, N4.dk, by decide, by decide, fun r4 H5 _ _ k5 d5 => ⟨rfl, _, rfl, ?_⟩⟩
        have N5 := N4.draw k5 d5
        have ep5 := k5.old p _ ep4 (by simp [np.1, np.2.1])
        have hev5 := hev4.kp k5
        have hle5 := hle4.kp k5
        refine ite2 (fun _ => ?_) (fun _ => ?_)
        · refine ⟨_, rfl, _, rfl, a, ev, Y, cm, n, us, rfl, hev5, hle5, N5.ya, pk, cok, fun p2 H6 hp2 k6 ya6 ep2 => ?_⟩
          have ep6 := k6.old p _ ep5 (n1_of (lst_ne ep5 N5.ya.isIns))
          exact ⟨_, rfl, _, ⟨p2, rfl, ep2⟩, ⟨p, rfl, ep6⟩, dn_flat, _, rfl, iteF (hn _ _ ⟨_, rfl, N5.eda k6 ya6⟩)⟩
        · obtain ⟨dxt, fst, gt⟩ := sh_ins N5.ht
          refine ⟨_, rfl, _, rfl, _, _, _, ⟨sl, rfl, N5.ls⟩, rfl, ht, t, rfl, _, rfl, .inr ⟨dxt, fst, gt⟩, t, a, Y, lt, cm, n, ns, rfl, N5.ht, N5.ya, pk, N5.tb, cok, lin.fit, fun H6 lt' k6 tb6 ya6 ht6 => ?_⟩
          have N6 := N5.tell k6 tb6 ya6 ht6
          have ep6 := N5.keepL ep5 k6
          show tIf _ _ _ _ _ _
          refine te_via (te := tIf _ _ _) (fun y G => y = .str (dueT n Y cm) ∧ G = H6) (fun Q' hQ => ?_) (fun y G hy => ?_)
          · have hq := hQ (.str (dueT n Y cm)) H6 ⟨rfl, rfl⟩
            unfold dueT at hq
            unfold dnL at ep6
            cases e : cmdMiss n Y cm with
            | none =>
              rw [e] at hq ep6
              have vo := ver_ok St (Nat.le_of_lt hi12) ok e
              have vl := sayV_len vo
              refine ⟨_, rfl, _, _, _, ⟨p, rfl, ep6⟩, rfl, atI_n 0 rfl rfl, rfl, _, rfl, ifS ⟨_, rfl, _, _, _, ⟨p, rfl, ep6⟩, rfl, atI_n 1 rfl rfl, _, rfl, vo, _, _, rfl, rfl, ?_, hq⟩⟩
              have e8 : ("version " : Str).length = 8 := rfl
              omega
            | some x =>
              cases x with
              | none =>
                rw [e] at hq ep6
                exact ⟨_, rfl, _, _, _, ⟨p, rfl, ep6⟩, rfl, atI_n 0 rfl rfl, rfl, _, rfl, ifN (by decide +kernel) ⟨_, rfl, _, _, _, ⟨p, rfl, ep6⟩, rfl, atI_n 0 rfl rfl, _, _, rfl, rfl, Nat.le_of_ble_eq_true rfl, hq⟩⟩
              | some k =>
                rw [e] at hq ep6
                exact ⟨_, rfl, _, _, _, ⟨p, rfl, ep6⟩, rfl, atI_n 0 rfl rfl, rfl, _, rfl, ifN (by decide +kernel) ⟨_, rfl, _, _, _, ⟨p, rfl, ep6⟩, rfl, atI_n 0 rfl rfl, _, _, rfl, rfl, Nat.le_of_ble_eq_true rfl, hq⟩⟩
          obtain ⟨rfl, rfl⟩ := hy
          rw [due_ans ok]
          exact ⟨rfl, _, rfl, neF (hn _ _ ⟨_, rfl, N6⟩)⟩
      obtain ⟨lt', rfl, N⟩ := hS
      have St' := St.next ok
      have pk' := St'.last (show i + 1 ≤ 12 by omega)
      generalize ansY n Y cm = Y' at N St' pk'
      obtain ⟨dxa, fsa, ga, _⟩ := N.ya.ins
      obtain ⟨dxo, fso, go, _⟩ := N.yo.ins
      obtain ⟨dxu, fsu, gu⟩ := sh_ins N.hu
      obtain ⟨xs, hxs⟩ := sh_lines N.hu
      refine ⟨_, rfl, _, rfl, a, o, dxa, dxo, fsa, fso, rfl, rfl, ga, go, a, o, Y', Y', rfl, N.ya, N.yo, rfl, _, rfl, iteF ?_⟩
      refine ⟨_, rfl, a, dxa, fsa, rfl, ga, a, Y', rfl, N.ya, _, rfl, o, dxo, fso, rfl, go, o, Y', rfl, N.yo, rfl, _, rfl, neF ?_⟩
      refine ⟨_, rfl, a, dxa, fsa, rfl, ga, a, Y', rfl, N.ya, _, rfl, o, dxo, fso, rfl, go, o, Y', rfl, N.yo, rfl, _, rfl, neF ?_⟩
      refine ⟨_, rfl, _, rfl, _, _, rfl, rfl, _, _, _, ⟨sl, rfl, N.ls⟩, rfl, hu, u, dxu, fsu, rfl, gu, u, a, lu, rfl, N.hu, _, rfl, xs, hxs, rfl, _, rfl, iteF ?_⟩
      refine ⟨_, rfl, _, _, rfl, rfl, (show (0 : Int) < 3 by decide), rfl, _, rfl, ?_⟩
      refine ite2 (fun _ => ?_) (fun _ => iteF ?_)
      · refine ⟨_, rfl, _, rfl, _, rfl, _, _, _, ⟨sl, rfl, N.ls⟩, rfl, ht, _, rfl, d, b, c, a, t, Y', n, lt', rfl, N.LSof pk', fun H7 lt7 k7 L7 => ⟨_, rfl, iteF ?_⟩⟩
        obtain ⟨m0, m1, MM⟩ := back _ _ _ _ _ (N.right k7 L7)
        exact ⟨⟨_, _, _, _, _, _, _, _, _, _, rfl⟩, Y', m0, m1, MM, St'⟩
      · obtain ⟨m0, m1, MM⟩ := back _ _ _ _ _ N
        exact ⟨⟨_, _, _, _, _, _, _, _, _, _, rfl⟩, Y', m0, m1, MM, St'⟩
    · obtain ⟨⟨x0, x2, x3, x4, x8, x9, x10, x11, x12, x13, rfl⟩, Y, l0, l1, M, St⟩ := p3
      exact ⟨⟨_, _, _, _, _, _, _, _, _, _, _, _, _, rfl⟩, M.dk, M.tb⟩
  · exact q H3
end
end TB
set_option maxHeartbeats 0
namespace TB
open PySem PySem.Spec PyProof.Rows L2
theorem law_at {w : World} {mg : Str → Option Value} {f : Addr} {h : Heap} (Y : ∃ K : PySem.W.Frag, K.In h ∧ SaysZ w h K) (G : h.Ns mainGlobals mg) (hmg : mg "law" = some (.ref f)) :
    ∃ K : PySem.W.Frag, K.In h ∧ LamX.LawAtS PySem.Challenge.rw_twobricks_k90_whole_shells_and_methods w K CX0 17 63 "_law_script" mg f h := by
  obtain ⟨K, KX, c⟩ := Y
  have T : TX w K mg := ⟨h, KX, G, c⟩
  have e := hmg.symm.trans (g_law T)
  cases e
  obtain ⟨fd, F⟩ := f_law T
  have tfm : (("sum_at", none) : He.Defn) ∈ tf := List.mem_singleton.mpr rfl
  refine ⟨K, KX, fd, [He.cT K ("sum_at", none)], sp_law K, fun p hp => ?_, fun p hp => ?_, fun p hp => ?_, ?_, ?_, ?_⟩
  · rw [List.mem_singleton.mp hp]; exact c.x.empty _ tfm
  · rw [List.mem_singleton.mp hp]; exact c.x.out _ tfm
  · rw [List.mem_singleton.mp hp]; exact PySem.W.codeHd_of_K KX (c.x.hd _ tfm)
  · exact fun s u => FunD.bindsA (ps := ["_law_script"]) F (fun _ _ _ _ _ _ us hl => match us, hl with | [_], _ => rfl) s [u] rfl
  · intro H a ns hl _ ht hS
    exact ⟨a, ns, rfl, hS, hl, LamX.TabS.nil (ht _ (List.mem_singleton.mpr rfl)), fun _ => rfl⟩
  · intro base KB GB hT
    have hB := hT _ (List.mem_singleton.mpr rfl)
    exact F.ok sc_law (fun vs H Q E ⟨_, _, e, _⟩ => by rw [e]; rfl) fun cdv A outer s H vs Q E hr h => let ⟨t, p, q⟩ := law_body (base := base) T hB cdv A outer s H vs Q E hr h; ⟨t, PSs.nox p, q⟩
end TB
set_option maxHeartbeats 0
open PySem PySem.W PySem.Calls PyProof.Rows
theorem PySem.Challenge.cw_twobricks_k90_whole_shells_and_methods_holds : PySem.Challenge.rw_twobricks_k90_whole_shells_and_methods.Holds := by
  w_on; o_law
  refine HandSHeadRun.head_any (r := TH.R) (q := TH.qv) (H := TB.hookZ) (ob := TH.ob) (M := 40000) (loose := TH.names) (d := HandSHeadRun.topDef TH.R.prog 119) (kwd := []) TH.ob_eq
    (by kernel_rfl) (fun s => by kernel_rfl) TH.run (by kernel_rfl) (by kernel_rfl) (by kernel_rfl) (by rfl) (by first | assumption | decide +kernel) (by decide +kernel) ⟨rfl, rfl, rfl, rfl, rfl, by decide +kernel⟩ ?hw ?hc
  case hw => w_witness2
  case hc =>
    refine LamX.walk_ofTsE (l := PySem.Challenge.rw_twobricks_k90_whole_shells_and_methods) (n := 63) (k := 17) (x := "_law_script") (CX := fun _ => L2.CX0) rfl (by decide) (by kernel_rfl) ⟨rfl, by decide, by decide⟩ ?F (fun _ _ _ _ _ z => z)
    intro w mg f h Y G hmg0
    have hmg : mg ("law" : PySem.Str) = some (.ref f) := by
      have e : (HandSHeadRun.topDef TH.R.prog 119).name = ("law" : PySem.Str) := by kernel_rfl
      rw [← e]
      exact hmg0
    exact TB.law_at Y G hmg
