import PyProof.Rows.All
import Wide.All
import OpenK.AllK
import Wide.FinOn
import Lean
import HandS.ForMost
import HandS.ForExc
import HandS.Flow
import HandS.IsInst
import HandS.Strs
import HandS.SetKeys
import HandS.SetBool
import HandS.Conv
import HandS.Codes
import HandS.Defaults
import HandS.MakeKwOnly
import HandS.Property
import HandS.TryMany
import HandS.ExcInit
import HandS.ExcField
import HandS.FStr
import HandS.Walk
import HandS.Zip
import HandS.Wide
import HandS.More
import HandS.Deep
import HandS.TupAny
import HandS.StrMore
import HandS.RaiseMore
import HandS.SortInts
import HandS.Style
import HandS.NoneIn
import HandS.Head0
import HandS.Head1
import HandS.Head2
import HandS.HeadEnd
import HandS.HeadHook1
import HandS.HeadHook2
import HandS.ClsMeth
import HandS.Small
import PySem.Challenge.RW_seenrules_k56_whole_neighbours_exchanged
import PyProof.Rows.FactsExc_KeyError
import KE.KStateDown
import KE.KExcInit
import HandS.SetFor
import KE.GoesNew
import HandS.Text
import PyProof.StrLawsRepr
import KE.KCallOwn
import HandS.List
import PyProof.ReprRoads
import PyProof.ReprLen
import HandS.TupLe
set_option Elab.async false
set_option linter.all false
set_option maxRecDepth 100000
set_option maxHeartbeats 2000000
/-! The base: places of the text, what the top leaves, calls in short, the frozen part of the heap. -/
namespace K5
open PySem PySem.Spec PyProof.Rows L2

def top (i : Nat) : Stmt := PySem.Challenge.pw_seenrules_k56_whole_neighbours_exchanged.main.body.getD i (.Pass ⟨0, 0, 0, 0⟩)

/-! ### defs, methods, properties that the top leaves -/
structure HasDef (K : PySem.W.Frag) (mg : Str → Option Value) (x : Str) (st : Stmt) : Prop where
  ex : ∃ f fd, mg x = some (.ref f) ∧ FunD K x x (defArgs st) (defBody st) (defScope st) [] [] f fd
structure HasMet (K : PySem.W.Frag) (C : Addr) (m qual : Str) (st : Stmt) : Prop where
  ex : ∃ f fd, Meth K C m f ∧ FunD K m qual (defArgs st) (defBody st) (defScope st) [] [] f fd
structure HasProp (K : PySem.W.Frag) (C : Addr) (m qual : Str) (st : Stmt) : Prop where
  ex : ∃ p g fd, PropOf K C m p g ∧ FunD K m qual (defArgs st) (defBody st) (defScope st) [] [] g fd

structure Cal (P : Program) (w : World) (K : PySem.W.Frag) (mg : Str → Option Value) (base : Heap) (CX : CXT) (k : Nat) (x : Str) (sp : Sp) : Prop where
  ex : ∃ f fd ps, FnOk P w K mg base CX k f fd ps sp ∧ mg x = some (.ref f) ∧ PySem.W.keepIn K (.ref f) = true ∧ Binds K fd ps []
structure Met (P : Program) (w : World) (K : PySem.W.Frag) (mg : Str → Option Value) (base : Heap) (CX : CXT) (k : Nat) (C : Addr) (m : Str) (sp : Sp) : Prop where
  ex : ∃ f fd ps, Meth K C m f ∧ FnOk P w K mg base CX k f fd ps sp ∧ Binds K fd ps []
structure Prp (P : Program) (w : World) (K : PySem.W.Frag) (mg : Str → Option Value) (base : Heap) (CX : CXT) (k : Nat) (C : Addr) (m : Str) (sp : Sp) : Prop where
  ex : ∃ p g fd ps, PropOf K C m p g ∧ FnOk P w K mg base CX k g fd ps sp ∧ Binds K fd ps []

section
variable {P : Program} {w : World} {K : PySem.W.Frag} {mg : Str → Option Value} {base : Heap} {x m qual : Str} {st : Stmt} {N ps : List Str} {k : Nat} {sp : Sp} {C : Addr}
abbrev BodyOk (P : Program) (w : World) (K : PySem.W.Frag) (mg : Str → Option Value) (base : Heap) (st : Stmt) (x : Str) (N : List Str) (k : Nat) (sp : Sp) : Prop :=
  ∀ (f : Addr) (cdv : Value) (A : Around) (outer : List Env) (s : Shared) (H : Hp) (vs : List V) (Q : VK) (E : XK), Room k (A.deeper (envOfC x (defScope st) s.heap.objs.size f cdv)) → sp vs H Q E →
    ∃ t, PSs (cxOf CX0 P w K mg base N x (defScope st) f cdv A outer s H E).nox (defBody st) t ∧ t { nx := fun _ H' => Q .non H', rt := Q } (start N vs) H
abbrev BodyOkX (P : Program) (w : World) (K : PySem.W.Frag) (mg : Str → Option Value) (base : Heap) (st : Stmt) (x : Str) (N : List Str) (k : Nat) (sp : Sp) : Prop :=
  ∀ (f : Addr) (cdv : Value) (A : Around) (outer : List Env) (s : Shared) (H : Hp) (vs : List V) (Q : VK) (E : XK), Room k (A.deeper (envOfC x (defScope st) s.heap.objs.size f cdv)) → sp vs H Q E →
    ∃ t, PSs (cxOf (L2.CX P w) P w K mg base N x (defScope st) f cdv A outer s H E) (defBody st) t ∧ t { nx := fun _ H' => Q .non H', rt := Q } (start N vs) H
abbrev BindOk (st : Stmt) (x qual : Str) (ps : List Str) : Prop :=
  ∀ (kV doc pm : Value) (an : Option Addr) (cdv ct : Value) (us : List Value), us.length = ps.length → bindArgs (PySem.W.fnOf x qual (defArgs st) (defBody st) (defScope st) .none kV doc pm an cdv ct) ⟨us, []⟩ = pure (ps.zip us)

theorem cal_of (D : HasDef K mg x st) (hb : BindOk st x x ps) (S : FnScope N ps (defScope st)) (len : ∀ vs H Q E, sp vs H Q E → vs.length = ps.length) (body : BodyOk P w K mg base st x N k sp) : Cal P w K mg base CX0 (k + 1) x sp := by
  obtain ⟨f, fd, hm, F⟩ := D.ex
  refine ⟨f, fd, ps, F.ok S len fun cdv A outer s H vs Q E hr h => ?_, hm, F.kp, F.bindsN hb⟩
  obtain ⟨t, h1, h2⟩ := body f cdv A outer s H vs Q E hr h
  exact ⟨t, h1.nox, h2⟩
theorem cal_ofX (D : HasDef K mg x st) (hb : BindOk st x x ps) (S : FnScope N ps (defScope st)) (len : ∀ vs H Q E, sp vs H Q E → vs.length = ps.length) (body : BodyOkX P w K mg base st x N k sp) : Cal P w K mg base (L2.CX P w) (k + 1) x sp := by
  obtain ⟨f, fd, hm, F⟩ := D.ex
  exact ⟨f, fd, ps, F.ok S len fun cdv A outer s H vs Q E hr h => body f cdv A outer s H vs Q E hr h, hm, F.kp, F.bindsN hb⟩
theorem met_of (D : HasMet K C m qual st) (hb : BindOk st m qual ps) (S : FnScope N ps (defScope st)) (len : ∀ vs H Q E, sp vs H Q E → vs.length = ps.length) (body : BodyOk P w K mg base st qual N k sp) : Met P w K mg base CX0 (k + 1) C m sp := by
  obtain ⟨f, fd, hm, F⟩ := D.ex
  refine ⟨f, fd, ps, hm, F.ok S len fun cdv A outer s H vs Q E hr h => ?_, F.bindsN hb⟩
  obtain ⟨t, h1, h2⟩ := body f cdv A outer s H vs Q E hr h
  exact ⟨t, h1.nox, h2⟩
theorem prp_of (D : HasProp K C m qual st) (hb : BindOk st m qual ps) (S : FnScope N ps (defScope st)) (len : ∀ vs H Q E, sp vs H Q E → vs.length = ps.length) (body : BodyOk P w K mg base st qual N k sp) : Prp P w K mg base CX0 (k + 1) C m sp := by
  obtain ⟨p, g, fd, hm, F⟩ := D.ex
  refine ⟨p, g, fd, ps, hm, F.ok S len fun cdv A outer s H vs Q E hr h => ?_, F.bindsN hb⟩
  obtain ⟨t, h1, h2⟩ := body g cdv A outer s H vs Q E hr h
  exact ⟨t, h1.nox, h2⟩
end

/-! ### calls in short -/
section
variable {X : Cx} {k j : Nat} {C : Addr} {x m : Str} {sp : Sp} {p pos apos : Pos} {e o : Expr} {es : List Expr} {ta : TE} {t : TA}
theorem pcal (c : Cal X.prog X.w X.K X.mg X.base CX0 k x sp) (hr : Room j X.A) (hk : k ≤ j) (hg : Gl X x) (ha : PA X (e :: es) t)
    (hdb : (x == ("__debug__" : Str)) = false := by decide) (he : starEach (e :: es) X.env = (false, eval e X.env) :: starEach es X.env := by rfl) (hpl : (backTo pos (starEach es X.env)).any (·.1) = false := by rfl) :
    PE X (.Call (.Name x p) (e :: es) [] pos) (tCall sp [] E0 t) := by
  obtain ⟨f, fd, ps, F, hm, kp, b⟩ := c.ex
  exact pe_call F (hr.mono hk) hg hm kp b .nil pass0 ha hdb he hpl
/-- a def that may raise, where it does not -/
theorem pcalL (c : Cal X.prog X.w X.K X.mg X.base (L2.CX X.prog X.w) k x sp) (hr : Room j X.A) (hk : k ≤ j) (hg : Gl X x) (ha : PA X (e :: es) t)
    (hdb : (x == ("__debug__" : Str)) = false := by decide) (he : starEach (e :: es) X.env = (false, eval e X.env) :: starEach es X.env := by rfl) (hpl : (backTo pos (starEach es X.env)).any (·.1) = false := by rfl) :
    PE X (.Call (.Name x p) (e :: es) [] pos) (tCall sp [] E0 t) := by
  obtain ⟨f, fd, ps, F, hm, kp, b⟩ := c.ex
  exact pe_call F (hr.mono hk) hg hm kp b .nil passL ha hdb he hpl
theorem pmet {pl : Sem Bool} (c : Met X.prog X.w X.K X.mg X.base CX0 k C m sp) (hr : Room j X.A) (hk : k ≤ j) (hc : Cls X.K C) (he : PE X o ta) (ha : PA X (e :: es) t)
    (hst : starEach (e :: es) X.env = (false, eval e X.env) :: starEach es X.env := by rfl) (hpl : (backTo pos (starEach es X.env)).any (·.1) = false := by rfl)
    (ht : eval (.Call (.Attribute o m apos) (e :: es) [] pos) X.env = (do
      let ov ← eval o X.env
      standAt apos.atName
      let (f, first) ← holding [ov] (getMethod ov m pl)
      callWith pos f first (backTo pos (starEach (e :: es) X.env)) (backToKw pos (keywordEach [] X.env))) := by rfl) :
    PE X (.Call (.Attribute o m apos) (e :: es) [] pos) (tMeth C m sp [] E0 ta t) := by
  obtain ⟨f, fd, ps, hm, F, b⟩ := c.ex
  exact pe_meth (pl := pl) he hc hm F (hr.mono hk) b .nil pass0 ha hst hpl ht
theorem pmet0 {pl : Sem Bool} (c : Met X.prog X.w X.K X.mg X.base CX0 k C m sp) (hr : Room j X.A) (hk : k ≤ j) (hc : Cls X.K C) (he : PE X o ta)
    (ht : eval (.Call (.Attribute o m apos) [] [] pos) X.env = (do
      let ov ← eval o X.env
      standAt apos.atName
      let (f, first) ← holding [ov] (getMethod ov m pl)
      callWith pos f first (backTo pos (starEach [] X.env)) (backToKw pos (keywordEach [] X.env))) := by rfl) :
    PE X (.Call (.Attribute o m apos) [] [] pos) (tMeth C m sp [] E0 ta tNil) := by
  obtain ⟨f, fd, ps, hm, F, b⟩ := c.ex
  exact pe_meth0 (pl := pl) he hc hm F (hr.mono hk) b .nil pass0 ht
theorem pprp (c : Prp X.prog X.w X.K X.mg X.base CX0 k C m sp) (hr : Room j X.A) (hk : k + 1 ≤ j) (hc : Cls X.K C) (he : PE X o ta)
    (hab : attributeBase o m X.env (eval o X.env) = eval o X.env := by rfl) : PE X (.Attribute o m pos) (tProp C sp [] E0 ta) := by
  obtain ⟨p, g, fd, ps, hm, F, b⟩ := c.ex
  exact pe_prop he hc hm F (hr.mono hk) b .nil pass0 hab
/-- a module's constant -/
theorem gc {v : V} (hg : Gl X x) (h : ∃ u, X.mg x = some u ∧ RelV v u) (hd : (x == ("__debug__" : Str)) = false := by decide) : PE X (.Name x pos) (tC v) := by
  obtain ⟨u, hm, r⟩ := h
  exact pe_glob hg hm r hd
end

/-! ### the heap: what is frozen (B, within H), steps that keep it -/
theorem same_tup {K : PySem.W.Frag} {H H' : Hp} {a : Addr} {xs : List V} (e : Same H H') (h : SqT K H a xs) : SqT K H' a xs := by
  rcases h with (h | ⟨o, h⟩) | h
  · exact .inl (.inl (e _ _ h))
  · exact .inl (.inr ⟨o, e _ _ h⟩)
  · exact .inr h
/-- from (B, H) to (B', H'): all stays, what is newly frozen is new -/
structure Step (B H B' H' : Hp) : Prop where
  s0 : Same B H
  hh : Same H H'
  bb : Same B B'
  bh : Same B' H'
  fr : ∀ b o, H b = some o → B' b = B b
theorem Step.refl {B H : Hp} (s : Same B H) : Step B H B H := ⟨s, Same.refl _, Same.refl _, s, fun _ _ _ => rfl⟩
theorem Step.trans {B H B1 H1 B2 H2 : Hp} (a : Step B H B1 H1) (b : Step B1 H1 B2 H2) : Step B H B2 H2 :=
  ⟨a.s0, a.hh.trans b.hh, a.bb.trans b.bb, b.bh, fun c o e => (b.fr c o (a.hh c o e)).trans (a.fr c o e)⟩
/-- a new thing, not frozen -/
theorem Step.tmp {B H : Hp} {p : Addr} {o : HO} (s : Same B H) (hp : H p = none) : Step B H B (upd H p o) :=
  ⟨s, fun b u e => by rw [upd_ne (ne_of_none e hp)]; exact e, Same.refl _, fun b u e => by rw [upd_ne (ne_of_none (s b u e) hp)]; exact s b u e, fun _ _ _ => rfl⟩
/-- a thing that was made since is frozen -/
theorem Step.frz {B H B' H' : Hp} {p : Addr} {o : HO} (a : Step B H B' H') (hp : H p = none) (e : H' p = some o) : Step B H (upd B' p o) H' := by
  refine ⟨a.s0, a.hh, fun b u z => ?_, fun b u z => ?_, fun b u z => ?_⟩
  · rw [upd_ne (ne_of_none (a.s0 b u z) hp)]
    exact a.bb b u z
  · by_cases hb : b = p
    · subst hb
      rw [upd_same] at z
      cases z
      exact e
    · rw [upd_ne hb] at z
      exact a.bh b u z
  · rw [upd_ne (ne_of_none z hp)]
    exact a.fr b u z
theorem Step.new {B H : Hp} {p : Addr} {o : HO} (s : Same B H) (hp : H p = none) : Step B H (upd B p o) (upd H p o) := (Step.tmp s hp).frz hp upd_same
theorem Step.same {B H H' : Hp} (s : Same B H) (h : Same H H') : Step B H B H' := ⟨s, h, Same.refl _, s.trans h, fun _ _ _ => rfl⟩
theorem Step.none {B H B' H' : Hp} (a : Step B H B' H') {b : Addr} {o : HO} (e : H b = some o) (n : B b = Option.none) : B' b = Option.none := (a.fr b o e).trans n

/-! ### data -/
abbrev Tst := Str × Str × V
abbrev Rul := List Tst × Str
def StA (_ : PySem.W.Frag) (_ : Hp) (v : V) (s : Str) : Prop := v = .str s
def VaA (_ : PySem.W.Frag) (_ : Hp) (v : V) (x : V) : Prop := v = x
/-- a list, a tuple of things -/
def LiA {α : Type} (R : PySem.W.Frag → Hp → V → α → Prop) (K : PySem.W.Frag) (B : Hp) (v : V) (l : List α) : Prop := ∃ a xs, v = .ref a ∧ SqL K B a xs ∧ Paired (R K B) xs l
def TuA {α : Type} (R : PySem.W.Frag → Hp → V → α → Prop) (K : PySem.W.Frag) (B : Hp) (v : V) (l : List α) : Prop := ∃ a xs, v = .ref a ∧ SqT K B a xs ∧ Paired (R K B) xs l
def TsA (K : PySem.W.Frag) (B : Hp) (v : V) (t : Tst) : Prop := ∃ a, v = .ref a ∧ SqT K B a [.str t.1, .str t.2.1, t.2.2]
def FiA (K : PySem.W.Frag) (B : Hp) (v : V) (f : Str × Str) : Prop := ∃ a, v = .ref a ∧ SqT K B a [.str f.1, .str f.2]
/-- a rule as it is passed (a list of tests), as it is held (a tuple of tests) -/
def RuA (K : PySem.W.Frag) (B : Hp) (v : V) (r : Rul) : Prop := ∃ a u, v = .ref a ∧ SqT K B a [u, .str r.2] ∧ LiA TsA K B u r.1
def RtA (K : PySem.W.Frag) (B : Hp) (v : V) (r : Rul) : Prop := ∃ a u, v = .ref a ∧ SqT K B a [u, .str r.2] ∧ TuA TsA K B u r.1

abbrev Mono {α : Type} (R : PySem.W.Frag → Hp → V → α → Prop) : Prop := ∀ (K : PySem.W.Frag) (B B' : Hp) (v : V) (x : α), Same B B' → R K B v x → R K B' v x
theorem StA.mono : Mono StA := fun _ _ _ _ _ _ h => h
theorem VaA.mono : Mono VaA := fun _ _ _ _ _ _ h => h
theorem LiA.mono {α : Type} {R : PySem.W.Frag → Hp → V → α → Prop} (m : Mono R) : Mono (LiA R) := fun K _ _ _ _ s ⟨a, xs, e, q, p⟩ => ⟨a, xs, e, s.seq q, Paired.mapP p fun _ _ z => m _ _ _ _ _ s z⟩
theorem TuA.mono {α : Type} {R : PySem.W.Frag → Hp → V → α → Prop} (m : Mono R) : Mono (TuA R) := fun K _ _ _ _ s ⟨a, xs, e, q, p⟩ => ⟨a, xs, e, same_tup s q, Paired.mapP p fun _ _ z => m _ _ _ _ _ s z⟩
theorem TsA.mono : Mono TsA := fun _ _ _ _ _ s ⟨a, e, q⟩ => ⟨a, e, same_tup s q⟩
theorem FiA.mono : Mono FiA := fun _ _ _ _ _ s ⟨a, e, q⟩ => ⟨a, e, same_tup s q⟩
theorem RuA.mono : Mono RuA := fun _ _ _ _ _ s ⟨a, u, e, q, l⟩ => ⟨a, u, e, same_tup s q, LiA.mono TsA.mono _ _ _ _ _ s l⟩
theorem RtA.mono : Mono RtA := fun _ _ _ _ _ s ⟨a, u, e, q, l⟩ => ⟨a, u, e, same_tup s q, TuA.mono TsA.mono _ _ _ _ _ s l⟩
theorem paired_mono {α : Type} {R : PySem.W.Frag → Hp → V → α → Prop} (m : Mono R) {K : PySem.W.Frag} {B B' : Hp} (s : Same B B') {xs : List V} {l : List α} (p : Paired (R K B) xs l) : Paired (R K B') xs l := Paired.mapP p fun _ _ z => m _ _ _ _ _ s z
/-- pairs by place -/
theorem paired_at {α β : Type} {F : α → β → Prop} : ∀ {xs : List α} {l : List β} {i : Nat} {x : α}, Paired F xs l → xs[i]? = some x → ∃ y, l[i]? = some y ∧ F x y
  | _, _, _, _, .nil, e => by simp at e
  | _, _, 0, _, .cons r _, e => by simp at e; subst e; exact ⟨_, rfl, r⟩
  | _, _, i + 1, x, .cons _ t, e => by
    obtain ⟨y, h1, h2⟩ := paired_at (i := i) (x := x) t (by simpa using e)
    exact ⟨y, by simpa using h1, h2⟩
theorem paired_ta {α β : Type} {F : α → β → Prop} : ∀ {xs : List α} {l : List β} {i : Nat} {y : β}, Paired F xs l → l[i]? = some y → ∃ x, xs[i]? = some x ∧ F x y
  | _, _, _, _, .nil, e => by simp at e
  | _, _, 0, _, .cons r _, e => by simp at e; subst e; exact ⟨_, rfl, r⟩
  | _, _, i + 1, y, .cons _ t, e => by
    obtain ⟨x, h1, h2⟩ := paired_ta (i := i) (y := y) t (by simpa using e)
    exact ⟨x, by simpa using h1, h2⟩
theorem paired_app {α β : Type} {F : α → β → Prop} : ∀ {xs ys : List α} {l m : List β}, Paired F xs l → Paired F ys m → Paired F (xs ++ ys) (l ++ m)
  | _, _, _, _, .nil, s => s
  | _, _, _, _, .cons r t, s => .cons r (paired_app t s)
theorem paired_strs {K : PySem.W.Frag} {B : Hp} : ∀ {xs : List V} {l : List Str}, Paired (StA K B) xs l → xs = l.map V.str
  | _, _, .nil => rfl
  | _, _, .cons r t => by
    rw [show _ = V.str _ from r, paired_strs t]
    rfl
theorem paired_of_strs {K : PySem.W.Frag} {B : Hp} : ∀ (l : List Str), Paired (StA K B) (l.map V.str) l
  | [] => .nil
  | x :: l => .cons rfl (paired_of_strs l)
theorem paired_vals {K : PySem.W.Frag} {B : Hp} : ∀ {xs l : List V}, Paired (VaA K B) xs l → xs = l
  | _, _, .nil => rfl
  | _, _, .cons r t => by
    rw [show _ = _ from r, paired_vals t]
theorem paired_of_vals {K : PySem.W.Frag} {B : Hp} : ∀ (l : List V), Paired (VaA K B) l l
  | [] => .nil
  | x :: l => .cons rfl (paired_of_vals l)
theorem take_succ_of {α : Type} {l : List α} {i : Nat} {x : α} (h : l[i]? = some x) : l.take (i + 1) = l.take i ++ [x] := by
  rw [List.take_add_one, h]
  rfl
end K5
set_option Elab.async false
set_option linter.all false
set_option maxRecDepth 100000
set_option maxHeartbeats 2000000
/-! What the top leaves (printed by top.py). -/
namespace K5
open PySem PySem.Spec PyProof.Rows L2

abbrev s_is_integer : Stmt := top 22
abbrev s_is_word : Stmt := top 23
abbrev s_is_number : Stmt := top 24
abbrev s_is_sequence : Stmt := top 25
abbrev s_all_unlike : Stmt := top 26
abbrev s_first_other : Stmt := top 28
abbrev s_is_field : Stmt := top 38
abbrev s_are_fields : Stmt := top 39
abbrev s_are_answers : Stmt := top 40
abbrev s_is_value : Stmt := top 42
abbrev s_need_kind : Stmt := top 46
abbrev s_meets_test : Stmt := top 47
abbrev s_meets_all : Stmt := top 48
abbrev s_is_answer : Stmt := top 53
abbrev s_is_rule : Stmt := top 54
abbrev s_are_rules : Stmt := top 55
abbrev s_need_list : Stmt := top 63
abbrev s_tests_of : Stmt := top 64
abbrev s_word_members : Stmt := top 65
abbrev s_number_members : Stmt := top 66
abbrev s_members : Stmt := top 67
abbrev s_grid : Stmt := top 68
abbrev s_first_difference : Stmt := top 69
abbrev s_may_swap : Stmt := top 70
abbrev s__law_cell : Stmt := top 72
abbrev s__law_box : Stmt := top 73
abbrev s__law_take : Stmt := top 74
abbrev s__law_words : Stmt := top 75
abbrev s__law_numbers : Stmt := top 76
abbrev s__law_kind : Stmt := top 77
abbrev s__law_pools : Stmt := top 78
abbrev s__law_meets : Stmt := top 80
abbrev s__law_all : Stmt := top 81
abbrev s__law_test : Stmt := top 82
abbrev s__law_rules : Stmt := top 83
abbrev s__law_decides : Stmt := top 84
abbrev s__law_answer : Stmt := top 85
abbrev s__law_tests_of : Stmt := top 86
abbrev s__law_members : Stmt := top 87
abbrev s__law_grid : Stmt := top 88
abbrev s__law_scene : Stmt := top 89
abbrev s__law_two : Stmt := top 90
abbrev s__law_border : Stmt := top 91
abbrev s__law_great : Stmt := top 92
abbrev s__law_caught : Stmt := top 93
abbrev s__law_may : Stmt := top 94
abbrev s__law_great_right : Stmt := top 95
abbrev s_law : Stmt := top 96
abbrev s_Kind_fields : Stmt := inClass (top 41) 3
abbrev s_Kind_names : Stmt := inClass (top 41) 4
abbrev s_Kind_answers : Stmt := inClass (top 41) 5
abbrev s_Kind_sort_of : Stmt := inClass (top 41) 7
abbrev s_Kind_place_of : Stmt := inClass (top 41) 8
abbrev s_Kind_is_test : Stmt := inClass (top 41) 12
abbrev s_Kind___str__ : Stmt := inClass (top 41) 14
abbrev s_Kind___repr__ : Stmt := inClass (top 41) 15
abbrev s_RuleList_rules : Stmt := inClass (top 56) 3
abbrev s_RuleList_place_for : Stmt := inClass (top 56) 11
abbrev s_RuleList_answer_for : Stmt := inClass (top 56) 12
abbrev s_Kind_width : Stmt := inClass (top 41) 2
abbrev s_RuleList_kind : Stmt := inClass (top 56) 2
abbrev s_Kind___init__ : Stmt := inClass (top 41) 0
abbrev s_RuleList___init__ : Stmt := inClass (top 56) 0

abbrev cK (K : PySem.W.Frag) : Addr := He.ga K "Kind"
abbrev cR (K : PySem.W.Frag) : Addr := He.ga K "RuleList"
structure Top (K : PySem.W.Frag) (mg : Str → Option Value) : Prop where
  f_len : mg "len" = none
  f_isinstance : mg "isinstance" = none
  f_int : mg "int" = none
  f_bool : mg "bool" = none
  f_str : mg "str" = none
  f_list : mg "list" = none
  f_tuple : mg "tuple" = none
  f_all : mg "all" = none
  f_sorted : mg "sorted" = none
  f_set : mg "set" = none
  f_range : mg "range" = none
  f_max : mg "max" = none
  f_min : mg "min" = none
  f_enumerate : mg "enumerate" = none
  f_zip : mg "zip" = none
  f_repr : mg "repr" = none
  f_ValueError : mg "ValueError" = none
  f_KeyError : mg "KeyError" = none
  c_LETTERS : ∃ u, mg "LETTERS" = some u ∧ RelV (.str "abcdefghijklmnopqrstuvwxyz") u
  c_DIGITS : ∃ u, mg "DIGITS" = some u ∧ RelV (.str "0123456789") u
  c_MOST_LETTERS : ∃ u, mg "MOST_LETTERS" = some u ∧ RelV (.int 6) u
  c_MOST_WORDS : ∃ u, mg "MOST_WORDS" = some u ∧ RelV (.int 100) u
  c_MOST_NUMBER : ∃ u, mg "MOST_NUMBER" = some u ∧ RelV (.int 9999) u
  c_MOST_FIELDS : ∃ u, mg "MOST_FIELDS" = some u ∧ RelV (.int 4) u
  c_MOST_ANSWERS : ∃ u, mg "MOST_ANSWERS" = some u ∧ RelV (.int 5) u
  c_MOST_WIDTH : ∃ u, mg "MOST_WIDTH" = some u ∧ RelV (.int 2) u
  c_BAR : ∃ u, mg "BAR" = some u ∧ RelV (.str " | ") u
  c_NO_FIELDS : ∃ u, mg "NO_FIELDS" = some u ∧ RelV (.str "-") u
  c_MOST_RULES : ∃ u, mg "MOST_RULES" = some u ∧ RelV (.int 24) u
  c_IF : ∃ u, mg "IF" = some u ∧ RelV (.str " if ") u
  c_AND : ∃ u, mg "AND" = some u ∧ RelV (.str " and ") u
  c_MOST_GROUPS : ∃ u, mg "MOST_GROUPS" = some u ∧ RelV (.int 2000) u
  c_SORTS : ∃ u, mg "SORTS" = some u ∧ RelV (.ref (He.ga K "SORTS")) u
  t_SORTS : ∀ H, SqT K H (He.ga K "SORTS") [.str "word", .str "number"]
  c_WORD_OPERATORS : ∃ u, mg "WORD_OPERATORS" = some u ∧ RelV (.ref (He.ga K "WORD_OPERATORS")) u
  t_WORD_OPERATORS : ∀ H, SqT K H (He.ga K "WORD_OPERATORS") [.str "is", .str "not"]
  c_NUMBER_OPERATORS : ∃ u, mg "NUMBER_OPERATORS" = some u ∧ RelV (.ref (He.ga K "NUMBER_OPERATORS")) u
  t_NUMBER_OPERATORS : ∀ H, SqT K H (He.ga K "NUMBER_OPERATORS") [.str "most", .str "least"]
  d_is_integer : HasDef K mg "is_integer" s_is_integer
  d_is_word : HasDef K mg "is_word" s_is_word
  d_is_number : HasDef K mg "is_number" s_is_number
  d_is_sequence : HasDef K mg "is_sequence" s_is_sequence
  d_all_unlike : HasDef K mg "all_unlike" s_all_unlike
  d_first_other : HasDef K mg "first_other" s_first_other
  d_is_field : HasDef K mg "is_field" s_is_field
  d_are_fields : HasDef K mg "are_fields" s_are_fields
  d_are_answers : HasDef K mg "are_answers" s_are_answers
  d_is_value : HasDef K mg "is_value" s_is_value
  d_need_kind : HasDef K mg "need_kind" s_need_kind
  d_meets_test : HasDef K mg "meets_test" s_meets_test
  d_meets_all : HasDef K mg "meets_all" s_meets_all
  d_is_answer : HasDef K mg "is_answer" s_is_answer
  d_is_rule : HasDef K mg "is_rule" s_is_rule
  d_are_rules : HasDef K mg "are_rules" s_are_rules
  d_need_list : HasDef K mg "need_list" s_need_list
  d_tests_of : HasDef K mg "tests_of" s_tests_of
  d_word_members : HasDef K mg "word_members" s_word_members
  d_number_members : HasDef K mg "number_members" s_number_members
  d_members : HasDef K mg "members" s_members
  d_grid : HasDef K mg "grid" s_grid
  d_first_difference : HasDef K mg "first_difference" s_first_difference
  d_may_swap : HasDef K mg "may_swap" s_may_swap
  d__law_cell : HasDef K mg "_law_cell" s__law_cell
  d__law_box : HasDef K mg "_law_box" s__law_box
  d__law_take : HasDef K mg "_law_take" s__law_take
  d__law_words : HasDef K mg "_law_words" s__law_words
  d__law_numbers : HasDef K mg "_law_numbers" s__law_numbers
  d__law_kind : HasDef K mg "_law_kind" s__law_kind
  d__law_pools : HasDef K mg "_law_pools" s__law_pools
  d__law_meets : HasDef K mg "_law_meets" s__law_meets
  d__law_all : HasDef K mg "_law_all" s__law_all
  d__law_test : HasDef K mg "_law_test" s__law_test
  d__law_rules : HasDef K mg "_law_rules" s__law_rules
  d__law_decides : HasDef K mg "_law_decides" s__law_decides
  d__law_answer : HasDef K mg "_law_answer" s__law_answer
  d__law_tests_of : HasDef K mg "_law_tests_of" s__law_tests_of
  d__law_members : HasDef K mg "_law_members" s__law_members
  d__law_grid : HasDef K mg "_law_grid" s__law_grid
  d__law_scene : HasDef K mg "_law_scene" s__law_scene
  d__law_two : HasDef K mg "_law_two" s__law_two
  d__law_border : HasDef K mg "_law_border" s__law_border
  d__law_great : HasDef K mg "_law_great" s__law_great
  d__law_caught : HasDef K mg "_law_caught" s__law_caught
  d__law_may : HasDef K mg "_law_may" s__law_may
  d__law_great_right : HasDef K mg "_law_great_right" s__law_great_right
  m_Kind_fields : HasMet K (cK K) "fields" "Kind.fields" s_Kind_fields
  m_Kind_names : HasMet K (cK K) "names" "Kind.names" s_Kind_names
  m_Kind_answers : HasMet K (cK K) "answers" "Kind.answers" s_Kind_answers
  m_Kind_sort_of : HasMet K (cK K) "sort_of" "Kind.sort_of" s_Kind_sort_of
  m_Kind_place_of : HasMet K (cK K) "place_of" "Kind.place_of" s_Kind_place_of
  m_Kind_is_test : HasMet K (cK K) "is_test" "Kind.is_test" s_Kind_is_test
  m_Kind___str__ : HasMet K (cK K) "__str__" "Kind.__str__" s_Kind___str__
  m_Kind___repr__ : HasMet K (cK K) "__repr__" "Kind.__repr__" s_Kind___repr__
  m_RuleList_rules : HasMet K (cR K) "rules" "RuleList.rules" s_RuleList_rules
  m_RuleList_place_for : HasMet K (cR K) "place_for" "RuleList.place_for" s_RuleList_place_for
  m_RuleList_answer_for : HasMet K (cR K) "answer_for" "RuleList.answer_for" s_RuleList_answer_for
  p_Kind_width : HasProp K (cK K) "width" "Kind.width" s_Kind_width
  p_RuleList_kind : HasProp K (cR K) "kind" "RuleList.kind" s_RuleList_kind
  g_Kind : mg "Kind" = some (.ref (cK K))
  k_Kind : Cls K (cK K)
  y_Kind : ∀ (H : Hp) (p dx : Addr) (fs : List (Str × V)), H p = some (.ins (cK K) dx fs) → TyX K H (.ref p) (.ref (cK K))
  g_RuleList : mg "RuleList" = some (.ref (cR K))
  k_RuleList : Cls K (cR K)
  y_RuleList : ∀ (H : Hp) (p dx : Addr) (fs : List (Str × V)), H p = some (.ins (cR K) dx fs) → TyX K H (.ref p) (.ref (cR K))
  n_own_fields : NoAttr K (cK K) "own_fields"
  n_own_answers : NoAttr K (cK K) "own_answers"
  n_own_width : NoAttr K (cK K) "own_width"
  n_own_kind : NoAttr K (cR K) "own_kind"
  n_own_rules : NoAttr K (cR K) "own_rules"
  i_Kind : ∃ f fd, Mk K (cK K) f ∧ FunD K "__init__" "Kind.__init__" (defArgs s_Kind___init__) (defBody s_Kind___init__) (defScope s_Kind___init__) [] [("width", .int 1)] f fd
  i_RuleList : ∃ f fd, Mk K (cR K) f ∧ FunD K "__init__" "RuleList.__init__" (defArgs s_RuleList___init__) (defBody s_RuleList___init__) (defScope s_RuleList___init__) [] [] f fd
  q_NoneType_Kind : PySem.W.kitOne K (.type "NoneType") (.ref (cK K)) = some false
  q_NoneType_RuleList : PySem.W.kitOne K (.type "NoneType") (.ref (cR K)) = some false
  q_int_Kind : PySem.W.kitOne K (.type "int") (.ref (cK K)) = some false
  q_int_RuleList : PySem.W.kitOne K (.type "int") (.ref (cR K)) = some false
  q_bool_Kind : PySem.W.kitOne K (.type "bool") (.ref (cK K)) = some false
  q_bool_RuleList : PySem.W.kitOne K (.type "bool") (.ref (cR K)) = some false
  q_str_Kind : PySem.W.kitOne K (.type "str") (.ref (cK K)) = some false
  q_str_RuleList : PySem.W.kitOne K (.type "str") (.ref (cR K)) = some false
  q_list_Kind : PySem.W.kitOne K (.type "list") (.ref (cK K)) = some false
  q_list_RuleList : PySem.W.kitOne K (.type "list") (.ref (cR K)) = some false
  q_tuple_Kind : PySem.W.kitOne K (.type "tuple") (.ref (cK K)) = some false
  q_tuple_RuleList : PySem.W.kitOne K (.type "tuple") (.ref (cR K)) = some false
  q_Kind_Kind : PySem.W.kitOne K (.ref (cK K)) (.ref (cK K)) = some true
  q_Kind_RuleList : PySem.W.kitOne K (.ref (cK K)) (.ref (cR K)) = some false
  q_RuleList_Kind : PySem.W.kitOne K (.ref (cR K)) (.ref (cK K)) = some false
  q_RuleList_RuleList : PySem.W.kitOne K (.ref (cR K)) (.ref (cR K)) = some true
end K5
set_option Elab.async false
set_option linter.all false
set_option maxRecDepth 100000
set_option maxHeartbeats 4000000
/-! Own exception classes below KeyError: making one, its __init__, its field. -/
namespace K5
open PySem PySem.Spec PyProof.Rows L2
abbrev ktail : List Value := [.type "KeyError", .type "LookupError", .type "Exception", .type "BaseException", .type "object"]
abbrev kmro (l : List Addr) : List Value := l.map Value.ref ++ ktail
theorem kmro_has (X : String) : ∀ l : List Addr, (kmro l).contains (.type X) = ktail.contains (.type X)
  | [] => rfl
  | a :: l => by
    show (Value.ref a :: kmro l).contains (.type X) = _
    rw [List.contains_cons, kmro_has X l]
    rfl
theorem ktail_free (self : Value) : refuseLoop self "__setattr__" ktail = pure () := by kernel_rfl
theorem kmro_free (self : Value) : ∀ l : List Addr, refuseLoop self "__setattr__" (kmro l) = pure ()
  | [] => ktail_free self
  | a :: l => by
    show refuseLoop self "__setattr__" (Value.ref a :: kmro l) = _
    rw [refuseLoop_ref]
    exact kmro_free self l
abbrev kObj (C t : Addr) : Obj := { cls := .ref C, data := .fields #[.ref t, .none, .none, .none, .bool false, .none] }
section
variable {M : Model} {A : Around} {E : Value → Shared → Prop} {hh : Heap} {gs : Array GenState} {dw : Drawn} {tk : Nat} {os : OsState} {nm q : Str} {C N : Addr} {bs : List Value} {l : List Addr} {hd : Bool} {sn : List Str} {sub : List Value} {ab : Bool} {col : Option Bool} {dd : Option Addr} {k0 k1 k2 k3 k5 : Option Value}
abbrev kCls (nm q : Str) (C N : Addr) (bs : List Value) (l : List Addr) (hd : Bool) (sn : List Str) (sub : List Value) (ab : Bool) (col : Option Bool) (dd : Option Addr) (k0 k1 k2 k3 k5 : Option Value) : Obj :=
  excClassObj nm q C N bs (kmro l) hd sn sub ab col dd k0 k1 k2 k3 k5 "LookupError.__new__"
theorem k_has (C : Addr) (l : List Addr) (X : String) : (Value.ref C :: kmro l).contains (.type X) = ktail.contains (.type X) := by
  rw [List.contains_cons, kmro_has]
  rfl
theorem k_check_new {rest : List Value} {Q : Unit → Shared → Prop} (hC : hh.get? C = some (kCls nm q C N bs l hd sn sub ab col dd k0 k1 k2 k3 k5)) (hq : Q () ⟨hh, gs, dw, tk, os⟩) :
    wpAny M A (checkBuiltinCall "LookupError.__new__" ⟨.ref C :: rest, []⟩) Q E ⟨hh, gs, dw, tk, os⟩ := by
  have F := PySem.F.excBase_LookupError
  have hB : (Value.ref C :: kmro l).contains (.type "LookupError") = true := (k_has C l "LookupError").trans (by decide +kernel)
  have ns := F.noStar
  simp only [checkBuiltinCall, F.newKind, F.newSplit, F.newRow]
  repeat (first | refine wpAny_loadPart_at hC ?_ | (refine wpAny_isSubtype_exc hC ?_; rw [hB]) | refine wpAny_staticBase_exc hC ?_ | refine wpAny_madeBy_exc hC ?_ | simp only [bne_self_eq_false, Bool.false_eq_true, if_false] | wp_step)
  exact hq
end
section
variable {prog : Program} {w : World} {A : Around} {E : Value → Shared → Prop} {R : Result → Shared → Prop} {hh : Heap} {gs : Array GenState} {dw : Drawn} {tk : Nat} {os : OsState} {nm q : Str} {C N : Addr} {bs : List Value} {l : List Addr} {hd : Bool} {sn : List Str} {sub : List Value} {ab : Bool} {col : Option Bool} {dd : Option Addr} {k0 k1 k2 k3 k5 : Option Value}
theorem k_new {rest : List Value} (hC : hh.get? C = some (kCls nm q C N bs l hd sn sub ab col dd k0 k1 k2 k3 k5)) (hr : rest.length ≤ sizeLine)
    (hq : R (.ok (.ret (.ref (hh.objs.size + 1)))) ⟨(hh.push (PySem.W.kdv_tup rest)).push (kObj C hh.objs.size), gs, dw, tk, os⟩) :
    codeAny (model prog w) A (.builtin "LookupError.__new__" ⟨.ref C :: rest, []⟩) R ⟨hh, gs, dw, tk, os⟩ := by
  have F := PySem.F.excBase_LookupError
  have he := F.ends
  have hB : (Value.ref C :: kmro l).contains (.type "LookupError") = true := (k_has C l "LookupError").trans (by decide +kernel)
  have hA : (Value.ref C :: kmro l).contains (.type "AttributeError") = false := (k_has C l "AttributeError").trans (by decide +kernel)
  have hN : (Value.ref C :: kmro l).contains (.type "NameError") = false := (k_has C l "NameError").trans (by decide +kernel)
  refine codeAny_builtinAt F.entry ?_; unfold Builtin.«BaseException.__new__»; refine PySem.wpAt_bind ?_
  show PySem.wpAt _ _ _ (stack >>= _) _ _ _
  refine PySem.wpAt_bind (PySem.wpAt_stack fun p below => PySem.wpAt_of_wpAny ?_); wp_walk
  refine PySem.wpAt_of_wpAny ?_; rw [F.owner]
  repeat (first | with_reducible refine wpAny_madeHere_exc F.canon hC ?_ | with_reducible refine wpAny_loadPart_at hC ?_ | (with_reducible refine wpAny_isSubtype_exc hC ?_; first | rw [hB] | rw [hA] | rw [hN]) | wp_step)
  show R _ _
  rw [Heap.size_push]
  exact hq
theorem k_type_call {rest : List Value} {fI : Addr} {Q : Fin → Shared → Prop} (hC : hh.get? C = some (kCls nm q C N bs l hd sn sub ab col dd k0 k1 k2 k3 k5))
    (hi : PySem.W.Looks (model prog w) hh (typeLookup (.ref C) "__init__") (some (.ref fI))) (hb : ∀ self, PySem.W.Looks (model prog w) hh (bindSpecial (.ref fI) self) (.ref fI, [self])) (hr : rest.length ≤ sizeLine)
    (hq : codeAny (model prog w) A (.call (.ref fI) ⟨.ref (hh.objs.size + 1) :: rest, []⟩)
      (fun r s' => match r with | .ok (.ret v) => v = .none ∧ Q (.done (.ret (.ref (hh.objs.size + 1)))) s' | .ok _ => False | .error e => E e s') ⟨(hh.push (PySem.W.kdv_tup rest)).push (kObj C hh.objs.size), gs, dw, tk, os⟩) :
    wpAny (model prog w) A (Builtin.«type.__call__» ⟨.ref C :: rest, []⟩) Q E ⟨hh, gs, dw, tk, os⟩ := by
  repeat (first | with_reducible refine wpAny_loadPart_at hC ?_ | with_reducible refine wpAny_madeBy_exc hC ?_ | wp_step)
  refine codeAny_call_builtin_code (Code.quiet_builtin _ PySem.F.excBase_LookupError.quiet) (k_check_new hC (k_new hC hr ?_))
  show wpAny _ _ _ _ _ _
  have keep : ∀ b o, hh.get? b = some o → ((hh.push (PySem.W.kdv_tup rest)).push (kObj C hh.objs.size)).get? b = some o := fun b o e => Heap.get?_push_of_some _ (Heap.get?_push_of_some _ e)
  have hC2 := keep _ _ hC
  have hx : ((hh.push (PySem.W.kdv_tup rest)).push (kObj C hh.objs.size)).get? (hh.objs.size + 1) = some (kObj C hh.objs.size) := by heap_get
  have own : (Value.ref C :: kmro l).contains (.ref C) = true := by simp
  have i2 := hi.keeps keep
  have b2 := (hb (.ref (hh.objs.size + 1))).keeps keep
  unfold isInstance
  repeat (first | with_reducible refine wpAny_loadPart_at hx ?_ | (with_reducible refine wpAny_isSubtype_exc hC2 ?_; rw [own]) | wp_step)
  show wpAny _ _ (typeLookup (.ref C) _) _ _ _
  refine i2.at (wpAny_holding (wpAny_bind (b2.at (wpAny_bind (wpAny_call (codeAny_mono hq fun r s' z => ?_))))))
  rcases r with e | (v | _ | _ | _) <;> first | exact z | exact z.elim | skip
  obtain ⟨rfl, z⟩ := z
  first
    | exact wpAny_pure (wpAny_pure z)
    | (wp_walk; exact z)
theorem k_call {rest : List Value} {fI : Addr} (hC : hh.get? C = some (kCls nm q C N bs l hd sn sub ab col dd k0 k1 k2 k3 k5))
    (hi : PySem.W.Looks (model prog w) hh (typeLookup (.ref C) "__init__") (some (.ref fI))) (hb : ∀ self, PySem.W.Looks (model prog w) hh (bindSpecial (.ref fI) self) (.ref fI, [self])) (hr : rest.length ≤ sizeLine)
    (hq : codeAny (model prog w) (A.under (.builtin "type.__call__" ⟨.ref C :: rest, []⟩)) (.call (.ref fI) ⟨.ref (hh.objs.size + 1) :: rest, []⟩) (PySem.W.InitBack (hh.objs.size + 1) R) ⟨(hh.push (PySem.W.kdv_tup rest)).push (kObj C hh.objs.size), gs, dw, tk, os⟩) :
    codeAny (model prog w) A (.call (.ref C) ⟨rest, []⟩) R ⟨hh, gs, dw, tk, os⟩ := by
  have f1 := tc_lookup
  have f2 := tc_bind (.ref C)
  have hTy : (⟨hh, gs, dw, tk, os⟩ : Shared).TypeIs (.ref C) "type" := ⟨_, hC, rfl⟩
  refine codeAny_of_tree ?_; show wpAny _ _ (callAny (.ref C) _) _ _ _
  repeat (any_goals (first | assumption | with_reducible refine wpAny_loadPart_at hC ?_ | wp_step))
  refine ⟨rfl, codeAny_call_builtin_at (Code.quiet_builtin _ (by decide +kernel)) entry_typeCall (wpAny_check_type_call_sub hC (k_type_call hC hi hb hr (codeAny_mono hq fun r s' z => ?_)))⟩
  rcases r with e | (v | _ | _ | _) <;> exact z
/-- KeyError.__init__(e, ..) -/
theorem k_init {e t0 : Addr} {rest : List Value} (hC : hh.get? C = some (kCls nm q C N bs l hd sn sub ab col dd k0 k1 k2 k3 k5)) (he : hh.get? e = some (kObj C t0)) (hr : rest.length ≤ sizeLine)
    (hq : ∀ h2 t1, (∀ b o, b ≠ e → hh.get? b = some o → h2.get? b = some o) → h2.get? e = some (kObj C t1) → R (.ok (.ret .none)) ⟨h2, gs, dw, tk, os⟩) :
    codeAny (model prog w) A (.call (.builtin "KeyError.__init__") ⟨.ref e :: rest, []⟩) R ⟨hh, gs, dw, tk, os⟩ := by
  have F := excClass_KeyError
  have hB : (Value.ref C :: kmro l).contains (.type "KeyError") = true := (k_has C l "KeyError").trans (by decide +kernel)
  have ns := F.notStar
  refine codeAny_call_builtin F.init.plain F.initEntry ?_
  have chk : ∀ {Q : Unit → Shared → Prop} {E' : Value → Shared → Prop} {A' : Around}, Q () ⟨hh, gs, dw, tk, os⟩ → wpAny (model prog w) A' (checkBuiltinCall "KeyError.__init__" ⟨.ref e :: rest, []⟩) Q E' ⟨hh, gs, dw, tk, os⟩ := fun {Q E' A'} z => by
    simp only [checkBuiltinCall, F.initKind, F.initSplit, F.initSig]
    repeat (first | (with_reducible refine wpAny_loadPart_at he ?_; rw [show (kObj C t0).cls = .ref C from rfl]) | with_reducible refine wpAny_loadPart_at hC ?_ | (with_reducible refine wpAny_isSubtype_exc hC ?_; rw [hB]) | wp_step)
    refine wpAny_onRaise ?_
    rw [show ∀ (a b : String) (n : Nat), Bind.check ⟨.positional, "*", "KeyError", .self, [⟨"args", .varPos, false⟩]⟩ a b n (List.map (fun x => x.fst) ({ pos := Value.ref e :: rest } : Args).kw) = pure () from fun a b n => check_star_args _ _ _ _ _ _]
    exact wpAny_pure z
  refine chk ?_
  wp_walk
  refine hq _ hh.objs.size (fun b o hb ho => ?_) ?_
  · rw [Heap.get?_update_other _ _ (Ne.symm hb)]; exact Heap.get?_push_of_some _ ho
  · rw [Heap.get?_update_self _ (Heap.get?_push_of_some _ he) rfl]; rfl
end
end K5
set_option Elab.async false
set_option linter.all false
set_option maxRecDepth 100000
set_option maxHeartbeats 4000000
/-! Rules: Base.__init__(self, ..) of an own class above, self.f = y, C(e, ..) - below ValueError and below KeyError. -/
namespace K5
open PySem PySem.Spec PyProof.Rows L2
/-- what the written part says of an own class below KeyError -/
structure KexC (K : PySem.W.Frag) (C : Addr) : Prop where
  cls : ∃ nm q N bs l sn sub ab col dd k0 k1 k2 k3 k5, K.lookup C = some (kCls nm q C N bs l true sn sub ab col dd k0 k1 k2 k3 k5)
  sa : PySem.W.findIn K (.ref C) "__setattr__" = some (some (.builtin "object.__setattr__"))
  exC : PySem.W.subIn K (.ref C) (.type "BaseException") = some true
  tyC : PySem.W.typeIn K (.ref C) = some (.type "type")
  kC : PySem.W.keepIn K (.ref C) = true
section
open Builtin Builtin.ObjectAttr
variable {prog : Program} {w : World} {A : Around} {E : Value → Shared → Prop} {R : Result → Shared → Prop} {hp : Heap} {gs : Array GenState} {dw : Drawn} {t : Nat} {os : OsState}
theorem k_osa {K : PySem.W.Frag} {name : Str} {tk : Tok} {v : Value} {x C : Addr} {fv : Array Value} {cd : ClassData} {l : List Addr}
    (X : K.In hp) (hx : hp.get? x = some { cls := .ref C, data := .fields fv }) (hcd : PySem.W.clsIn K C = some cd) (hm : cd.mro = kmro l) (hh : cd.hasDict = true) (ha : PySem.W.findIn K (.ref C) name = some none)
    (hq : ∀ h2 tk' dx, (∀ b o, b ≠ x → hp.get? b = some o → h2.get? b = some o) → hp.objs.size ≤ dx → dx ≠ x → h2.get? x = some { cls := .ref C, dict := some dx, data := .fields fv } →
      h2.Ns1 dx (fun y => if y = name then some v else none) → R (.ok (.ret .none)) ⟨h2, gs, dw, tk', os⟩) :
    codeAny (model prog w) A (.call (.builtin "object.__setattr__") ⟨[.ref x, .str name tk, v], []⟩) R ⟨hp, gs, dw, t, os⟩ := by
  have I : PySem.W.InstAt hp x { cls := .ref C, data := .fields fv } C none := ⟨hx, rfl, rfl, trivial⟩
  have G := PySem.F.store_object
  have ne : cd.mro.isEmpty = false := by
    rw [hm]
    cases l <;> rfl
  have hob : cd.mro.contains (.type "object") = true := by
    rw [hm]
    exact (kmro_has "object" l).trans (by decide +kernel)
  have hxs : x ≠ hp.objs.size := Nat.ne_of_lt (Heap.lt_size hx)
  have sub : PySem.W.Looks (model prog w) hp (isInstance (.ref x) (.type "object")) true := I.type.andThen (PySem.W.looks_mroIn X (by unfold PySem.W.mroIn; rw [hcd, Option.bind_some, if_neg (by rw [ne]; decide), hob]))
  refine codeAny_call_builtin G.slot.plain G.entry (@PySem.W.check_slot (model prog w) _ _ ⟨hp, gs, dw, t, os⟩ "object.__setattr__" "object" "__setattr__" (.ref x) [.str name tk, v] [] _ G.kind G.split sub (G.args (.ref x) (.str name tk) v) ?_)
  have hmr : PySem.W.Looks (model prog w) hp (mroOf (.ref C)) cd.mro := (PySem.W.looks_clsIn X hcd).andThen .now
  have L3 : PySem.W.Looks (model prog w) hp (storeTaker? none) none := .now
  have hcls : PySem.W.Looks (model prog w) hp (classData C) cd := PySem.W.looks_clsIn X hcd
  rw [PySem.W.osa_eq, refuse_eq]; refine wpAny_bind (wpAny_bind (I.type.at (wpAny_bind (hmr.at ?_))))
  rw [hm, kmro_free]
  refine wpAny_pure (wpAny_bind (I.type.at (wpAny_bind ((PySem.W.looks_findIn X ha).at (wpAny_bind (L3.at ?_))))))
  show wpAny _ _ (storeInOwnDict (.ref x) (.ref C) (.str name tk) name v false) _ _ _; obtain ⟨nm, bs, mro, ns, qn, hd, sn, sb, ab, col, del⟩ := cd
  dsimp only at hh
  subst hh
  unfold storeInOwnDict ownDictForStores; repeat (first | with_reducible refine PySem.HandSPX.store_in_new ?_ ?_ | with_reducible refine wpAny_loadPart_at hx ?_ | with_reducible refine hcls.at ?_ | wp_step)
  · exact ⟨_, #[], _, (Heap.get?_update_ne _ _ _ _ hxs.symm).trans (Heap.get?_push_at rfl rfl), rfl, fun e he => absurd he (by simp), fun _ => rfl⟩
  · intro h2 tk' hn' hs
    have hx1 : (hp.push { cls := .type "dict", data := .dict #[] }).get? x = some { cls := .ref C, data := .fields fv } := Heap.get?_push_of_some _ hx
    refine hq h2 tk' hp.objs.size (fun b o hb ho => ?_) (Nat.le_refl _) hxs.symm ?_ hn'
    · exact (hs.2 b (Nat.ne_of_lt (Heap.lt_size ho))).trans ((Heap.get?_update_ne _ _ _ _ hb).trans (Heap.get?_push_of_some _ ho))
    · exact (hs.2 x hxs).trans (Heap.get?_update_self _ hx1 rfl)
end
section
variable {X : Cx} {pins : List (Addr × Obj)} {σ : L2.St} {H : Hp} {s : Shared} {a C : Addr} {f : Str} {y : V} {u : Value} {Q : Unit → Shared → Prop} {E : Value → Shared → Prop} {A : Around}
theorem k_ost (T : KexC X.K C) (I : Inv X pins σ H s) (e : H a = some (exo a C none)) (hno : PySem.W.findIn X.K (.ref C) f = some none) (ry : RelV y u)
    (h : ∀ dx s', H dx = none → dx ≠ a → Inv X pins σ (upd (upd H dx (exd dx [(f, y)])) a (exo a C (some dx))) s' → Q () s') : wpAny (model X.prog X.w) A (setAttr (.ref a) f u) Q E s := by
  obtain ⟨nm, q, N, bs, l, sn, sub, ab, col, dd, k0, k1, k2, k3, k5, hC⟩ := T.cls
  have hcl : PySem.W.clsIn X.K C = some { name := nm, bases := bs, mro := kmro (C :: l), ns := N, qualname := q, hasDict := true, slotNames := sn, subclasses := sub, abstract := ab, collection := col, hasDel := false } := by unfold PySem.W.clsIn; rw [hC] <;> rfl
  obtain ⟨t1, ho⟩ := exo_at I.hok e
  obtain ⟨hp, gs, dw, t, os⟩ := s
  refine PySem.W.set_plain I.kIn (ox := kObj C t1) (od := none) ⟨ho, rfl, rfl, trivial⟩ T.sa (k_osa (l := C :: l) I.kIn ho hcl rfl rfl hno fun h2 tk' dx k dn dne hx hn => ?_)
  have hnd : H dx = none := I.hok.fresh dn
  have nd : ∀ {b : Addr} {o : Obj}, hp.get? b = some o → b ≠ dx := fun {b o} z => Nat.ne_of_lt (Nat.lt_of_lt_of_le (Heap.lt_size z) dn)
  have na : ∀ {b : Addr}, H b = none → b ≠ a := fun {b} n z => by
    rw [z, e] at n
    cases n
  have U : Un X.fs [] H (upd (upd H dx (exd dx [(f, y)])) a (exo a C (some dx))) hp h2 := {
    keep := fun b o z n _ _ => k b o (na n) z
    slot := fun b o z n _ _ => ⟨o.slots, k b o (na n) z⟩
    free := fun b o z n _ => by rw [upd_ne (na n), upd_ne (nd z)]; exact n
    there := fun b o z _ => by
      by_cases hb : b = a
      · exact ⟨_, by rw [hb]; exact hx⟩
      · exact ⟨o, k b o hb z⟩
    tups := fun b xs z => by rw [upd_ne (at_ne e z exo_tup), upd_ne (ne_of_none z hnd)]; exact z
    frzs := fun b o v z => by rw [upd_ne (at_ne e z exo_frz), upd_ne (ne_of_none z hnd)]; exact z
    tbls := fun b ps z => ⟨#[], by rw [upd_ne (at_ne e z exo_tbl), upd_ne (ne_of_none z hnd), z]; simp⟩ }
  refine h dx _ hnd dne (I.un (t' := tk') U fun b o z => ?_)
  by_cases hb : b = a
  · subst hb
    rw [upd_same] at z
    cases z
    exact exo_ok hx
  · rw [upd_ne hb] at z
    by_cases hd : b = dx
    · subst hd
      rw [upd_same] at z
      cases z
      exact exd_ok hn (relO_put (fs := []) ry fun g => True.intro)
    · rw [upd_ne hd] at z
      refine (I.hok b o z).stay (fun c v hc z2 => k c v (hc.elim (fun hc => by rw [hc]; exact hb) fun hc => at_ne e hc exo_own) z2) (fun c hc => ?_) fun c xs hc => ?_
      · rw [upd_ne (at_ne e hc exo_own), upd_ne (ne_of_none hc hnd)]; exact hc
      · rw [upd_ne (at_ne e hc exo_tup), upd_ne (ne_of_none hc hnd)]; exact hc
theorem k_oinit {us : List Value} {Q : Value → Shared → Prop} (T : KexC X.K C) (I : Inv X pins σ H s) (e : H a = some (exo a C none)) (hl : us.length ≤ sizeLine) (h : ∀ s', Inv X pins σ H s' → Q .none s') :
    wpAny (model X.prog X.w) A (call (.builtin "KeyError.__init__") (.ref a :: us)) Q E s := by
  obtain ⟨nm, q, N, bs, l, sn, sub, ab, col, dd, k0, k1, k2, k3, k5, hC⟩ := T.cls
  obtain ⟨t1, ho⟩ := exo_at I.hok e
  obtain ⟨hp, gs, dw, t, os⟩ := s
  refine wpAny_call (k_init (I.kIn _ _ hC) ho hl fun h2 t2 k hx => ?_)
  have J := I.write (t' := t) (x := a) (e := a) (o := exo a C none) (by rw [e]; exact True.intro) (.inl rfl) k ⟨_, hx⟩ (exo_ok hx)
  rw [show upd H a (exo a C none) = H from funext fun b => by
    by_cases hb : b = a
    · rw [hb, upd_same, e]
    · rw [upd_ne hb]] at J
  exact h _ J
end
/-! ### readings and rules -/
def tKeI (K : PySem.W.Frag) (ta : TA) : TE := fun σ H Q => ta σ H fun vs H1 => ∃ (a C : Addr) (ws : List V), vs = .ref a :: ws ∧ ws.length ≤ 1000 ∧ KexC K C ∧ H1 a = some (exo a C none) ∧ Q .non H1
def tKost (K : PySem.W.Frag) (f : Str) (to te : TE) : TS := fun D σ H => te σ H fun y H1 => to σ H1 fun x H2 => ∃ a C : Addr, x = .ref a ∧ KexC K C ∧ PySem.W.findIn K (.ref C) f = some none ∧
  H2 a = some (exo a C none) ∧ ∀ dx, H2 dx = none → dx ≠ a → D.nx σ (upd (upd H2 dx (exd dx [(f, y)])) a (exo a C (some dx)))
/-- S.__init__, S an own class without own __init__ -/
structure BaseIn (K : PySem.W.Frag) (S : Addr) (z : String) : Prop where
  rd : ClX.CRead K S (.type "type")
  at_ : PySem.W.findCls K (.ref S) (.type "type") "__init__" = some (.val (.builtin z))
section
variable {X : Cx} {o e : Expr} {es : List Expr} {to te : TE} {ta : TA} {f x : Str} {S : Addr} {p p' p1 p2 pos : Pos}
theorem pe_seeninit {pl : Sem Bool} (B : BaseIn X.K S "ValueError.__init__") (hg : Gl X x) (hm : X.mg x = some (.ref S)) (ha : PA X (e :: es) ta) (hdb : (x == ("__debug__" : Str)) = false := by decide)
    (hc : eval (.Call (.Attribute (.Name x p1) "__init__" p2) (e :: es) [] pos) X.env = (do
      let ov ← eval (.Name x p1) X.env
      standAt p2.atName
      let (f, first) ← holding [ov] (getMethod ov "__init__" pl)
      callWith pos f first (backTo pos (starEach (e :: es) X.env)) (backToKw pos (keywordEach [] X.env))) := by rfl)
    (he : starEach (e :: es) X.env = (false, eval e X.env) :: starEach es X.env := by rfl) (hpl : (backTo pos (starEach es X.env)).any (·.1) = false := by rfl) :
    PE X (.Call (.Attribute (.Name x p1) "__init__" p2) (e :: es) [] pos) (tVeI X.K ta) := by
  refine ⟨fun pins s σ H Q I h => PySem.W.methodCall_KW (ld_glob I hg hm ?_ hdb) hc⟩
  refine PySem.W.method_cls I.kIn B.rd.ga (PySem.W.cls_value I.kIn B.rd.rd B.at_ (by decide +kernel) ?_)
  show wpAny _ _ (callWith pos (Value.builtin "ValueError.__init__") [] (backTo pos (starEach (e :: es) X.env)) []) _ _ _; refine PyProof.Rows.callWith_method1 (thn (ha.run pos pins _ σ H _ (I.tok _) h) fun us s1 ⟨vs, H1, I1, r1, a, C, ws, ev, hl, T, ea, q⟩ => ?_) he hpl
  subst ev
  cases r1 with
  | @cons _ u0 _ ur ra rw' =>
    obtain rfl : u0 = Value.ref a := ra
    have hn : ur.length ≤ sizeLine := by rw [← Paired.length rw', sizeLine_eq]; omega
    exact oinit_ok T I1 ea hn fun s2 J => ⟨.non, H1, J, rfl, q⟩
theorem pe_absinit {pl : Sem Bool} (B : BaseIn X.K S "KeyError.__init__") (hg : Gl X x) (hm : X.mg x = some (.ref S)) (ha : PA X (e :: es) ta) (hdb : (x == ("__debug__" : Str)) = false := by decide)
    (hc : eval (.Call (.Attribute (.Name x p1) "__init__" p2) (e :: es) [] pos) X.env = (do
      let ov ← eval (.Name x p1) X.env
      standAt p2.atName
      let (f, first) ← holding [ov] (getMethod ov "__init__" pl)
      callWith pos f first (backTo pos (starEach (e :: es) X.env)) (backToKw pos (keywordEach [] X.env))) := by rfl)
    (he : starEach (e :: es) X.env = (false, eval e X.env) :: starEach es X.env := by rfl) (hpl : (backTo pos (starEach es X.env)).any (·.1) = false := by rfl) :
    PE X (.Call (.Attribute (.Name x p1) "__init__" p2) (e :: es) [] pos) (tKeI X.K ta) := by
  refine ⟨fun pins s σ H Q I h => PySem.W.methodCall_KW (ld_glob I hg hm ?_ hdb) hc⟩
  refine PySem.W.method_cls I.kIn B.rd.ga (PySem.W.cls_value I.kIn B.rd.rd B.at_ (by decide +kernel) ?_)
  show wpAny _ _ (callWith pos (Value.builtin "KeyError.__init__") [] (backTo pos (starEach (e :: es) X.env)) []) _ _ _; refine PyProof.Rows.callWith_method1 (thn (ha.run pos pins _ σ H _ (I.tok _) h) fun us s1 ⟨vs, H1, I1, r1, a, C, ws, ev, hl, T, ea, q⟩ => ?_) he hpl
  subst ev
  cases r1 with
  | @cons _ u0 _ ur ra rw' =>
    obtain rfl : u0 = Value.ref a := ra
    have hn : ur.length ≤ sizeLine := by rw [← Paired.length rw', sizeLine_eq]; omega
    exact k_oinit T I1 ea hn fun s2 J => ⟨.non, H1, J, rfl, q⟩
theorem ps_kost (ho : PE X o to) (he : PE X e te) (hs : swapsWith e (some (.Attribute o f p')) pos.line X.env = pure false := by rfl) : PS X (.Assign [.Attribute o f p'] e pos) (tKost X.K f to te) := by
  refine ⟨fun pins s σ H D I h => plainObj_wpAny_Assign_Attribute (thn (he.run pins s σ H _ I h) fun v s1 ⟨y, H1, I1, r1, q1⟩ => thn (ho.run pins s1 σ H1 _ I1 q1) fun u s2 ⟨x, H2, I2, r2, a, C, ex, T, hno, ea, q⟩ => ?_) hs⟩
  subst ex
  obtain rfl : u = Value.ref a := r2
  exact k_ost T I2 ea hno r1 fun dx s3 n ne J => ⟨σ, _, J, q dx n ne⟩
theorem pmk_kex {CX : CXT} {C fI : Addr} {k : Nat} {fd : FuncData} {ps : List Str} {sp : Sp} {ds : List Value} {dvs : List V} (T : KexC X.K C) (iC : PySem.W.findIn X.K (.ref C) "__init__" = some (some (.ref fI))) (tI : PySem.W.typeIn X.K (.ref fI) = some (.type "function"))
    (F1 : FnOk X.prog X.w X.K X.mg X.base CX k fI fd ps sp) (hr : Room (k + 1) X.A) (hb : Binds X.K fd ps ds) (hd : Vals dvs ds) (hx : Passes CX X (fun _ _ _ => False)) (hg : Gl X x) (hm : X.mg x = some (.ref C)) (ha : PA X (e :: es) ta)
    (hdb : (x == ("__debug__" : Str)) = false := by decide) (he : starEach (e :: es) X.env = (false, eval e X.env) :: starEach es X.env := by rfl) (hpl : (backTo pos (starEach es X.env)).any (·.1) = false := by rfl) :
    PMk X (.Call (.Name x p) (e :: es) [] pos) (tMkO C sp dvs ta) := by
  intro pins s σ H Q I h
  obtain ⟨nm, q, N, bs, l, sn, sub, ab, col, dd, k0, k1, k2, k3, k5, hC⟩ := T.cls
  refine wpAny_Call_Name_kw (ld_glob I hg hm (PySem.W.callWith_K (h₀ := X.base) I.ok.mod.kin T.kC (thn (ha.run pos pins s σ H _ I h) fun us s1 ⟨vs, H1, I1, r1, hz, q1⟩ => ⟨I1.kIn, ?_⟩) he hpl) hdb)
  show wpAny _ _ (call (.ref C) us) _ _ _
  obtain ⟨hp, gs, dr, tk, os⟩ := s1
  have up : hp.objs.size ≤ hp.objs.size + 1 := Nat.le_succ _
  have hn : H1 (hp.objs.size + 1) = none := I1.hok.fresh up
  have hq := q1 _ hn
  have kk : ∀ b o, hp.get? b = some o → ((hp.push (PySem.W.kdv_tup us)).push (kObj C hp.objs.size)).get? b = some o := fun b o z => Heap.get?_push_of_some _ (Heap.get?_push_of_some _ z)
  have hx2 : ((hp.push (PySem.W.kdv_tup us)).push (kObj C hp.objs.size)).get? (hp.objs.size + 1) = some (kObj C hp.objs.size) := by heap_get
  have I2 : Inv X pins σ (upd H1 (hp.objs.size + 1) (exo (hp.objs.size + 1) C none)) ⟨(hp.push (PySem.W.kdv_tup us)).push (kObj C hp.objs.size), gs, dr, tk, os⟩ :=
    I1.laid (t' := tk) (a := hp.objs.size + 1) (o := exo (hp.objs.size + 1) C none) (h' := (hp.push (PySem.W.kdv_tup us)).push (kObj C hp.objs.size)) kk up (exo_ok hx2)
  have r2 : Vals (V.ref (hp.objs.size + 1) :: (vs ++ dvs)) (Value.ref (hp.objs.size + 1) :: (us ++ ds)) := .cons rfl (r1.append hd)
  have hl2 : (Value.ref (hp.objs.size + 1) :: us ++ ds).length = ps.length := by
    have z := r2.length
    rw [F1.len _ _ _ _ hq] at z
    exact z.symm
  have hus : us.length ≤ sizeLine := by rw [← Paired.length r1, sizeLine_eq]; omega
  refine wpAny_call (k_call (I1.kIn _ _ hC) (PySem.W.looks_findIn I1.kIn iC) (fun self => PySem.W.bind_fn I1.kIn self tI) hus (codeAny_mono (F1.run _ X.stack _ _ ⟨Value.ref (hp.objs.size + 1) :: us, []⟩ (Value.ref (hp.objs.size + 1) :: (us ++ ds)) _ _ (fun _ _ _ => False)
    (hr.make C us []) (I2.env0.make C us []) (hb _ (Value.ref (hp.objs.size + 1) :: us) I2.kIn hl2) r2 hq) fun r s2 hq2 => ?_))
  cases r with
  | error er => exact hx pins σ _ _ er s2 I2 hq2
  | ok fl =>
    cases fl with
    | ret u =>
      obtain ⟨v, H2, os2, bare2, un2, hok2, rv, ev, d, fs, ea, ed, hd1, q2⟩ := hq2
      subst ev
      obtain ⟨h2, gs2, dr2, t2, os'⟩ := s2
      exact ⟨rv, mk_end (raises_own T.exC T.tyC) I1 up kk un2 hok2 os2 bare2 ea ed hd1 q2⟩
    | next => exact False.elim hq2
    | brk => exact False.elim hq2
    | cont => exact False.elim hq2
end
end K5
set_option Elab.async false
set_option linter.all false
set_option maxRecDepth 100000
set_option maxHeartbeats 2000000
/-! The exceptions that the law sees: what the top leaves of them, their making. -/
namespace K5
open PySem PySem.Spec PyProof.Rows L2
abbrev cIL (K : PySem.W.Frag) : Addr := He.ga K "InvalidList"
abbrev cTM (K : PySem.W.Frag) : Addr := He.ga K "TooMany"
abbrev cNR (K : PySem.W.Frag) : Addr := He.ga K "NoRule"
abbrev cSE (K : PySem.W.Frag) : Addr := He.ga K "SeenError"
abbrev cAE (K : PySem.W.Frag) : Addr := He.ga K "AbsentError"
abbrev s_InvalidList___init__ : Stmt := inClass (top 10) 0
abbrev s_TooMany___init__ : Stmt := inClass (top 14) 0
abbrev s_NoRule___init__ : Stmt := inClass (top 15) 0
/-- C's own __init__ -/
structure HasIni (K : PySem.W.Frag) (C : Addr) (qual : Str) (st : Stmt) : Prop where
  ex : ∃ f fd, PySem.W.findIn K (.ref C) "__init__" = some (some (.ref f)) ∧ PySem.W.typeIn K (.ref f) = some (.type "function") ∧ FunD K "__init__" qual (defArgs st) (defBody st) (defScope st) [] [] f fd
structure TopX (K : PySem.W.Frag) (mg : Str → Option Value) : Prop where
  g_InvalidList : mg "InvalidList" = some (.ref (cIL K))
  g_TooMany : mg "TooMany" = some (.ref (cTM K))
  g_NoRule : mg "NoRule" = some (.ref (cNR K))
  g_SeenError : mg "SeenError" = some (.ref (cSE K))
  g_AbsentError : mg "AbsentError" = some (.ref (cAE K))
  o_InvalidList : OexC K (cIL K)
  o_TooMany : OexC K (cTM K)
  o_NoRule : KexC K (cNR K)
  i_InvalidList : HasIni K (cIL K) "InvalidList.__init__" s_InvalidList___init__
  i_TooMany : HasIni K (cTM K) "TooMany.__init__" s_TooMany___init__
  i_NoRule : HasIni K (cNR K) "NoRule.__init__" s_NoRule___init__
  x_InvalidList : XfC K (cIL K)
  x_TooMany : XfC K (cTM K)
  x_NoRule : XfC K (cNR K)
  n_InvalidList : PySem.W.findIn K (.ref (cIL K)) "value" = some none
  n_TooMany : PySem.W.findIn K (.ref (cTM K)) "count" = some none
  n_NoRule : PySem.W.findIn K (.ref (cNR K)) "value" = some none
  b_SeenError : BaseIn K (cSE K) "ValueError.__init__"
  b_AbsentError : BaseIn K (cAE K) "KeyError.__init__"
  m_II : PySem.W.exmOne K (.ref (cIL K)) (.ref (cIL K)) = some true
  m_NI : PySem.W.exmOne K (.ref (cNR K)) (.ref (cIL K)) = some false
  m_NN : PySem.W.exmOne K (.ref (cNR K)) (.ref (cNR K)) = some true
  m_TI : PySem.W.exmOne K (.ref (cTM K)) (.ref (cIL K)) = some false
  m_TN : PySem.W.exmOne K (.ref (cTM K)) (.ref (cNR K)) = some false
  m_TT : PySem.W.exmOne K (.ref (cTM K)) (.ref (cTM K)) = some true
abbrev N_InvalidList___init__ : List Str := ["self", "value"]
abbrev P_InvalidList___init__ : List Str := ["self", "value"]
theorem sc_InvalidList___init__ : FnScope N_InvalidList___init__ P_InvalidList___init__ (defScope s_InvalidList___init__) := ⟨rfl, rfl, rfl, by decide +kernel, rfl, by decide +kernel, by decide +kernel⟩
abbrev N_TooMany___init__ : List Str := ["self", "count"]
abbrev P_TooMany___init__ : List Str := ["self", "count"]
theorem sc_TooMany___init__ : FnScope N_TooMany___init__ P_TooMany___init__ (defScope s_TooMany___init__) := ⟨rfl, rfl, rfl, by decide +kernel, rfl, by decide +kernel, by decide +kernel⟩
abbrev N_NoRule___init__ : List Str := ["self", "value"]
abbrev P_NoRule___init__ : List Str := ["self", "value"]
theorem sc_NoRule___init__ : FnScope N_NoRule___init__ P_NoRule___init__ (defScope s_NoRule___init__) := ⟨rfl, rfl, rfl, by decide +kernel, rfl, by decide +kernel, by decide +kernel⟩
/-- __init__ of such a class: one field -/
def sp_exc (C : Addr) (f : Str) : Sp := fun vs H Q _ => ∃ a v, vs = [.ref a, v] ∧ H a = some (exo a C none) ∧ ∀ dx, H dx = none → dx ≠ a → Q .non (upd (upd H dx (exd dx [(f, v)])) a (exo a C (some dx)))
theorem mk_exc {C : Addr} {f : Str} {v : V} {H1 : Hp} {Q : XK} (h : ∀ d, H1 d = none → Q (.ref C) (some d) (upd H1 d (.xd [(f, v)]))) :
    [v].length ≤ 1000 ∧ ∀ a, H1 a = none → sp_exc C f (.ref a :: ([v] ++ [])) (upd H1 a (exo a C none))
      (fun v H2 => v = .non ∧ ∃ (d : Addr) (fs : List (Str × V)), H2 a = some (exo a C (some d)) ∧ H2 d = some (exd d fs) ∧ H1 d = none ∧ Q (.ref C) (some d) (upd (del H2 a) d (.xd fs))) (fun _ _ _ => False) := by
  refine ⟨(show 1 ≤ 1000 by decide), fun a ha => ⟨a, v, rfl, upd_same, fun dx hdx ne => ⟨rfl, dx, [(f, v)], upd_same, ?_, ?_, ?_⟩⟩⟩
  · rw [upd_ne ne, upd_same]
  · rw [upd_ne ne] at hdx
    exact hdx
  · have hdx' := hdx
    rw [upd_ne ne] at hdx'
    have e : upd (del (upd (upd (upd H1 a (exo a C none)) dx (exd dx [(f, v)])) a (exo a C (some dx))) a) dx (.xd [(f, v)]) = upd H1 dx (.xd [(f, v)]) := by
      funext b
      by_cases hb : b = dx
      · rw [hb, upd_same, upd_same]
      · rw [upd_ne hb, upd_ne hb]
        by_cases hb2 : b = a
        · rw [hb2, del_same, ha]
        · rw [del_ne hb2, upd_ne hb2, upd_ne hb, upd_ne hb2]
    rw [e]
    exact h dx hdx'
/-- the __init__ of C, walked -/
structure IniOk (P : Program) (w : World) (K : PySem.W.Frag) (mg : Str → Option Value) (base : Heap) (C : Addr) (f : Str) : Prop where
  ex : ∃ fI fd ps, PySem.W.findIn K (.ref C) "__init__" = some (some (.ref fI)) ∧ PySem.W.typeIn K (.ref fI) = some (.type "function") ∧ FnOk P w K mg base CX0 1 fI fd ps (sp_exc C f) ∧ Binds K fd ps []
section
variable {P : Program} {w : World} {K : PySem.W.Frag} {mg : Str → Option Value} {base : Heap}
theorem ini_InvalidList (Y : TopX K mg) : IniOk P w K mg base (cIL K) "value" := by
  have nd := sc_InvalidList___init__.nd
  obtain ⟨f, fd, h1, h2, F⟩ := Y.i_InvalidList
  refine ⟨f, fd, P_InvalidList___init__, h1, h2, F.ok sc_InvalidList___init__ (fun vs H Q E h => ?_) (fun cdv A outer s H vs Q E hr h => ?_), F.bindsN (fun _ _ _ _ _ _ us hl => match us, hl with | [_, _], _ => rfl)⟩
  · obtain ⟨a, v, rfl, _⟩ := h
    rfl
  · obtain ⟨a, v, rfl, hH, k⟩ := h
    refine ⟨_, (pss_cons (ps_expr (pe_seeninit Y.b_SeenError rfl Y.g_SeenError (pa_cons (pv 0) (pa_cons pe_str pa_nil))))
    (pss_one (ps_ost (pv 0) (pv 1)))), ?_⟩
    exact ⟨_, rfl, a, _, _, rfl, by decide, Y.o_InvalidList, hH, _, rfl, _, rfl, a, _, rfl, Y.o_InvalidList, Y.n_InvalidList, .inl ⟨hH, k⟩⟩
theorem ini_TooMany (Y : TopX K mg) : IniOk P w K mg base (cTM K) "count" := by
  have nd := sc_TooMany___init__.nd
  obtain ⟨f, fd, h1, h2, F⟩ := Y.i_TooMany
  refine ⟨f, fd, P_TooMany___init__, h1, h2, F.ok sc_TooMany___init__ (fun vs H Q E h => ?_) (fun cdv A outer s H vs Q E hr h => ?_), F.bindsN (fun _ _ _ _ _ _ us hl => match us, hl with | [_, _], _ => rfl)⟩
  · obtain ⟨a, v, rfl, _⟩ := h
    rfl
  · obtain ⟨a, v, rfl, hH, k⟩ := h
    refine ⟨_, (pss_cons (ps_expr (pe_seeninit Y.b_SeenError rfl Y.g_SeenError (pa_cons (pv 0) (pa_cons pe_str pa_nil))))
    (pss_one (ps_ost (pv 0) (pv 1)))), ?_⟩
    exact ⟨_, rfl, a, _, _, rfl, by decide, Y.o_TooMany, hH, _, rfl, _, rfl, a, _, rfl, Y.o_TooMany, Y.n_TooMany, .inl ⟨hH, k⟩⟩
theorem ini_NoRule (Y : TopX K mg) : IniOk P w K mg base (cNR K) "value" := by
  have nd := sc_NoRule___init__.nd
  obtain ⟨f, fd, h1, h2, F⟩ := Y.i_NoRule
  refine ⟨f, fd, P_NoRule___init__, h1, h2, F.ok sc_NoRule___init__ (fun vs H Q E h => ?_) (fun cdv A outer s H vs Q E hr h => ?_), F.bindsN (fun _ _ _ _ _ _ us hl => match us, hl with | [_, _], _ => rfl)⟩
  · obtain ⟨a, v, rfl, _⟩ := h
    rfl
  · obtain ⟨a, v, rfl, hH, k⟩ := h
    refine ⟨_, (pss_cons (ps_expr (pe_absinit Y.b_AbsentError rfl Y.g_AbsentError (pa_cons (pv 0) (pa_cons pe_str pa_nil))))
    (pss_one (ps_kost (pv 0) (pv 1)))), ?_⟩
    exact ⟨_, rfl, a, _, _, rfl, by decide, Y.o_NoRule, hH, _, rfl, _, rfl, a, _, rfl, Y.o_NoRule, Y.n_NoRule, hH, k⟩
end
section
variable {X : Cx} {j : Nat} {e : Expr} {t : TE} {p pos : Pos}
theorem pmk_InvalidList (Y : TopX X.K X.mg) (c : IniOk X.prog X.w X.K X.mg X.base (cIL X.K) "value") (hr : Room j X.A) (hk : 2 ≤ j) (hg : Gl X "InvalidList") (ha : PA X [e] (tCons t tNil)) (hst : starEach [e] X.env = (false, eval e X.env) :: starEach [] X.env := by rfl) :
    PMk X (.Call (.Name "InvalidList" p) [e] [] pos) (tMkO (cIL X.K) (sp_exc (cIL X.K) "value") [] (tCons t tNil)) := by
  obtain ⟨fI, fd, ps, h1, h2, F, b⟩ := c.ex
  exact pmk_oex Y.o_InvalidList h1 h2 F (hr.mono hk) b .nil pass0 hg Y.g_InvalidList ha (by decide +kernel) hst
theorem pmk_TooMany (Y : TopX X.K X.mg) (c : IniOk X.prog X.w X.K X.mg X.base (cTM X.K) "count") (hr : Room j X.A) (hk : 2 ≤ j) (hg : Gl X "TooMany") (ha : PA X [e] (tCons t tNil)) (hst : starEach [e] X.env = (false, eval e X.env) :: starEach [] X.env := by rfl) :
    PMk X (.Call (.Name "TooMany" p) [e] [] pos) (tMkO (cTM X.K) (sp_exc (cTM X.K) "count") [] (tCons t tNil)) := by
  obtain ⟨fI, fd, ps, h1, h2, F, b⟩ := c.ex
  exact pmk_oex Y.o_TooMany h1 h2 F (hr.mono hk) b .nil pass0 hg Y.g_TooMany ha (by decide +kernel) hst
theorem pmk_NoRule (Y : TopX X.K X.mg) (c : IniOk X.prog X.w X.K X.mg X.base (cNR X.K) "value") (hr : Room j X.A) (hk : 2 ≤ j) (hg : Gl X "NoRule") (ha : PA X [e] (tCons t tNil)) (hst : starEach [e] X.env = (false, eval e X.env) :: starEach [] X.env := by rfl) :
    PMk X (.Call (.Name "NoRule" p) [e] [] pos) (tMkO (cNR X.K) (sp_exc (cNR X.K) "value") [] (tCons t tNil)) := by
  obtain ⟨fI, fd, ps, h1, h2, F, b⟩ := c.ex
  exact pmk_kex Y.o_NoRule h1 h2 F (hr.mono hk) b .nil pass0 hg Y.g_NoRule ha (by decide +kernel) hst
end
end K5
set_option Elab.async false
set_option linter.all false
set_option maxRecDepth 100000
set_option maxHeartbeats 2000000
/-! The head: what is told of the heap behind the top, by Bools. -/
namespace K5
open PySem PySem.Spec PyProof.Rows L2
/-! ### defs by address -/
def fnWa (K : PySem.W.Frag) (a : Addr) : He.FnW := match K.lookup a with
  | some ⟨_, _, .func fd, _⟩ => some (fd.name, fd.qualname, fd.params, fd.body, fd.scope, fd.globals, fd.closure, fd.builtins)
  | _ => none
structure DefA where
  ad : PySem.W.Frag → Addr
  name : Str
  qual : Str
  st : Stmt
  kwd : List (Str × V) := []
def DefA.val (d : DefA) : He.FnW := some (d.name, d.qual, defArgs d.st, .stmts (defBody d.st), defScope d.st, mainGlobals, [], builtinsNs)
def DefA.ok (K : PySem.W.Frag) (d : DefA) : Bool := PySem.W.keepIn K (.ref (d.ad K)) && (match K.lookup (d.ad K) with
  | some ⟨_, _, .func fd, _⟩ => PySem.W.codeIn K fd.code d.qual && (He.dflB K fd.defaults [] && He.kwdB K fd.kwdefaults d.kwd)
  | _ => false)
theorem DefA.funD {K : PySem.W.Frag} {d : DefA} (e : fnWa K (d.ad K) = d.val) (c : d.ok K = true) : ∃ fd, FunD K d.name d.qual (defArgs d.st) (defBody d.st) (defScope d.st) [] d.kwd (d.ad K) fd := by
  obtain ⟨kp, c2⟩ := He.ba c
  unfold fnWa at e
  cases q : K.lookup (d.ad K) with
  | none =>
    rw [q] at c2
    cases c2
  | some o =>
    obtain ⟨oc, od, dt, osl⟩ := o
    rw [q] at c2 e
    cases dt with
    | func fd =>
      obtain ⟨n1, n2, n3, n4, n5, n6, n7, n8, n9, n10, n11, n12, n13, n14, n15⟩ := fd
      have e2 : (some (n1, n2, n3, n4, n5, n6, n7, n15) : He.FnW) = some (d.name, d.qual, defArgs d.st, .stmts (defBody d.st), defScope d.st, mainGlobals, [], builtinsNs) := e
      simp only [Option.some.injEq, Prod.mk.injEq] at e2
      obtain ⟨h1, h2, h3, h4, h5, h6, h7, h8⟩ := e2
      subst h1 h2 h3 h4 h5 h6 h7 h8
      obtain ⟨k1, k2⟩ := He.ba (show (PySem.W.codeIn K n13 d.qual && (He.dflB K n8 [] && He.kwdB K n9 d.kwd)) = true from c2)
      obtain ⟨k3, k4⟩ := He.ba k2
      exact ⟨_, ⟨oc, od, n8, n9, n10, n11, n12, n13, n14, osl, rfl, q, k1, He.dflB_ok k3, He.kwdB_ok k4⟩, kp⟩
    | _ => cases c2
/-! ### properties -/
def pGet (K : PySem.W.Frag) (C : Addr) (m : Str) : Addr := match PySem.W.recIn K (He.ma K C m) "property" with
  | some (.ref g :: _) => g
  | _ => 0
def propB (K : PySem.W.Frag) (C : Addr) (m : Str) : Bool := He.eqO (PySem.W.findIn K (.ref C) m) (some (some (.ref (He.ma K C m)))) && (He.eqO (PySem.W.specialIn K (.ref (He.ma K C m)) "__get__") (some (some (.builtin "property.__get__"))) && (decide (PySem.W.takesIn K (.ref (He.ma K C m)) = some true) &&
  (match PySem.W.recIn K (He.ma K C m) "property" with
    | some (.ref g :: _) => true
    | _ => false)))
theorem propB_ok {K : PySem.W.Frag} {C : Addr} {m : Str} (h : propB K C m = true) : PropOf K C m (He.ma K C m) (pGet K C m) := by
  obtain ⟨h1, h⟩ := He.ba h
  obtain ⟨h2, h⟩ := He.ba h
  obtain ⟨h3, h4⟩ := He.ba h
  refine ⟨He.eqO_ok h1, He.eqO_ok h2, of_decide_eq_true h3, ?_⟩
  unfold pGet
  split at h4
  · rename_i g rest e
    exact ⟨rest, by rw [e]⟩
  · cases h4
/-! ### exceptions -/
def clsB (K : PySem.W.Frag) (C : Addr) (new : String) (t : List Value → Bool) : Bool := match K.lookup C with
  | some ⟨.type "type", _, .cls cd, sl⟩ => (match cd.mro, sl.toList with
    | .ref C' :: bm, [_, _, _, _, some (.builtin n), _] => C' == C && (n == new && (!cd.hasDel && (cd.hasDict && t bm)))
    | _, _ => false)
  | _ => false
theorem clsB_ok {K : PySem.W.Frag} {C : Addr} {new : String} {t : List Value → Bool} (q : clsB K C new t = true) : ∃ nm qn N bs bm sn sub ab col dd k0 k1 k2 k3 k5, K.lookup C = some (excClassObj nm qn C N bs bm true sn sub ab col dd k0 k1 k2 k3 k5 new) ∧ t bm = true := by
  unfold clsB at q
  split at q
  · rename_i dd cd sl ho
    split at q
    · rename_i C' bm k0 k1 k2 k3 n k5 hm hs
      simp only [Bool.and_eq_true, beq_iff_eq, Bool.not_eq_true'] at q
      obtain ⟨rfl, rfl, hdel, hd, ht⟩ := q
      obtain ⟨nm, bs, mro, ns, qn, hdi, sn, sub, ab, col, del⟩ := cd
      dsimp only at hm hdel hd
      subst hm hdel hd
      have hsl : sl = #[k0, k1, k2, k3, some (.builtin n), k5] := by
        obtain ⟨l⟩ := sl
        simp only at hs
        rw [hs]
      subst hsl
      exact ⟨nm, qn, ns, bs, bm, sn, sub, ab, col, dd, k0, k1, k2, k3, k5, ho, ht⟩
    · cases q
  · cases q
def refs : List Value → List Addr
  | .ref a :: r => a :: refs r
  | _ => []
def excB (K : PySem.W.Frag) (C : Addr) : Bool := He.eqO (PySem.W.findIn K (.ref C) "__setattr__") (some (some (.builtin "object.__setattr__"))) && (decide (PySem.W.subIn K (.ref C) (.type "BaseException") = some true) && (decide (PySem.W.typeIn K (.ref C) = some (.type "type")) && PySem.W.keepIn K (.ref C)))
def oexB (K : PySem.W.Frag) (C : Addr) : Bool := clsB K C "ValueError.__new__" PySem.HandSPX.refsVE && excB K C
def kexB (K : PySem.W.Frag) (C : Addr) : Bool := clsB K C "LookupError.__new__" (fun bm => bm == kmro (refs bm)) && excB K C
def baseB (K : PySem.W.Frag) (S : Addr) (z : String) : Bool := PySem.W.readsIn K S (.type "type") && (He.eqO (PySem.W.specialIn K (.ref S) "__getattribute__") (some (some (.builtin "type.__getattribute__"))) && (match PySem.W.findCls K (.ref S) (.type "type") "__init__" with
  | some (.val (.builtin y)) => y == z
  | _ => false))
theorem baseB_ok {K : PySem.W.Frag} {S : Addr} {z : String} (h : baseB K S z = true) : BaseIn K S z := by
  obtain ⟨h1, h⟩ := He.ba h
  obtain ⟨h2, h3⟩ := He.ba h
  refine ⟨⟨h1, He.eqO_ok h2⟩, ?_⟩
  split at h3
  · rename_i y e
    rw [e, beq_iff_eq.mp h3]
  · cases h3
theorem oexB_ok {K : PySem.W.Frag} {C : Addr} (h : oexB K C = true) : OexC K C := by
  obtain ⟨h1, h⟩ := He.ba h
  obtain ⟨h2, h⟩ := He.ba h
  obtain ⟨h3, h⟩ := He.ba h
  obtain ⟨h4, h5⟩ := He.ba h
  exact ⟨clsB_ok h1, He.eqO_ok h2, of_decide_eq_true h3, of_decide_eq_true h4, h5⟩
theorem kexB_ok {K : PySem.W.Frag} {C : Addr} (h : kexB K C = true) : KexC K C := by
  obtain ⟨h1, h⟩ := He.ba h
  obtain ⟨h2, h⟩ := He.ba h
  obtain ⟨h3, h⟩ := He.ba h
  obtain ⟨h4, h5⟩ := He.ba h
  obtain ⟨nm, qn, N, bs, bm, sn, sub, ab, col, dd, k0, k1, k2, k3, k5, e, t⟩ := clsB_ok h1
  have t' : bm = kmro (refs bm) := beq_iff_eq.mp t
  rw [t'] at e
  exact ⟨⟨nm, qn, N, bs, refs bm, sn, sub, ab, col, dd, k0, k1, k2, k3, k5, e⟩, He.eqO_ok h2, of_decide_eq_true h3, of_decide_eq_true h4, h5⟩
end K5
set_option Elab.async false
set_option linter.all false
set_option maxRecDepth 100000
set_option maxHeartbeats 0
/-! The part of the heap, forced to a written list, so that the kernel looks at it once. -/
namespace K5
open PySem PySem.Spec PyProof.Rows L2
section
variable {α : Type}
def fNats : List Nat → (List Nat → α) → α
  | [], k => k []
  | a :: r, k => HandSHeadRun.frNat a fun a => fNats r fun r => k (a :: r)
theorem fNats_eq : ∀ (l : List Nat) (k : List Nat → α), fNats l k = k l
  | [], k => rfl
  | a :: r, k => (HandSHeadRun.frNat_eq a _).trans (fNats_eq r _)
def fStr (x : Str) (k : Str → α) : α := fNats x.cps.toList fun l => k ⟨⟨l⟩⟩
theorem fStr_eq (x : Str) (k : Str → α) : fStr x k = k x := fNats_eq _ _
def fVal (v : Value) (k : Value → α) : α := match v with
  | .str x t => fStr x fun x => k (.str x t)
  | .ref a => HandSHeadRun.frNat a fun a => k (.ref a)
  | v => k v
theorem fVal_eq (v : Value) (k : Value → α) : fVal v k = k v := by
  unfold fVal
  split
  · exact fStr_eq _ _
  · exact HandSHeadRun.frNat_eq _ _
  · rfl
def fVals : List Value → (List Value → α) → α
  | [], k => k []
  | a :: r, k => fVal a fun a => fVals r fun r => k (a :: r)
theorem fVals_eq : ∀ (l : List Value) (k : List Value → α), fVals l k = k l
  | [], k => rfl
  | a :: r, k => (fVal_eq a _).trans (fVals_eq r _)
def fEnt (e : DictEntry) (k : DictEntry → α) : α := fVal e.key fun x => fVal e.val fun v => k { e with key := x, val := v }
theorem fEnt_eq (e : DictEntry) (k : DictEntry → α) : fEnt e k = k e := (fVal_eq _ _).trans (fVal_eq _ _)
def fEnts : List DictEntry → (List DictEntry → α) → α
  | [], k => k []
  | a :: r, k => fEnt a fun a => fEnts r fun r => k (a :: r)
theorem fEnts_eq : ∀ (l : List DictEntry) (k : List DictEntry → α), fEnts l k = k l
  | [], k => rfl
  | a :: r, k => (fEnt_eq a _).trans (fEnts_eq r _)
def fObj (o : Obj) (k : Obj → α) : α := match o with
  | ⟨c, d, .dict es n, sl⟩ => fEnts es.toList fun l => k ⟨c, d, .dict ⟨l⟩ n, sl⟩
  | ⟨c, d, .seq es n, sl⟩ => fVals es.toList fun l => k ⟨c, d, .seq ⟨l⟩ n, sl⟩
  | ⟨c, d, dt, sl⟩ => k ⟨c, d, dt, sl⟩
theorem fObj_eq (o : Obj) (k : Obj → α) : fObj o k = k o := by
  unfold fObj
  split
  · exact fEnts_eq _ _
  · exact fVals_eq _ _
  · rfl
def fK : PySem.W.Frag → (PySem.W.Frag → α) → α
  | [], k => k []
  | (a, o) :: r, k => HandSHeadRun.frNat a fun a => fObj o fun o => fK r fun r => k ((a, o) :: r)
theorem fK_eq : ∀ (K : PySem.W.Frag) (k : PySem.W.Frag → α), fK K k = k K
  | [], k => rfl
  | (a, o) :: r, k => (HandSHeadRun.frNat_eq a _).trans ((fObj_eq o _).trans (fK_eq r _))
end
end K5
set_option Elab.async false
set_option linter.all false
set_option maxRecDepth 100000
set_option maxHeartbeats 0
/-! Which addresses the head looks at: what the module's names reach, by a bit for each seen address. -/
namespace K5
open PySem PySem.Spec PyProof.Rows L2
def refsV : List Value → List Addr
  | [] => []
  | .ref a :: r => a :: refsV r
  | _ :: r => refsV r
def refsE : List DictEntry → List Addr
  | [] => []
  | ⟨_, _, .ref a⟩ :: r => a :: refsE r
  | _ :: r => refsE r
def refsK (o : Obj) : List Addr := match o with
  | ⟨_, _, .dict es _, _⟩ => refsE es.toList
  | ⟨_, _, .func fd, _⟩ => refsV [fd.code, fd.defaults, fd.kwdefaults]
  | ⟨_, _, .cls cd, _⟩ => [cd.ns]
  | ⟨_, _, .fields vs, _⟩ => (match vs.toList with
    | .ref a :: _ => [a]
    | _ => [])
  | _ => []
section
variable {α : Type}
def addAll : List Addr → Nat → List Addr → (Nat → List Addr → α) → α
  | [], s, acc, k => k s acc
  | a :: r, s, acc, k => HandSHeadRun.frNat a fun a => match Nat.land (Nat.shiftRight s a) 1 with
    | 0 => HandSHeadRun.frNat (Nat.lor s (Nat.shiftLeft 1 a)) fun s => addAll r s (a :: acc) k
    | _ + 1 => addAll r s acc k
theorem addAll_ex : ∀ (l : List Addr) (s : Nat) (acc : List Addr), ∃ s' acc', ∀ {α : Type} (k : Nat → List Addr → α), addAll l s acc k = k s' acc'
  | [], s, acc => ⟨s, acc, fun _ => rfl⟩
  | a :: r, s, acc => by
    cases e : Nat.land (Nat.shiftRight s a) 1 with
    | zero =>
      obtain ⟨s', acc', h⟩ := addAll_ex r (Nat.lor s (Nat.shiftLeft 1 a)) (a :: acc)
      refine ⟨s', acc', fun {α} k => ?_⟩
      show HandSHeadRun.frNat a _ = _
      rw [HandSHeadRun.frNat_eq]
      try dsimp only
      rw [e]
      try dsimp only
      rw [HandSHeadRun.frNat_eq]
      exact h k
    | succ n =>
      obtain ⟨s', acc', h⟩ := addAll_ex r s acc
      refine ⟨s', acc', fun {α} k => ?_⟩
      show HandSHeadRun.frNat a _ = _
      rw [HandSHeadRun.frNat_eq]
      try dsimp only
      rw [e]
      exact h k
def walkL (g : Addr → Option Obj) : List Addr → Nat → List Addr → (Nat → List Addr → α) → α
  | [], s, acc, k => k s acc
  | a :: r, s, acc, k => match g a with
    | some o => addAll (refsK o) s acc fun s acc => walkL g r s acc k
    | none => walkL g r s acc k
theorem walkL_ex (g : Addr → Option Obj) : ∀ (l : List Addr) (s : Nat) (acc : List Addr), ∃ s' acc', ∀ {α : Type} (k : Nat → List Addr → α), walkL g l s acc k = k s' acc'
  | [], s, acc => ⟨s, acc, fun _ => rfl⟩
  | a :: r, s, acc => by
    cases e : g a with
    | none =>
      obtain ⟨s', acc', h⟩ := walkL_ex g r s acc
      refine ⟨s', acc', fun {α} k => ?_⟩
      unfold walkL
      rw [e]
      exact h k
    | some o =>
      obtain ⟨s1, acc1, h1⟩ := addAll_ex (refsK o) s acc
      obtain ⟨s', acc', h⟩ := walkL_ex g r s1 acc1
      refine ⟨s', acc', fun {α} k => ?_⟩
      unfold walkL
      rw [e]
      try dsimp only
      rw [h1]
      exact h k
def levels (g : Addr → Option Obj) : Nat → List Addr → Nat → List Addr → (List Addr → α) → α
  | 0, _, _, all, k => k all
  | n + 1, fr, s, all, k => walkL g fr s [] fun s new => fNats (all ++ new) fun all => levels g n new s all k
theorem levels_ex (g : Addr → Option Obj) : ∀ (n : Nat) (fr : List Addr) (s : Nat) (all : List Addr), ∃ as, ∀ {α : Type} (k : List Addr → α), levels g n fr s all k = k as
  | 0, _, _, all => ⟨all, fun _ => rfl⟩
  | n + 1, fr, s, all => by
    obtain ⟨s1, new, h1⟩ := walkL_ex g fr s []
    obtain ⟨as, h⟩ := levels_ex g n new s1 (all ++ new)
    refine ⟨as, fun {α} k => ?_⟩
    unfold levels
    rw [h1, fNats_eq]
    exact h k
/-- the part of the heap, given to k -/
def partK (g : Addr → Option Obj) (k : PySem.W.Frag → α) : α := levels g 5 [mainGlobals] 0 [mainGlobals, PySem.cStatics] fun as => fK (He.frG g as) k
end
theorem partK_ex (g : Addr → Option Obj) : ∃ as, ∀ {α : Type} (k : PySem.W.Frag → α), partK g k = k (He.frG g as) := by
  obtain ⟨as, h⟩ := levels_ex g 5 [mainGlobals] 0 [mainGlobals, PySem.cStatics]
  refine ⟨as, fun {α} k => ?_⟩
  unfold partK
  rw [h, fK_eq]
end K5
set_option Elab.async false
set_option linter.all false
set_option maxRecDepth 100000
set_option maxHeartbeats 2000000
/-! The facts that the head tells (printed by head.py). -/
namespace K5
open PySem PySem.Spec PyProof.Rows L2
def fas : List (PySem.W.Frag → Bool) := [
  fun K => (He.Fa.free "len").ok K,
  fun K => (He.Fa.free "isinstance").ok K,
  fun K => (He.Fa.free "int").ok K,
  fun K => (He.Fa.free "bool").ok K,
  fun K => (He.Fa.free "str").ok K,
  fun K => (He.Fa.free "list").ok K,
  fun K => (He.Fa.free "tuple").ok K,
  fun K => (He.Fa.free "all").ok K,
  fun K => (He.Fa.free "sorted").ok K,
  fun K => (He.Fa.free "set").ok K,
  fun K => (He.Fa.free "range").ok K,
  fun K => (He.Fa.free "max").ok K,
  fun K => (He.Fa.free "min").ok K,
  fun K => (He.Fa.free "enumerate").ok K,
  fun K => (He.Fa.free "zip").ok K,
  fun K => (He.Fa.free "repr").ok K,
  fun K => (He.Fa.free "ValueError").ok K,
  fun K => (He.Fa.free "KeyError").ok K,
  fun K => (He.Fa.str "LETTERS" "abcdefghijklmnopqrstuvwxyz").ok K,
  fun K => (He.Fa.str "DIGITS" "0123456789").ok K,
  fun K => (He.Fa.int "MOST_LETTERS" 6).ok K,
  fun K => (He.Fa.int "MOST_WORDS" 100).ok K,
  fun K => (He.Fa.int "MOST_NUMBER" 9999).ok K,
  fun K => (He.Fa.int "MOST_FIELDS" 4).ok K,
  fun K => (He.Fa.int "MOST_ANSWERS" 5).ok K,
  fun K => (He.Fa.int "MOST_WIDTH" 2).ok K,
  fun K => (He.Fa.str "BAR" " | ").ok K,
  fun K => (He.Fa.str "NO_FIELDS" "-").ok K,
  fun K => (He.Fa.int "MOST_RULES" 24).ok K,
  fun K => (He.Fa.str "IF" " if ").ok K,
  fun K => (He.Fa.str "AND" " and ").ok K,
  fun K => (He.Fa.int "MOST_GROUPS" 2000).ok K,
  fun K => (He.Fa.glo "SORTS").ok K,
  fun K => He.tupB K "SORTS" [.str "word", .str "number"],
  fun K => (He.Fa.glo "WORD_OPERATORS").ok K,
  fun K => He.tupB K "WORD_OPERATORS" [.str "is", .str "not"],
  fun K => (He.Fa.glo "NUMBER_OPERATORS").ok K,
  fun K => He.tupB K "NUMBER_OPERATORS" [.str "most", .str "least"],
  fun K => (He.Fa.glo "is_integer").ok K,
  fun K => (He.Fa.glo "is_word").ok K,
  fun K => (He.Fa.glo "is_number").ok K,
  fun K => (He.Fa.glo "is_sequence").ok K,
  fun K => (He.Fa.glo "all_unlike").ok K,
  fun K => (He.Fa.glo "first_other").ok K,
  fun K => (He.Fa.glo "is_field").ok K,
  fun K => (He.Fa.glo "are_fields").ok K,
  fun K => (He.Fa.glo "are_answers").ok K,
  fun K => (He.Fa.glo "is_value").ok K,
  fun K => (He.Fa.glo "need_kind").ok K,
  fun K => (He.Fa.glo "meets_test").ok K,
  fun K => (He.Fa.glo "meets_all").ok K,
  fun K => (He.Fa.glo "is_answer").ok K,
  fun K => (He.Fa.glo "is_rule").ok K,
  fun K => (He.Fa.glo "are_rules").ok K,
  fun K => (He.Fa.glo "need_list").ok K,
  fun K => (He.Fa.glo "tests_of").ok K,
  fun K => (He.Fa.glo "word_members").ok K,
  fun K => (He.Fa.glo "number_members").ok K,
  fun K => (He.Fa.glo "members").ok K,
  fun K => (He.Fa.glo "grid").ok K,
  fun K => (He.Fa.glo "first_difference").ok K,
  fun K => (He.Fa.glo "may_swap").ok K,
  fun K => (He.Fa.glo "_law_cell").ok K,
  fun K => (He.Fa.glo "_law_box").ok K,
  fun K => (He.Fa.glo "_law_take").ok K,
  fun K => (He.Fa.glo "_law_words").ok K,
  fun K => (He.Fa.glo "_law_numbers").ok K,
  fun K => (He.Fa.glo "_law_kind").ok K,
  fun K => (He.Fa.glo "_law_pools").ok K,
  fun K => (He.Fa.glo "_law_meets").ok K,
  fun K => (He.Fa.glo "_law_all").ok K,
  fun K => (He.Fa.glo "_law_test").ok K,
  fun K => (He.Fa.glo "_law_rules").ok K,
  fun K => (He.Fa.glo "_law_decides").ok K,
  fun K => (He.Fa.glo "_law_answer").ok K,
  fun K => (He.Fa.glo "_law_tests_of").ok K,
  fun K => (He.Fa.glo "_law_members").ok K,
  fun K => (He.Fa.glo "_law_grid").ok K,
  fun K => (He.Fa.glo "_law_scene").ok K,
  fun K => (He.Fa.glo "_law_two").ok K,
  fun K => (He.Fa.glo "_law_border").ok K,
  fun K => (He.Fa.glo "_law_great").ok K,
  fun K => (He.Fa.glo "_law_caught").ok K,
  fun K => (He.Fa.glo "_law_may").ok K,
  fun K => (He.Fa.glo "_law_great_right").ok K,
  fun K => (He.Fa.meth "Kind" "fields").ok K,
  fun K => (He.Fa.meth "Kind" "names").ok K,
  fun K => (He.Fa.meth "Kind" "answers").ok K,
  fun K => (He.Fa.meth "Kind" "sort_of").ok K,
  fun K => (He.Fa.meth "Kind" "place_of").ok K,
  fun K => (He.Fa.meth "Kind" "is_test").ok K,
  fun K => (He.Fa.meth "Kind" "__str__").ok K,
  fun K => (He.Fa.meth "Kind" "__repr__").ok K,
  fun K => (He.Fa.meth "RuleList" "rules").ok K,
  fun K => (He.Fa.meth "RuleList" "place_for").ok K,
  fun K => (He.Fa.meth "RuleList" "answer_for").ok K,
  fun K => propB K (cK K) "width",
  fun K => propB K (cR K) "kind",
  fun K => (He.Fa.glo "Kind").ok K,
  fun K => (He.Fa.cls "Kind").ok K,
  fun K => He.eqO (PySem.W.findIn K (.ref (cK K)) "__class__") (some (some (.builtin "object.__class__"))),
  fun K => He.eqO (PySem.W.specialIn K (.builtin "object.__class__") "__get__") (some (some (.builtin "getset_descriptor.__get__"))),
  fun K => decide (PySem.W.takesIn K (.builtin "object.__class__") = some true),
  fun K => decide (PySem.W.mroIn K (cK K) (.type "object") = some true),
  fun K => (He.Fa.glo "RuleList").ok K,
  fun K => (He.Fa.cls "RuleList").ok K,
  fun K => He.eqO (PySem.W.findIn K (.ref (cR K)) "__class__") (some (some (.builtin "object.__class__"))),
  fun K => decide (PySem.W.mroIn K (cR K) (.type "object") = some true),
  fun K => (He.Fa.noat "Kind" "own_fields").ok K,
  fun K => (He.Fa.noat "Kind" "own_answers").ok K,
  fun K => (He.Fa.noat "Kind" "own_width").ok K,
  fun K => (He.Fa.noat "RuleList" "own_kind").ok K,
  fun K => (He.Fa.noat "RuleList" "own_rules").ok K,
  fun K => (He.Fa.mkr "Kind").ok K,
  fun K => (He.Fa.mkr "RuleList").ok K,
  fun K => decide (PySem.W.kitOne K (.type "NoneType") (.ref (cK K)) = some false),
  fun K => decide (PySem.W.kitOne K (.type "NoneType") (.ref (cR K)) = some false),
  fun K => decide (PySem.W.kitOne K (.type "int") (.ref (cK K)) = some false),
  fun K => decide (PySem.W.kitOne K (.type "int") (.ref (cR K)) = some false),
  fun K => decide (PySem.W.kitOne K (.type "bool") (.ref (cK K)) = some false),
  fun K => decide (PySem.W.kitOne K (.type "bool") (.ref (cR K)) = some false),
  fun K => decide (PySem.W.kitOne K (.type "str") (.ref (cK K)) = some false),
  fun K => decide (PySem.W.kitOne K (.type "str") (.ref (cR K)) = some false),
  fun K => decide (PySem.W.kitOne K (.type "list") (.ref (cK K)) = some false),
  fun K => decide (PySem.W.kitOne K (.type "list") (.ref (cR K)) = some false),
  fun K => decide (PySem.W.kitOne K (.type "tuple") (.ref (cK K)) = some false),
  fun K => decide (PySem.W.kitOne K (.type "tuple") (.ref (cR K)) = some false),
  fun K => decide (PySem.W.kitOne K (.ref (cK K)) (.ref (cK K)) = some true),
  fun K => decide (PySem.W.kitOne K (.ref (cK K)) (.ref (cR K)) = some false),
  fun K => decide (PySem.W.kitOne K (.ref (cR K)) (.ref (cK K)) = some false),
  fun K => decide (PySem.W.kitOne K (.ref (cR K)) (.ref (cR K)) = some true),
  fun K => (He.Fa.glo "InvalidList").ok K,
  fun K => (He.Fa.glo "TooMany").ok K,
  fun K => (He.Fa.glo "NoRule").ok K,
  fun K => (He.Fa.glo "SeenError").ok K,
  fun K => (He.Fa.glo "AbsentError").ok K,
  fun K => oexB K (cIL K),
  fun K => oexB K (cTM K),
  fun K => kexB K (cNR K),
  fun K => He.eqO (PySem.W.findIn K (.ref (cIL K)) "__init__") (some (some (.ref (He.ma K (cIL K) "__init__")))),
  fun K => decide (PySem.W.typeIn K (.ref (He.ma K (cIL K) "__init__")) = some (.type "function")),
  fun K => He.eqO (PySem.W.findIn K (.ref (cTM K)) "__init__") (some (some (.ref (He.ma K (cTM K) "__init__")))),
  fun K => decide (PySem.W.typeIn K (.ref (He.ma K (cTM K) "__init__")) = some (.type "function")),
  fun K => He.eqO (PySem.W.findIn K (.ref (cNR K)) "__init__") (some (some (.ref (He.ma K (cNR K) "__init__")))),
  fun K => decide (PySem.W.typeIn K (.ref (He.ma K (cNR K) "__init__")) = some (.type "function")),
  fun K => xfB K (cIL K),
  fun K => xfB K (cTM K),
  fun K => xfB K (cNR K),
  fun K => decide (PySem.W.findIn K (.ref (cIL K)) "value" = some none),
  fun K => decide (PySem.W.findIn K (.ref (cTM K)) "count" = some none),
  fun K => decide (PySem.W.findIn K (.ref (cNR K)) "value" = some none),
  fun K => baseB K (cSE K) "ValueError.__init__",
  fun K => baseB K (cAE K) "KeyError.__init__",
  fun K => decide (PySem.W.exmOne K (.ref (cIL K)) (.ref (cIL K)) = some true),
  fun K => decide (PySem.W.exmOne K (.ref (cNR K)) (.ref (cIL K)) = some false),
  fun K => decide (PySem.W.exmOne K (.ref (cNR K)) (.ref (cNR K)) = some true),
  fun K => decide (PySem.W.exmOne K (.ref (cTM K)) (.ref (cIL K)) = some false),
  fun K => decide (PySem.W.exmOne K (.ref (cTM K)) (.ref (cNR K)) = some false),
  fun K => decide (PySem.W.exmOne K (.ref (cTM K)) (.ref (cTM K)) = some true),
  fun K => (He.Fa.glo "law").ok K]
def das : List DefA := [
  { ad := fun K => He.ga K "is_integer", name := "is_integer", qual := "is_integer", st := s_is_integer },
  { ad := fun K => He.ga K "is_word", name := "is_word", qual := "is_word", st := s_is_word },
  { ad := fun K => He.ga K "is_number", name := "is_number", qual := "is_number", st := s_is_number },
  { ad := fun K => He.ga K "is_sequence", name := "is_sequence", qual := "is_sequence", st := s_is_sequence },
  { ad := fun K => He.ga K "all_unlike", name := "all_unlike", qual := "all_unlike", st := s_all_unlike },
  { ad := fun K => He.ga K "first_other", name := "first_other", qual := "first_other", st := s_first_other },
  { ad := fun K => He.ga K "is_field", name := "is_field", qual := "is_field", st := s_is_field },
  { ad := fun K => He.ga K "are_fields", name := "are_fields", qual := "are_fields", st := s_are_fields },
  { ad := fun K => He.ga K "are_answers", name := "are_answers", qual := "are_answers", st := s_are_answers },
  { ad := fun K => He.ga K "is_value", name := "is_value", qual := "is_value", st := s_is_value },
  { ad := fun K => He.ga K "need_kind", name := "need_kind", qual := "need_kind", st := s_need_kind },
  { ad := fun K => He.ga K "meets_test", name := "meets_test", qual := "meets_test", st := s_meets_test },
  { ad := fun K => He.ga K "meets_all", name := "meets_all", qual := "meets_all", st := s_meets_all },
  { ad := fun K => He.ga K "is_answer", name := "is_answer", qual := "is_answer", st := s_is_answer },
  { ad := fun K => He.ga K "is_rule", name := "is_rule", qual := "is_rule", st := s_is_rule },
  { ad := fun K => He.ga K "are_rules", name := "are_rules", qual := "are_rules", st := s_are_rules },
  { ad := fun K => He.ga K "need_list", name := "need_list", qual := "need_list", st := s_need_list },
  { ad := fun K => He.ga K "tests_of", name := "tests_of", qual := "tests_of", st := s_tests_of },
  { ad := fun K => He.ga K "word_members", name := "word_members", qual := "word_members", st := s_word_members },
  { ad := fun K => He.ga K "number_members", name := "number_members", qual := "number_members", st := s_number_members },
  { ad := fun K => He.ga K "members", name := "members", qual := "members", st := s_members },
  { ad := fun K => He.ga K "grid", name := "grid", qual := "grid", st := s_grid },
  { ad := fun K => He.ga K "first_difference", name := "first_difference", qual := "first_difference", st := s_first_difference },
  { ad := fun K => He.ga K "may_swap", name := "may_swap", qual := "may_swap", st := s_may_swap },
  { ad := fun K => He.ga K "_law_cell", name := "_law_cell", qual := "_law_cell", st := s__law_cell },
  { ad := fun K => He.ga K "_law_box", name := "_law_box", qual := "_law_box", st := s__law_box },
  { ad := fun K => He.ga K "_law_take", name := "_law_take", qual := "_law_take", st := s__law_take },
  { ad := fun K => He.ga K "_law_words", name := "_law_words", qual := "_law_words", st := s__law_words },
  { ad := fun K => He.ga K "_law_numbers", name := "_law_numbers", qual := "_law_numbers", st := s__law_numbers },
  { ad := fun K => He.ga K "_law_kind", name := "_law_kind", qual := "_law_kind", st := s__law_kind },
  { ad := fun K => He.ga K "_law_pools", name := "_law_pools", qual := "_law_pools", st := s__law_pools },
  { ad := fun K => He.ga K "_law_meets", name := "_law_meets", qual := "_law_meets", st := s__law_meets },
  { ad := fun K => He.ga K "_law_all", name := "_law_all", qual := "_law_all", st := s__law_all },
  { ad := fun K => He.ga K "_law_test", name := "_law_test", qual := "_law_test", st := s__law_test },
  { ad := fun K => He.ga K "_law_rules", name := "_law_rules", qual := "_law_rules", st := s__law_rules },
  { ad := fun K => He.ga K "_law_decides", name := "_law_decides", qual := "_law_decides", st := s__law_decides },
  { ad := fun K => He.ga K "_law_answer", name := "_law_answer", qual := "_law_answer", st := s__law_answer },
  { ad := fun K => He.ga K "_law_tests_of", name := "_law_tests_of", qual := "_law_tests_of", st := s__law_tests_of },
  { ad := fun K => He.ga K "_law_members", name := "_law_members", qual := "_law_members", st := s__law_members },
  { ad := fun K => He.ga K "_law_grid", name := "_law_grid", qual := "_law_grid", st := s__law_grid },
  { ad := fun K => He.ga K "_law_scene", name := "_law_scene", qual := "_law_scene", st := s__law_scene },
  { ad := fun K => He.ga K "_law_two", name := "_law_two", qual := "_law_two", st := s__law_two },
  { ad := fun K => He.ga K "_law_border", name := "_law_border", qual := "_law_border", st := s__law_border },
  { ad := fun K => He.ga K "_law_great", name := "_law_great", qual := "_law_great", st := s__law_great },
  { ad := fun K => He.ga K "_law_caught", name := "_law_caught", qual := "_law_caught", st := s__law_caught },
  { ad := fun K => He.ga K "_law_may", name := "_law_may", qual := "_law_may", st := s__law_may },
  { ad := fun K => He.ga K "_law_great_right", name := "_law_great_right", qual := "_law_great_right", st := s__law_great_right },
  { ad := fun K => He.ma K (cK K) "fields", name := "fields", qual := "Kind.fields", st := s_Kind_fields },
  { ad := fun K => He.ma K (cK K) "names", name := "names", qual := "Kind.names", st := s_Kind_names },
  { ad := fun K => He.ma K (cK K) "answers", name := "answers", qual := "Kind.answers", st := s_Kind_answers },
  { ad := fun K => He.ma K (cK K) "sort_of", name := "sort_of", qual := "Kind.sort_of", st := s_Kind_sort_of },
  { ad := fun K => He.ma K (cK K) "place_of", name := "place_of", qual := "Kind.place_of", st := s_Kind_place_of },
  { ad := fun K => He.ma K (cK K) "is_test", name := "is_test", qual := "Kind.is_test", st := s_Kind_is_test },
  { ad := fun K => He.ma K (cK K) "__str__", name := "__str__", qual := "Kind.__str__", st := s_Kind___str__ },
  { ad := fun K => He.ma K (cK K) "__repr__", name := "__repr__", qual := "Kind.__repr__", st := s_Kind___repr__ },
  { ad := fun K => He.ma K (cR K) "rules", name := "rules", qual := "RuleList.rules", st := s_RuleList_rules },
  { ad := fun K => He.ma K (cR K) "place_for", name := "place_for", qual := "RuleList.place_for", st := s_RuleList_place_for },
  { ad := fun K => He.ma K (cR K) "answer_for", name := "answer_for", qual := "RuleList.answer_for", st := s_RuleList_answer_for },
  { ad := fun K => pGet K (cK K) "width", name := "width", qual := "Kind.width", st := s_Kind_width },
  { ad := fun K => pGet K (cR K) "kind", name := "kind", qual := "RuleList.kind", st := s_RuleList_kind },
  { ad := fun K => He.ma K (cK K) "__init__", name := "__init__", qual := "Kind.__init__", st := s_Kind___init__, kwd := [("width", .int 1)] },
  { ad := fun K => He.ma K (cR K) "__init__", name := "__init__", qual := "RuleList.__init__", st := s_RuleList___init__ },
  { ad := fun K => He.ma K (cIL K) "__init__", name := "__init__", qual := "InvalidList.__init__", st := s_InvalidList___init__ },
  { ad := fun K => He.ma K (cTM K) "__init__", name := "__init__", qual := "TooMany.__init__", st := s_TooMany___init__ },
  { ad := fun K => He.ma K (cNR K) "__init__", name := "__init__", qual := "NoRule.__init__", st := s_NoRule___init__ },
  { ad := fun K => He.ga K "law", name := "law", qual := "law", st := s_law }]
abbrev AlK : Type := Bool × List He.FnW
def obsK (K : PySem.W.Frag) : AlK := ((fas.all fun f => f K) && das.all fun d => d.ok K, das.map fun d => fnWa K (d.ad K))
def valK : AlK := (true, das.map DefA.val)
def SaysK (K : PySem.W.Frag) : Prop := obsK K = valK
def hookK : PySem.W.Hook where
  α := AlK
  obs := fun s => partK s.heap.get? obsK
  val := fun _ => valK
  says := fun _ h => ∃ K : PySem.W.Frag, K.In h ∧ SaysK K
  of := fun _ s e => let ⟨as, q⟩ := partK_ex s.heap.get?; ⟨He.frG s.heap.get? as, He.frG_in, (q obsK).symm.trans e⟩
  keeps := fun _ _ _ ⟨K, hK, c⟩ k => ⟨K, PySem.W.Frag.In.keeps hK k, c⟩
section
variable {K : PySem.W.Frag} {h : Heap} {mg : Str → Option Value}
theorem SaysK.fact (c : SaysK K) (i : Nat) {f : PySem.W.Frag → Bool} (h : fas[i]? = some f) : f K = true :=
  List.all_eq_true.mp (He.ba (show ((fas.all fun f => f K) && das.all fun d => d.ok K) = true from congrArg (fun z : AlK => z.1) c)).1 f (List.mem_of_getElem? h)
theorem SaysK.def_ (c : SaysK K) (i : Nat) {d : DefA} (h : das[i]? = some d) : ∃ fd, FunD K d.name d.qual (defArgs d.st) (defBody d.st) (defScope d.st) [] d.kwd (d.ad K) fd := by
  have c2 := (He.ba (show ((fas.all fun f => f K) && das.all fun d => d.ok K) = true from congrArg (fun z : AlK => z.1) c)).2
  have e2 : (das.map fun d => fnWa K (d.ad K))[i]? = (das.map DefA.val)[i]? := by rw [show (das.map fun d => fnWa K (d.ad K)) = das.map DefA.val from congrArg (fun z : AlK => z.2) c]
  rw [List.getElem?_map, List.getElem?_map, h] at e2
  exact DefA.funD (Option.some.inj e2) (List.all_eq_true.mp c2 d (List.mem_of_getElem? h))
theorem top_of (X : K.In h) (G : h.Ns mainGlobals mg) (c : SaysK K) : Top K mg where
  f_len := He.free_ok X G (x := "len") (c.fact 0 rfl)
  f_isinstance := He.free_ok X G (x := "isinstance") (c.fact 1 rfl)
  f_int := He.free_ok X G (x := "int") (c.fact 2 rfl)
  f_bool := He.free_ok X G (x := "bool") (c.fact 3 rfl)
  f_str := He.free_ok X G (x := "str") (c.fact 4 rfl)
  f_list := He.free_ok X G (x := "list") (c.fact 5 rfl)
  f_tuple := He.free_ok X G (x := "tuple") (c.fact 6 rfl)
  f_all := He.free_ok X G (x := "all") (c.fact 7 rfl)
  f_sorted := He.free_ok X G (x := "sorted") (c.fact 8 rfl)
  f_set := He.free_ok X G (x := "set") (c.fact 9 rfl)
  f_range := He.free_ok X G (x := "range") (c.fact 10 rfl)
  f_max := He.free_ok X G (x := "max") (c.fact 11 rfl)
  f_min := He.free_ok X G (x := "min") (c.fact 12 rfl)
  f_enumerate := He.free_ok X G (x := "enumerate") (c.fact 13 rfl)
  f_zip := He.free_ok X G (x := "zip") (c.fact 14 rfl)
  f_repr := He.free_ok X G (x := "repr") (c.fact 15 rfl)
  f_ValueError := He.free_ok X G (x := "ValueError") (c.fact 16 rfl)
  f_KeyError := He.free_ok X G (x := "KeyError") (c.fact 17 rfl)
  c_LETTERS := let ⟨t, e⟩ := He.str_ok X G (x := "LETTERS") (z := "abcdefghijklmnopqrstuvwxyz") (c.fact 18 rfl); ⟨_, e, t, rfl⟩
  c_DIGITS := let ⟨t, e⟩ := He.str_ok X G (x := "DIGITS") (z := "0123456789") (c.fact 19 rfl); ⟨_, e, t, rfl⟩
  c_MOST_LETTERS := let ⟨t, e⟩ := He.int_ok X G (x := "MOST_LETTERS") (i := 6) (c.fact 20 rfl); ⟨_, e, t, rfl⟩
  c_MOST_WORDS := let ⟨t, e⟩ := He.int_ok X G (x := "MOST_WORDS") (i := 100) (c.fact 21 rfl); ⟨_, e, t, rfl⟩
  c_MOST_NUMBER := let ⟨t, e⟩ := He.int_ok X G (x := "MOST_NUMBER") (i := 9999) (c.fact 22 rfl); ⟨_, e, t, rfl⟩
  c_MOST_FIELDS := let ⟨t, e⟩ := He.int_ok X G (x := "MOST_FIELDS") (i := 4) (c.fact 23 rfl); ⟨_, e, t, rfl⟩
  c_MOST_ANSWERS := let ⟨t, e⟩ := He.int_ok X G (x := "MOST_ANSWERS") (i := 5) (c.fact 24 rfl); ⟨_, e, t, rfl⟩
  c_MOST_WIDTH := let ⟨t, e⟩ := He.int_ok X G (x := "MOST_WIDTH") (i := 2) (c.fact 25 rfl); ⟨_, e, t, rfl⟩
  c_BAR := let ⟨t, e⟩ := He.str_ok X G (x := "BAR") (z := " | ") (c.fact 26 rfl); ⟨_, e, t, rfl⟩
  c_NO_FIELDS := let ⟨t, e⟩ := He.str_ok X G (x := "NO_FIELDS") (z := "-") (c.fact 27 rfl); ⟨_, e, t, rfl⟩
  c_MOST_RULES := let ⟨t, e⟩ := He.int_ok X G (x := "MOST_RULES") (i := 24) (c.fact 28 rfl); ⟨_, e, t, rfl⟩
  c_IF := let ⟨t, e⟩ := He.str_ok X G (x := "IF") (z := " if ") (c.fact 29 rfl); ⟨_, e, t, rfl⟩
  c_AND := let ⟨t, e⟩ := He.str_ok X G (x := "AND") (z := " and ") (c.fact 30 rfl); ⟨_, e, t, rfl⟩
  c_MOST_GROUPS := let ⟨t, e⟩ := He.int_ok X G (x := "MOST_GROUPS") (i := 2000) (c.fact 31 rfl); ⟨_, e, t, rfl⟩
  c_SORTS := ⟨_, He.glo_ok X G (x := "SORTS") (c.fact 32 rfl), rfl⟩
  t_SORTS := fun H => He.tupB_ok (x := "SORTS") (vs := [.str "word", .str "number"]) (c.fact 33 rfl) H
  c_WORD_OPERATORS := ⟨_, He.glo_ok X G (x := "WORD_OPERATORS") (c.fact 34 rfl), rfl⟩
  t_WORD_OPERATORS := fun H => He.tupB_ok (x := "WORD_OPERATORS") (vs := [.str "is", .str "not"]) (c.fact 35 rfl) H
  c_NUMBER_OPERATORS := ⟨_, He.glo_ok X G (x := "NUMBER_OPERATORS") (c.fact 36 rfl), rfl⟩
  t_NUMBER_OPERATORS := fun H => He.tupB_ok (x := "NUMBER_OPERATORS") (vs := [.str "most", .str "least"]) (c.fact 37 rfl) H
  d_is_integer := let ⟨fd, F⟩ := c.def_ 0 rfl; ⟨⟨_, fd, He.glo_ok X G (x := "is_integer") (c.fact 38 rfl), F⟩⟩
  d_is_word := let ⟨fd, F⟩ := c.def_ 1 rfl; ⟨⟨_, fd, He.glo_ok X G (x := "is_word") (c.fact 39 rfl), F⟩⟩
  d_is_number := let ⟨fd, F⟩ := c.def_ 2 rfl; ⟨⟨_, fd, He.glo_ok X G (x := "is_number") (c.fact 40 rfl), F⟩⟩
  d_is_sequence := let ⟨fd, F⟩ := c.def_ 3 rfl; ⟨⟨_, fd, He.glo_ok X G (x := "is_sequence") (c.fact 41 rfl), F⟩⟩
  d_all_unlike := let ⟨fd, F⟩ := c.def_ 4 rfl; ⟨⟨_, fd, He.glo_ok X G (x := "all_unlike") (c.fact 42 rfl), F⟩⟩
  d_first_other := let ⟨fd, F⟩ := c.def_ 5 rfl; ⟨⟨_, fd, He.glo_ok X G (x := "first_other") (c.fact 43 rfl), F⟩⟩
  d_is_field := let ⟨fd, F⟩ := c.def_ 6 rfl; ⟨⟨_, fd, He.glo_ok X G (x := "is_field") (c.fact 44 rfl), F⟩⟩
  d_are_fields := let ⟨fd, F⟩ := c.def_ 7 rfl; ⟨⟨_, fd, He.glo_ok X G (x := "are_fields") (c.fact 45 rfl), F⟩⟩
  d_are_answers := let ⟨fd, F⟩ := c.def_ 8 rfl; ⟨⟨_, fd, He.glo_ok X G (x := "are_answers") (c.fact 46 rfl), F⟩⟩
  d_is_value := let ⟨fd, F⟩ := c.def_ 9 rfl; ⟨⟨_, fd, He.glo_ok X G (x := "is_value") (c.fact 47 rfl), F⟩⟩
  d_need_kind := let ⟨fd, F⟩ := c.def_ 10 rfl; ⟨⟨_, fd, He.glo_ok X G (x := "need_kind") (c.fact 48 rfl), F⟩⟩
  d_meets_test := let ⟨fd, F⟩ := c.def_ 11 rfl; ⟨⟨_, fd, He.glo_ok X G (x := "meets_test") (c.fact 49 rfl), F⟩⟩
  d_meets_all := let ⟨fd, F⟩ := c.def_ 12 rfl; ⟨⟨_, fd, He.glo_ok X G (x := "meets_all") (c.fact 50 rfl), F⟩⟩
  d_is_answer := let ⟨fd, F⟩ := c.def_ 13 rfl; ⟨⟨_, fd, He.glo_ok X G (x := "is_answer") (c.fact 51 rfl), F⟩⟩
  d_is_rule := let ⟨fd, F⟩ := c.def_ 14 rfl; ⟨⟨_, fd, He.glo_ok X G (x := "is_rule") (c.fact 52 rfl), F⟩⟩
  d_are_rules := let ⟨fd, F⟩ := c.def_ 15 rfl; ⟨⟨_, fd, He.glo_ok X G (x := "are_rules") (c.fact 53 rfl), F⟩⟩
  d_need_list := let ⟨fd, F⟩ := c.def_ 16 rfl; ⟨⟨_, fd, He.glo_ok X G (x := "need_list") (c.fact 54 rfl), F⟩⟩
  d_tests_of := let ⟨fd, F⟩ := c.def_ 17 rfl; ⟨⟨_, fd, He.glo_ok X G (x := "tests_of") (c.fact 55 rfl), F⟩⟩
  d_word_members := let ⟨fd, F⟩ := c.def_ 18 rfl; ⟨⟨_, fd, He.glo_ok X G (x := "word_members") (c.fact 56 rfl), F⟩⟩
  d_number_members := let ⟨fd, F⟩ := c.def_ 19 rfl; ⟨⟨_, fd, He.glo_ok X G (x := "number_members") (c.fact 57 rfl), F⟩⟩
  d_members := let ⟨fd, F⟩ := c.def_ 20 rfl; ⟨⟨_, fd, He.glo_ok X G (x := "members") (c.fact 58 rfl), F⟩⟩
  d_grid := let ⟨fd, F⟩ := c.def_ 21 rfl; ⟨⟨_, fd, He.glo_ok X G (x := "grid") (c.fact 59 rfl), F⟩⟩
  d_first_difference := let ⟨fd, F⟩ := c.def_ 22 rfl; ⟨⟨_, fd, He.glo_ok X G (x := "first_difference") (c.fact 60 rfl), F⟩⟩
  d_may_swap := let ⟨fd, F⟩ := c.def_ 23 rfl; ⟨⟨_, fd, He.glo_ok X G (x := "may_swap") (c.fact 61 rfl), F⟩⟩
  d__law_cell := let ⟨fd, F⟩ := c.def_ 24 rfl; ⟨⟨_, fd, He.glo_ok X G (x := "_law_cell") (c.fact 62 rfl), F⟩⟩
  d__law_box := let ⟨fd, F⟩ := c.def_ 25 rfl; ⟨⟨_, fd, He.glo_ok X G (x := "_law_box") (c.fact 63 rfl), F⟩⟩
  d__law_take := let ⟨fd, F⟩ := c.def_ 26 rfl; ⟨⟨_, fd, He.glo_ok X G (x := "_law_take") (c.fact 64 rfl), F⟩⟩
  d__law_words := let ⟨fd, F⟩ := c.def_ 27 rfl; ⟨⟨_, fd, He.glo_ok X G (x := "_law_words") (c.fact 65 rfl), F⟩⟩
  d__law_numbers := let ⟨fd, F⟩ := c.def_ 28 rfl; ⟨⟨_, fd, He.glo_ok X G (x := "_law_numbers") (c.fact 66 rfl), F⟩⟩
  d__law_kind := let ⟨fd, F⟩ := c.def_ 29 rfl; ⟨⟨_, fd, He.glo_ok X G (x := "_law_kind") (c.fact 67 rfl), F⟩⟩
  d__law_pools := let ⟨fd, F⟩ := c.def_ 30 rfl; ⟨⟨_, fd, He.glo_ok X G (x := "_law_pools") (c.fact 68 rfl), F⟩⟩
  d__law_meets := let ⟨fd, F⟩ := c.def_ 31 rfl; ⟨⟨_, fd, He.glo_ok X G (x := "_law_meets") (c.fact 69 rfl), F⟩⟩
  d__law_all := let ⟨fd, F⟩ := c.def_ 32 rfl; ⟨⟨_, fd, He.glo_ok X G (x := "_law_all") (c.fact 70 rfl), F⟩⟩
  d__law_test := let ⟨fd, F⟩ := c.def_ 33 rfl; ⟨⟨_, fd, He.glo_ok X G (x := "_law_test") (c.fact 71 rfl), F⟩⟩
  d__law_rules := let ⟨fd, F⟩ := c.def_ 34 rfl; ⟨⟨_, fd, He.glo_ok X G (x := "_law_rules") (c.fact 72 rfl), F⟩⟩
  d__law_decides := let ⟨fd, F⟩ := c.def_ 35 rfl; ⟨⟨_, fd, He.glo_ok X G (x := "_law_decides") (c.fact 73 rfl), F⟩⟩
  d__law_answer := let ⟨fd, F⟩ := c.def_ 36 rfl; ⟨⟨_, fd, He.glo_ok X G (x := "_law_answer") (c.fact 74 rfl), F⟩⟩
  d__law_tests_of := let ⟨fd, F⟩ := c.def_ 37 rfl; ⟨⟨_, fd, He.glo_ok X G (x := "_law_tests_of") (c.fact 75 rfl), F⟩⟩
  d__law_members := let ⟨fd, F⟩ := c.def_ 38 rfl; ⟨⟨_, fd, He.glo_ok X G (x := "_law_members") (c.fact 76 rfl), F⟩⟩
  d__law_grid := let ⟨fd, F⟩ := c.def_ 39 rfl; ⟨⟨_, fd, He.glo_ok X G (x := "_law_grid") (c.fact 77 rfl), F⟩⟩
  d__law_scene := let ⟨fd, F⟩ := c.def_ 40 rfl; ⟨⟨_, fd, He.glo_ok X G (x := "_law_scene") (c.fact 78 rfl), F⟩⟩
  d__law_two := let ⟨fd, F⟩ := c.def_ 41 rfl; ⟨⟨_, fd, He.glo_ok X G (x := "_law_two") (c.fact 79 rfl), F⟩⟩
  d__law_border := let ⟨fd, F⟩ := c.def_ 42 rfl; ⟨⟨_, fd, He.glo_ok X G (x := "_law_border") (c.fact 80 rfl), F⟩⟩
  d__law_great := let ⟨fd, F⟩ := c.def_ 43 rfl; ⟨⟨_, fd, He.glo_ok X G (x := "_law_great") (c.fact 81 rfl), F⟩⟩
  d__law_caught := let ⟨fd, F⟩ := c.def_ 44 rfl; ⟨⟨_, fd, He.glo_ok X G (x := "_law_caught") (c.fact 82 rfl), F⟩⟩
  d__law_may := let ⟨fd, F⟩ := c.def_ 45 rfl; ⟨⟨_, fd, He.glo_ok X G (x := "_law_may") (c.fact 83 rfl), F⟩⟩
  d__law_great_right := let ⟨fd, F⟩ := c.def_ 46 rfl; ⟨⟨_, fd, He.glo_ok X G (x := "_law_great_right") (c.fact 84 rfl), F⟩⟩
  m_Kind_fields := let ⟨fd, F⟩ := c.def_ 47 rfl; ⟨⟨_, fd, He.meth_ok (x := "Kind") (m := "fields") (c.fact 85 rfl), F⟩⟩
  m_Kind_names := let ⟨fd, F⟩ := c.def_ 48 rfl; ⟨⟨_, fd, He.meth_ok (x := "Kind") (m := "names") (c.fact 86 rfl), F⟩⟩
  m_Kind_answers := let ⟨fd, F⟩ := c.def_ 49 rfl; ⟨⟨_, fd, He.meth_ok (x := "Kind") (m := "answers") (c.fact 87 rfl), F⟩⟩
  m_Kind_sort_of := let ⟨fd, F⟩ := c.def_ 50 rfl; ⟨⟨_, fd, He.meth_ok (x := "Kind") (m := "sort_of") (c.fact 88 rfl), F⟩⟩
  m_Kind_place_of := let ⟨fd, F⟩ := c.def_ 51 rfl; ⟨⟨_, fd, He.meth_ok (x := "Kind") (m := "place_of") (c.fact 89 rfl), F⟩⟩
  m_Kind_is_test := let ⟨fd, F⟩ := c.def_ 52 rfl; ⟨⟨_, fd, He.meth_ok (x := "Kind") (m := "is_test") (c.fact 90 rfl), F⟩⟩
  m_Kind___str__ := let ⟨fd, F⟩ := c.def_ 53 rfl; ⟨⟨_, fd, He.meth_ok (x := "Kind") (m := "__str__") (c.fact 91 rfl), F⟩⟩
  m_Kind___repr__ := let ⟨fd, F⟩ := c.def_ 54 rfl; ⟨⟨_, fd, He.meth_ok (x := "Kind") (m := "__repr__") (c.fact 92 rfl), F⟩⟩
  m_RuleList_rules := let ⟨fd, F⟩ := c.def_ 55 rfl; ⟨⟨_, fd, He.meth_ok (x := "RuleList") (m := "rules") (c.fact 93 rfl), F⟩⟩
  m_RuleList_place_for := let ⟨fd, F⟩ := c.def_ 56 rfl; ⟨⟨_, fd, He.meth_ok (x := "RuleList") (m := "place_for") (c.fact 94 rfl), F⟩⟩
  m_RuleList_answer_for := let ⟨fd, F⟩ := c.def_ 57 rfl; ⟨⟨_, fd, He.meth_ok (x := "RuleList") (m := "answer_for") (c.fact 95 rfl), F⟩⟩
  p_Kind_width := let ⟨fd, F⟩ := c.def_ 58 rfl; ⟨⟨_, _, fd, propB_ok (c.fact 96 rfl), F⟩⟩
  p_RuleList_kind := let ⟨fd, F⟩ := c.def_ 59 rfl; ⟨⟨_, _, fd, propB_ok (c.fact 97 rfl), F⟩⟩
  g_Kind := He.glo_ok X G (x := "Kind") (c.fact 98 rfl)
  k_Kind := He.cls_ok (x := "Kind") (c.fact 99 rfl)
  y_Kind := fun H p dx fs e => .base (.ins e (He.cls_ok (x := "Kind") (c.fact 99 rfl)) (He.eqO_ok (c.fact 100 rfl)) (He.eqO_ok (c.fact 101 rfl)) (of_decide_eq_true (c.fact 102 rfl)) (of_decide_eq_true (c.fact 103 rfl)))
  g_RuleList := He.glo_ok X G (x := "RuleList") (c.fact 104 rfl)
  k_RuleList := He.cls_ok (x := "RuleList") (c.fact 105 rfl)
  y_RuleList := fun H p dx fs e => .base (.ins e (He.cls_ok (x := "RuleList") (c.fact 105 rfl)) (He.eqO_ok (c.fact 106 rfl)) (He.eqO_ok (c.fact 101 rfl)) (of_decide_eq_true (c.fact 102 rfl)) (of_decide_eq_true (c.fact 107 rfl)))
  n_own_fields := He.noat_ok (x := "Kind") (f := "own_fields") (c.fact 108 rfl)
  n_own_answers := He.noat_ok (x := "Kind") (f := "own_answers") (c.fact 109 rfl)
  n_own_width := He.noat_ok (x := "Kind") (f := "own_width") (c.fact 110 rfl)
  n_own_kind := He.noat_ok (x := "RuleList") (f := "own_kind") (c.fact 111 rfl)
  n_own_rules := He.noat_ok (x := "RuleList") (f := "own_rules") (c.fact 112 rfl)
  i_Kind := let ⟨fd, F⟩ := c.def_ 60 rfl; ⟨_, fd, He.mkr_ok (x := "Kind") (c.fact 113 rfl), F⟩
  i_RuleList := let ⟨fd, F⟩ := c.def_ 61 rfl; ⟨_, fd, He.mkr_ok (x := "RuleList") (c.fact 114 rfl), F⟩
  q_NoneType_Kind := of_decide_eq_true (c.fact 115 rfl)
  q_NoneType_RuleList := of_decide_eq_true (c.fact 116 rfl)
  q_int_Kind := of_decide_eq_true (c.fact 117 rfl)
  q_int_RuleList := of_decide_eq_true (c.fact 118 rfl)
  q_bool_Kind := of_decide_eq_true (c.fact 119 rfl)
  q_bool_RuleList := of_decide_eq_true (c.fact 120 rfl)
  q_str_Kind := of_decide_eq_true (c.fact 121 rfl)
  q_str_RuleList := of_decide_eq_true (c.fact 122 rfl)
  q_list_Kind := of_decide_eq_true (c.fact 123 rfl)
  q_list_RuleList := of_decide_eq_true (c.fact 124 rfl)
  q_tuple_Kind := of_decide_eq_true (c.fact 125 rfl)
  q_tuple_RuleList := of_decide_eq_true (c.fact 126 rfl)
  q_Kind_Kind := of_decide_eq_true (c.fact 127 rfl)
  q_Kind_RuleList := of_decide_eq_true (c.fact 128 rfl)
  q_RuleList_Kind := of_decide_eq_true (c.fact 129 rfl)
  q_RuleList_RuleList := of_decide_eq_true (c.fact 130 rfl)
theorem topx_of (X : K.In h) (G : h.Ns mainGlobals mg) (c : SaysK K) : TopX K mg where
  g_InvalidList := He.glo_ok X G (x := "InvalidList") (c.fact 131 rfl)
  g_TooMany := He.glo_ok X G (x := "TooMany") (c.fact 132 rfl)
  g_NoRule := He.glo_ok X G (x := "NoRule") (c.fact 133 rfl)
  g_SeenError := He.glo_ok X G (x := "SeenError") (c.fact 134 rfl)
  g_AbsentError := He.glo_ok X G (x := "AbsentError") (c.fact 135 rfl)
  o_InvalidList := oexB_ok (c.fact 136 rfl)
  o_TooMany := oexB_ok (c.fact 137 rfl)
  o_NoRule := kexB_ok (c.fact 138 rfl)
  i_InvalidList := let ⟨fd, F⟩ := c.def_ 62 rfl; ⟨⟨_, fd, He.eqO_ok (c.fact 139 rfl), of_decide_eq_true (c.fact 140 rfl), F⟩⟩
  i_TooMany := let ⟨fd, F⟩ := c.def_ 63 rfl; ⟨⟨_, fd, He.eqO_ok (c.fact 141 rfl), of_decide_eq_true (c.fact 142 rfl), F⟩⟩
  i_NoRule := let ⟨fd, F⟩ := c.def_ 64 rfl; ⟨⟨_, fd, He.eqO_ok (c.fact 143 rfl), of_decide_eq_true (c.fact 144 rfl), F⟩⟩
  x_InvalidList := xfB_ok (c.fact 145 rfl)
  x_TooMany := xfB_ok (c.fact 146 rfl)
  x_NoRule := xfB_ok (c.fact 147 rfl)
  n_InvalidList := of_decide_eq_true (c.fact 148 rfl)
  n_TooMany := of_decide_eq_true (c.fact 149 rfl)
  n_NoRule := of_decide_eq_true (c.fact 150 rfl)
  b_SeenError := baseB_ok (c.fact 151 rfl)
  b_AbsentError := baseB_ok (c.fact 152 rfl)
  m_II := of_decide_eq_true (c.fact 153 rfl)
  m_NI := of_decide_eq_true (c.fact 154 rfl)
  m_NN := of_decide_eq_true (c.fact 155 rfl)
  m_TI := of_decide_eq_true (c.fact 156 rfl)
  m_TN := of_decide_eq_true (c.fact 157 rfl)
  m_TT := of_decide_eq_true (c.fact 158 rfl)
theorem law_of (X : K.In h) (G : h.Ns mainGlobals mg) (c : SaysK K) : HasDef K mg "law" s_law := let ⟨fd, F⟩ := c.def_ 65 rfl; ⟨⟨_, fd, He.glo_ok X G (x := "law") (c.fact 159 rfl), F⟩⟩
end
end K5
set_option Elab.async false
set_option linter.all false
set_option maxRecDepth 100000
set_option maxHeartbeats 0
/-! The run of the top, in the kernel: once for the looks, once for the facts. -/
namespace K5
open PySem PySem.Spec PyProof.Rows L2
def names0 : List PySem.Str := ["_wall", "SeenError", "AbsentError", "StateError", "InvalidAnswers", "InvalidCase", "InvalidFields", "InvalidInteger", "InvalidKind", "InvalidList", "InvalidRules", "InvalidText", "InvalidWords", "TooMany", "NoRule", "LETTERS", "DIGITS", "MOST_LETTERS", "MOST_WORDS", "MOST_NUMBER", "is_integer", "is_word", "is_number", "is_sequence", "all_unlike", "parse_number", "first_other", "MOST_FIELDS", "MOST_ANSWERS", "MOST_WIDTH"]
def names1 : List PySem.Str := ["SORTS", "WORD_OPERATORS", "NUMBER_OPERATORS", "BAR", "NO_FIELDS", "is_field", "are_fields", "are_answers", "Kind", "is_value", "fields_in", "kind_in", "need_kind", "meets_test", "meets_all", "MOST_RULES", "IF", "AND", "is_answer", "is_rule", "are_rules", "RuleList", "rule_text", "test_in", "tests_in", "rules_in", "MOST_GROUPS", "need_list", "tests_of", "word_members"]
def names2 : List PySem.Str := ["number_members", "members", "grid", "first_difference", "may_swap", "_law_cell", "_law_box", "_law_take", "_law_words", "_law_numbers", "_law_kind", "_law_pools", "_law_case", "_law_meets", "_law_all", "_law_test", "_law_rules", "_law_decides", "_law_answer", "_law_tests_of", "_law_members", "_law_grid", "_law_scene", "_law_two", "_law_border", "_law_great", "_law_caught", "_law_may", "_law_great_right"]
def names : List PySem.Str := names0 ++ names1 ++ names2
abbrev R : PySem.W.OpenRow := PySem.W.OpenLaw.row PySem.Challenge.rw_seenrules_k56_whole_neighbours_exchanged
abbrev qv : Program := PySem.W.view R.prog [96]
def ob (s : PySem.W.SharedT) : AlK := partK (HandSHeadRun.getT s) obsK
theorem ob_eq (s : PySem.W.SharedT) : ob s = hookK.obs s.abs := by
  have e : HandSHeadRun.getT s = s.abs.heap.get? := funext (HandSHeadRun.getT_eq s)
  show partK (HandSHeadRun.getT s) obsK = partK s.abs.heap.get? obsK
  rw [e]
theorem map_two {α β γ δ : Type} {o : Option α} {f : α → β} {g : α → γ} {h : α → δ} {b : β} {c : γ} {d : δ} (e1 : o.map (fun s => (f s, g s)) = some (b, c)) (e2 : o.map h = some d) : o.map (fun s => (f s, g s, h s)) = some (b, c, d) := by
  cases o with
  | none => cases e1
  | some s =>
    cases e1
    cases e2
    rfl
theorem map_ob {o : Option PySem.W.SharedT} (h1 : o.map (fun s => partK (HandSHeadRun.getT s) fun K => fas.all fun f => f K) = some true) (h2 : o.map (fun s => partK (HandSHeadRun.getT s) fun K => das.all fun d => d.ok K) = some true)
    (h3 : o.map (fun s => partK (HandSHeadRun.getT s) fun K => das.map fun d => fnWa K (d.ad K)) = some (das.map DefA.val)) : o.map ob = some valK := by
  cases o with
  | none => cases h1
  | some s =>
    obtain ⟨as, q⟩ := partK_ex (HandSHeadRun.getT s)
    have z1 : (partK (HandSHeadRun.getT s) fun K => fas.all fun f => f K) = true := Option.some.inj h1
    have z2 : (partK (HandSHeadRun.getT s) fun K => das.all fun d => d.ok K) = true := Option.some.inj h2
    have z3 : (partK (HandSHeadRun.getT s) fun K => das.map fun d => fnWa K (d.ad K)) = das.map DefA.val := Option.some.inj h3
    rw [q] at z1 z2 z3
    show some (partK (HandSHeadRun.getT s) obsK) = some valK
    rw [q]
    generalize He.frG (HandSHeadRun.getT s) as = K at z1 z2 z3 ⊢
    show some (((fas.all fun f => f K) && das.all fun d => d.ok K, das.map fun d => fnWa K (d.ad K)) : AlK) = some (true, das.map DefA.val)
    rw [z1, z2, z3]
    rfl
open PySem.W PySem.Calls HandSHeadRun in
theorem run_looks (w : World) (os : OsState) : ((endF (stepQ (denQ tabQ) R.prog w) 20000 R.prog w os).map fun s => (looksF R.prog (boot_heap w.params) s.abs, seenQ qv names (importedModules R.prog.main.body) (fun s => xlAt qv [] s && recOk R.toRowW.records s) s.abs)) = some (true, openGood qv names) := by
  kernel_rfl
open PySem.W PySem.Calls HandSHeadRun in
theorem run_fas (w : World) (os : OsState) : ((endF (stepQ (denQ tabQ) R.prog w) 20000 R.prog w os).map fun s => partK (getT s) fun K => fas.all fun f => f K) = some true := by
  kernel_rfl
open PySem.W PySem.Calls HandSHeadRun in
theorem run_das (w : World) (os : OsState) : ((endF (stepQ (denQ tabQ) R.prog w) 20000 R.prog w os).map fun s => partK (getT s) fun K => das.all fun d => d.ok K) = some true := by
  kernel_rfl
open PySem.W PySem.Calls HandSHeadRun in
theorem run_defs (w : World) (os : OsState) : ((endF (stepQ (denQ tabQ) R.prog w) 20000 R.prog w os).map fun s => partK (getT s) fun K => das.map fun d => fnWa K (d.ad K)) = some (das.map DefA.val) := by
  kernel_rfl
theorem run (w : World) : HandSHeadRun.RunEq R qv hookK ob 20000 names w := by
  intro os
  have a := run_looks w os
  have b1 := run_fas w os
  have b2 := run_das w os
  have b3 := run_defs w os
  generalize HandSHeadRun.endF (HandSHeadRun.stepQ (HandSHeadRun.denQ HandSHeadRun.tabQ) R.prog w) 20000 R.prog w os = o at a b1 b2 b3 ⊢
  exact map_two a (map_ob b1 b2 b3)
end K5
set_option Elab.async false
set_option linter.all false
set_option maxRecDepth 100000
set_option maxHeartbeats 4000000
/-! Sets of ints and texts whose order of walking is open: made, added to, gathered, sorted, counted; {e for ..} over them. -/
namespace K5
open PySem PySem.Spec PyProof.Rows L2

abbrev Ent := Int × Value
abbrev emptySet (w : World) : Obj := { cls := .type "set", dict := none, data := .set #[] 0 (.fresh 0 0 (!w.params.followText "set-order")) }
def entKey (e : Ent) : Key := match e.2 with
  | .int k _ => .inl k
  | .str x _ => .inr x
  | _ => .inl 0
def EntOk (w : World) (e : Ent) : Prop := ∃ k : Key, keyIs k e.2 = true ∧ e.1 = keyH w k
theorem entKey_of {k : Key} {v : Value} {h : Int} (q : keyIs k v = true) : entKey (h, v) = k := by
  rcases keyIs_shape q with ⟨i, t, rfl, rfl⟩ | ⟨x, t, rfl, rfl⟩ <;> rfl
theorem entKey_iff {w : World} {e : Ent} (g : EntOk w e) (k : Key) : keyIs k e.2 = true ↔ entKey e = k := by
  constructor
  · intro q
    exact entKey_of (h := e.1) q
  · intro q
    obtain ⟨k0, h0, _⟩ := g
    have := entKey_of (h := e.1) h0
    rw [← q]
    show keyIs (entKey (e.1, e.2)) e.2 = true
    rw [this]
    exact h0
theorem keyIs_scan {k : Key} {v : Value} (q : keyIs k v = true) : v.scannable = true := by
  rcases keyIs_shape q with ⟨i, t, rfl, rfl⟩ | ⟨x, t, rfl, rfl⟩ <;> rfl
/-- the set of keys at a: S its members, n their number; it can be walked -/
def SetM (w : World) (h : Heap) (a : Addr) (S : Key → Bool) (n : Nat) : Prop :=
  ∃ (o : Obj) (es : Array Ent) (ep : Nat) (t : SetTable), h.get? a = some o ∧ o.ExactSet ∧ o.data = .set es ep t ∧ (∀ e ∈ es.toList, EntOk w e) ∧ (es.toList.map entKey).Nodup ∧
    (∀ k, S k = true ↔ k ∈ es.toList.map entKey) ∧ es.size < scanBound ∧ t.fits es.size = true ∧ es.size = n ∧ Ris t.place.toList ∧ (w.params.followText "set-order" = true ∨ t.led = true)

section
variable {P : Program} {w : World} {h h' : Heap} {a : Addr} {S : Key → Bool} {n : Nat}
theorem SetM.at (R : SetM w h a S n) (k : ∀ o, h.get? a = some o → h'.get? a = some o) : SetM w h' a S n := by
  obtain ⟨o, es, ep, t, ho, r⟩ := R
  exact ⟨o, es, ep, t, k o ho, r⟩
theorem SetM.congr {S' : Key → Bool} (R : SetM w h a S n) (e : ∀ k, S' k = S k) : SetM w h a S' n := by
  rw [show S' = S from funext e]
  exact R
theorem ents_ok {l : List Ent} (g : ∀ e ∈ l, EntOk w e) : ElemsOf (mixKind P w) l := fun e he => by
  obtain ⟨k, h1, h2⟩ := g e he
  exact ⟨⟨k, h1, h2⟩, keyIs_scan h1⟩
theorem ents_mem {l : List Ent} (g : ∀ e ∈ l, EntOk w e) (k : Key) : k ∈ l.map entKey ↔ ∃ e ∈ l, keyIs k e.2 = true := by
  rw [List.mem_map]
  constructor
  · rintro ⟨e, he, q⟩
    exact ⟨e, he, (entKey_iff (g e he) k).2 q⟩
  · rintro ⟨e, he, q⟩
    exact ⟨e, he, (entKey_iff (g e he) k).1 q⟩
theorem SetM.setOf (R : SetM w h a S n) : h.SetOf (mixKind P w) a S n := by
  obtain ⟨o, es, ep, t, ho, hx, hd, g, nd, hm, hb, hf, hn, _⟩ := R
  exact ⟨o, es, ep, t, ho, hx, hd, ents_ok g, fun k => (hm k).trans (ents_mem g k), hb, hf, hn⟩
theorem setM_empty (hp : h.get? a = some (emptySet w)) : SetM w h a (fun _ => false) 0 :=
  ⟨_, #[], 0, _, hp, ⟨rfl, rfl, rfl⟩, rfl, (fun e he => by simp at he), (by simp), (fun k => by simp), (by decide), (by rfl), rfl, List.Pairwise.nil, by
    show _ ∨ (!w.params.followText "set-order") = true
    cases w.params.followText "set-order" <;> simp⟩
end

section
variable {P : Program} {w : World} {A : Around} {E : Value → Shared → Prop} {s : Shared} {a : Addr} {S : Key → Bool} {n : Nat}
theorem setM_tail {give : Bool → Sem Unit} (hg : ∀ (b : Bool) (s1 : Shared) (Q' : Unit → Shared → Prop), Q' () s1 → wpAny (model P w) A (give b) Q' E s1)
    {o : Obj} {es : Array Ent} {ep : Nat} {t : SetTable} (ho : s.heap.get? a = some o) (hex : o.ExactSet) (hd : o.data = .set es ep t)
    {es1 : Array Ent} {t2 : SetTable} {S' : Key → Bool} (g1 : ∀ e ∈ es1.toList, EntOk w e) (nd1 : (es1.toList.map entKey).Nodup) (m1 : ∀ k, S' k = true ↔ k ∈ es1.toList.map entKey)
    (hb1 : es1.size < scanBound) (hf2 : t2.fits es1.size = true) (hr : Ris t2.place.toList) (hl : w.params.followText "set-order" = true ∨ t2.led = true) {wasDummy : Bool} {R : Option Bool → Shared → Prop}
    (hR : ∀ h', Heap.SameBut a s.heap h' → SetM w h' a S' es1.size → R (some true) { s with heap := h' }) :
    wpAny (model P w) A (do
        storeSet a es1 t2
        if (!wasDummy && t2.tooFull) = true then do
            give (relayAll t2 es1 (SetTable.grown es1.size)).2.2
            storeSet a (relayAll t2 es1 (SetTable.grown es1.size)).1 (relayAll t2 es1 (SetTable.grown es1.size)).2.1
            pure (some true)
          else pure (some true)) R E s := by
  refine wpAny_bind (wpAny_storeSet_of ho hd ?_ (fits_of_scanBound hb1))
  have at1 : (s.heap.update a (Obj.putSet es1 t2)).get? a = some { o with data := .set es1 (ep + 1) t2 } := store_at ho hd
  have sb1 := Heap.SameBut.update s.heap a (Obj.putSet es1 t2)
  split
  · have pm := relayAll_perm t2 es1 (SetTable.grown es1.size)
    have hf3 := relayAll_fits t2 es1 (SetTable.grown es1.size)
    have hr3 := relayAll_ris t2 es1 (SetTable.grown es1.size)
    have hl3 := relayAll_led t2 es1 (SetTable.grown es1.size)
    generalize relayAll t2 es1 (SetTable.grown es1.size) = Z at pm hf3 hr3 hl3 ⊢
    obtain ⟨es2, t3, gave⟩ := Z
    dsimp only at pm hf3 hr3 hl3 ⊢
    have sz : es2.size = es1.size := by
      have := pm.length_eq
      rwa [Array.length_toList, Array.length_toList] at this
    have hb2 : es2.size < scanBound := sz ▸ hb1
    refine wpAny_bind (hg _ _ _ ?_)
    refine wpAny_bind (wpAny_storeSet_of at1 rfl ?_ (fits_of_scanBound hb2))
    have at2 := store_at (es' := es2) (t' := t3) at1 rfl
    refine wpAny_pure (hR _ (sb1.trans (Heap.SameBut.update _ a _)) ?_)
    refine ⟨_, es2, _, t3, at2, hex, rfl, fun e he => g1 e (pm.mem_iff.mp he), (pm.map entKey).nodup_iff.mpr nd1, fun k => (m1 k).trans (pm.map entKey).mem_iff.symm, hb2, hf3, sz, hr3, ?_⟩
    rcases hl with z | z
    · exact .inl z
    · exact .inr (hl3.trans z)
  · exact wpAny_pure (hR _ sb1 ⟨_, es1, _, t2, at1, hex, rfl, g1, nd1, m1, hb1, hf2, rfl, hr, hl⟩)

theorem setM_hashed {k : Key} {x : Value} {Q : Bool → Shared → Prop} (hkey : keyIs k x = true) (R : SetM w s.heap a S n) (room : n + 1 < scanBound)
    (hQ : ∀ h', Heap.SameBut a s.heap h' → SetM w h' a (fun j => S j || decide (j = k)) (if S k = true then n else n + 1) → Q (!S k) { s with heap := h' }) :
    wpAny (model P w) A (setAddHashed a x (keyH w k)) Q E s := by
  obtain ⟨o, es, ep, t, ho, hex, hd, g, nd, hm, hb, hf, hn, hr, hl⟩ := R
  have hkm : (mixKind P w).is k x = true := hkey
  have hsc : x.scannable = true := keyIs_scan hkey
  have hel : ElemsOf (mixKind P w) es.toList := ents_ok g
  unfold setAddHashed setAddHashedIn
  refine wpAny_holding (wpAny_bind (wpAny_setState_of ho hd hf ?_))
  dsimp only
  rw [byScan_of hsc hb hel]
  simp only [↓reduceIte]
  unfold setAddByScan
  refine wpAny_bind ?_
  refine wpAny_bind (wpAny_rule ?_)
  refine wpAny_bind (wpAny_setScan_of hkm ho hd hf hel ?_)
  have mem := ents_mem (w := w) g k
  cases hfi : List.findIdx? (fun e => (mixKind P w).is k e.2) es.toList with
  | some j =>
    dsimp only
    obtain ⟨hj, pj, _⟩ := List.findIdx?_eq_some_iff_getElem.mp hfi
    have hSk : S k = true := (hm k).2 (mem.2 ⟨es.toList[j], List.getElem_mem hj, pj⟩)
    refine wpAny_pure (wpAny_pure ?_)
    have q := hQ s.heap (Heap.SameBut.refl a s.heap)
    rw [hSk] at q
    refine q ⟨o, es, ep, t, ho, hex, hd, g, nd, fun i => ?_, hb, hf, by simpa using hn, hr, hl⟩
    rw [Bool.or_eq_true, decide_eq_true_eq, ← hm i]
    exact ⟨fun z => z.elim id fun e => e ▸ hSk, .inl⟩
  | none =>
    dsimp only
    have hnk : k ∉ es.toList.map entKey := fun z => by
      obtain ⟨e, he, q⟩ := mem.1 z
      have c : (mixKind P w).is k e.2 = false := List.findIdx?_eq_none_iff.mp hfi e he
      have q' : (mixKind P w).is k e.2 = true := q
      rw [c] at q'
      cases q'
    have hSk : S k = false := by
      cases q : S k with
      | false => rfl
      | true => exact absurd ((hm k).1 q) hnk
    have hgw : ∀ (b : Bool) {s1 : Shared} {Q' : Unit → Shared → Prop}, Q' () s1 → wpAny (model P w) A (match b with | true => rule "set.scan.the-table-gave-way" | false => pure ()) Q' E s1 :=
      fun b s1 Q' q => by
        cases b
        · exact wpAny_pure q
        · exact wpAny_rule q
    have pm := layNew_perm t es (keyH w k) x
    have hf1 := layNew_fits t es (keyH w k) x
    have hr1 := layNew_ris t es (keyH w k) x hr
    have hl1 := layNew_led t es (keyH w k) x
    generalize layNew t es (keyH w k) x = Z at pm hf1 hr1 hl1 ⊢
    obtain ⟨es1, t1, wasDummy, gave⟩ := Z
    dsimp only at pm hf1 hr1 hl1 ⊢
    rw [Array.toList_push] at pm
    have pc : es1.toList.Perm ((keyH w k, x) :: es.toList) := pm.trans (List.perm_append_singleton _ _)
    have pk : (es1.toList.map entKey).Perm (k :: es.toList.map entKey) := by
      have z := pc.map entKey
      rw [List.map_cons, entKey_of hkey] at z
      exact z
    have g1 : ∀ e ∈ es1.toList, EntOk w e := fun e he => by
      rcases List.mem_cons.mp (pc.mem_iff.mp he) with z | z
      · rw [z]
        exact ⟨k, hkey, rfl⟩
      · exact g e z
    have nd1 : (es1.toList.map entKey).Nodup := pk.nodup_iff.mpr (List.nodup_cons.mpr ⟨hnk, nd⟩)
    have m1 : ∀ i, (S i || decide (i = k)) = true ↔ i ∈ es1.toList.map entKey := fun i => by
      rw [Bool.or_eq_true, decide_eq_true_eq, hm i, pk.mem_iff, List.mem_cons]
      exact Or.comm
    have hsz : es1.size = n + 1 := by
      have := pc.length_eq
      rw [Array.length_toList, List.length_cons, Array.length_toList, hn] at this
      exact this
    have hb1 : es1.size < scanBound := hsz ▸ room
    have hled : w.params.followText "set-order" = true ∨ t1.led = true := by
      rcases hl with z | z
      · exact .inl z
      · exact .inr (hl1.trans z)
    have fin : ∀ h', Heap.SameBut a s.heap h' → SetM w h' a (fun j => S j || decide (j = k)) es1.size → Q true { s with heap := h' } := fun h' sb r => by
      have q := hQ h' sb
      rw [hSk] at q
      exact q (by rw [← hsz]; exact r)
    refine wpAny_bind (hgw _ ?_)
    split
    · refine wpAny_bind ?_
      rw [hashByValue_scannable 8 hsc]
      refine wpAny_pure ?_
      refine setM_tail ?_ ho hex hd g1 nd1 m1 hb1 ?_ ?_ ?_ ?_
      · intro b s1 Q' q
        cases b
        · exact wpAny_pure q
        · exact wpAny_rule q
      · first
          | exact hf1
          | (split <;> first | exact hf1 | exact SetTable.fits_plain_off hf1)
      · first
          | exact hr1
          | (split <;> exact hr1)
      · first
          | exact hled
          | (split <;> exact hled)
      · intro h' sb r
        dsimp only
        exact wpAny_pure (fin h' sb r)
    · refine wpAny_bind (wpAny_pure ?_)
      simp only [↓reduceIte]
      refine setM_tail ?_ ho hex hd g1 nd1 m1 hb1 hf1 hr1 hled ?_
      · intro b s1 Q' q
        cases b
        · exact wpAny_pure q
        · exact wpAny_rule q
      · intro h' sb r
        dsimp only
        exact wpAny_pure (fin h' sb r)

theorem setM_add {k : Key} {x : Value} {Q : Value → Shared → Prop} (hkey : keyIs k x = true) (R : SetM w s.heap a S n) (room : n + 1 < scanBound)
    (hQ : ∀ h', Heap.SameBut a s.heap h' → SetM w h' a (fun j => S j || decide (j = k)) (if S k = true then n else n + 1) → Q .none { s with heap := h', toks := s.toks + 1 }) :
    wpAny (model P w) A (call (.builtin "set.add") [.ref a, x]) Q E s := by
  have hS : s.heap.SetOf (mixKind P w) a S n := R.setOf
  refine wpAny_call_entry F.slot_set_add hS.typeIs F.entry_set_add ?_ (F.args_set_add_2 _ _)
  unfold Builtin.«set.add» Builtin.Frozenset.oneOther
  simp only [List.isEmpty_nil, bind_assoc]
  unfold Builtin.Frozenset.addrOf setAdd
  refine wpAny_bind (wpAny_pure ?_)
  try dsimp only
  refine wpAny_bind (wpAny_pure ?_)
  try dsimp only
  refine wpAny_bind (wpAny_holding (wpAny_bind ((mixKind P w).pyHash (k := k) hkey ?_)))
  refine setM_hashed (s := { s with toks := s.toks + 1 }) hkey R room fun h' sb r => ?_
  show wpAny _ _ (ret Value.none) _ _ _
  exact wpAny_pure ⟨_, rfl, hQ h' sb r⟩
end

/-! ### as a tracked thing -/
def SetMO (w : World) (a : Addr) (S : Key → Bool) (n : Nat) : HO := .ext fun h => SetM w h a S n
theorem setMO_new {w : World} {P : Program} {H : Hp} {h : Heap} {a : Addr} {S : Key → Bool} {n : Nat} (R : SetM w h a S n) : ObjOk P w H h a (SetMO w a S n) := by
  have ⟨o, _, _, _, ho, _⟩ := R
  exact ⟨R, ⟨o, ho⟩, fun h1 h2 p k => SetM.at p k⟩
section
variable {X : Cx} {pins : List (Addr × Obj)} {σ : L2.St} {H : Hp} {s : Shared} {a : Addr} {S : Key → Bool} {n : Nat}
theorem setMO_get (I : Inv X pins σ H s) (ha : H a = some (SetMO X.w a S n)) : SetM X.w s.heap a S n := (I.hok a _ ha).1
theorem addM_ok {E : Value → Shared → Prop} {k : Key} {u : Value} {Q : Value → Shared → Prop} (I : Inv X pins σ H s) (ha : H a = some (SetMO X.w a S n)) (ru : RelV (kV k) u) (room : n + 1 < scanBound)
    (h : ∀ s', Inv X pins σ (upd H a (SetMO X.w a (fun j => S j || decide (j = k)) (if S k = true then n else n + 1))) s' → Q .none s') : wpAny (model X.prog X.w) X.A (call (.builtin "set.add") [.ref a, u]) Q E s := by
  refine setM_add (kV_is (P := X.prog) (w := X.w) ru) (setMO_get I ha) room fun h' sb new => ?_
  have he : ∃ u, h'.get? a = some u := by
    have ⟨o, _, _, _, ho, _⟩ := new
    exact ⟨o, ho⟩
  exact h _ (I.write (e := a) (t' := s.toks + 1) (by rw [ha]; trivial) (.inl rfl) (fun b u hb hu => (sb.2 b hb).trans hu) he (setMO_new new))
end
end K5
set_option Elab.async false
set_option linter.all false
set_option maxRecDepth 100000
set_option maxHeartbeats 4000000
/-! {e for ..} of ints and texts; set(xs); len and sorted of such sets. -/
namespace K5
open PySem PySem.Spec PyProof.Rows L2

/-! ### the comprehension -/
section
variable {X : Cx}
/-- {e for t in it if ..}: D the new set -/
def tScM (w : World) (wi : TI) (g : TG) (tt : TT) (te : TE) (vs : List Nat) : TE := fun σ H Q => wi σ H fun J H1 => ∀ D, H1 D = none → ∃ W : Nat → Nat → Hp → Prop, (∃ m, W 0 m (upd H1 D (SetMO w D (fun _ => false) 0))) ∧ ∀ i m H, W i m H →
  (J.stop i H ∧ Q (.ref D) H) ∨ (J.go i H ∧ ∃ Nx : Hp → Prop, (∀ H', Nx H' → ∃ m', m' < m ∧ W (i + 1) m' H') ∧ ∀ x H', J.yld i H x H' → g x (wipe σ vs) H' fun σ2 H2 => wipe σ2 vs = wipe σ vs ∧ tt σ2 H2 fun b H3 =>
    if b = true then te σ2 H3 fun y H4 => ∃ (k : Key) (S : Key → Bool) (n : Nat), y = kV k ∧ H4 D = some (SetMO w D S n) ∧ n + 1 < scanBound ∧ Nx (upd H4 D (SetMO w D (fun j => S j || decide (j = k)) (if S k = true then n else n + 1))) else Nx H3)
theorem scM_core {pins : List (Addr × Obj)} {s : Shared} {σ : L2.St} {H : Hp} {Q : VK} {elt tg iter : Expr} {ifs : List Expr} {scope : Scope} {own : List (Str × Nat)} {pos pos' : Pos} {wi : TI} {g : TG} {tt : TT} {te : TE} {use : Option (Value → Sem Unit)} {Qf : Value → Shared → Prop}
    (hc : X.calm = true) (hN : X.N.Nodup) (I : Inv X pins σ H s) (hi : PI X tg iter wi) (ok : BlkOk X.N X.env.scope scope own)
    (hg : ∀ (s : Shared) (H : Hp) (C : Addr) (cl : List (Str × Addr)) (fp : List Addr), PG (X.blk s H scope (compEnvC scope cl C X.env) fp) tg g)
    (ht : ∀ (s : Shared) (H : Hp) (C : Addr) (cl : List (Str × Addr)) (fp : List Addr), PTs (X.blk s H scope (compEnvC scope cl C X.env) fp) ifs tt)
    (he : ∀ (s : Shared) (H : Hp) (C : Addr) (cl : List (Str × Addr)) (fp : List Addr), PE (X.blk s H scope (compEnvC scope cl C X.env) fp) elt te) (hs : ∀ x, foldedSetIterable iter X.env x = pure x)
    (h : tScM X.w wi g tt te (own.map (·.2)) σ H Q)
    (hRR : ∀ D C s' m H', Inv X pins σ H' s' → Q (.ref D) H' → s'.heap.Ns C m → FpOk X pins H' C → compPost (model X.prog X.w) X.A X.xe use Qf (.ref D) C (.ok .next) s') :
    wpAny (model X.prog X.w) X.A (comprehension (.SetComp elt [⟨tg, iter, ifs, 0⟩] scope pos) scope X.env pos' (newSet (.type "set")) false (eval iter X.env) use) Qf X.xe s := by
  have frees : ∀ y ∈ scope.names, y.2 = .free → ∃ c, X.env.cells.lookup y.1 = some c := by
    intro y hy e
    cases ok.free y hy e with
    | inl k => exact I.ok.has _ (.inl k)
    | inr k => exact I.ok.has _ (.inr k)
  refine wpAny_comprehension_free (use := use) rfl hs (closure_ok frees) ok.kind (fun y hy e => by rw [ok.uniq y hy, e])
    (thn (hi.run pins s σ H _ I h) fun xv s1 hx => thn hx fun itv s2 h2 => ?_)
  obtain ⟨it, fp, tn, J, H2, e, I2, T, st2, f2, q⟩ := h2
  subst e
  refine PpSet.newSet_ok (newEnv_comp ?_)
  generalize hD : s2.heap.objs.size = D
  have hDn : H2 D = none := I2.hok.fresh (Nat.le_of_eq hD)
  obtain ⟨W, ⟨m0, w0⟩, turn⟩ := q D hDn
  generalize hs3 : ({ s2 with heap := s2.heap.push (emptySet X.w) } : Shared) = s3
  have h3 : s3.heap = s2.heap.push (emptySet X.w) := by rw [← hs3]
  generalize hH3 : upd H2 D (SetMO X.w D (fun _ => false) 0) = H3 at w0
  have I3 : Inv X pins σ H3 s3 := by
    rw [← hs3, ← hH3]
    refine I2.laid (t' := s2.toks) (fun b o e => Heap.get?_push_of_some _ e) (Nat.le_of_eq hD) (setMO_new (setM_empty ?_))
    rw [← hD]
    exact Heap.get?_push_size _ rfl
  have lt2 : ∀ b ∈ fp, b < s2.heap.objs.size := fun b hb => by
    obtain ⟨o, e, _⟩ := T.obj _ _ st2 b hb
    exact Heap.lt_size e
  have f3 : ∀ b ∈ fp, FpOk X pins H3 b ∧ b < s3.heap.objs.size := fun b hb => by
    have hlt := lt2 b hb
    refine ⟨⟨?_, (f2 b hb).2⟩, by rw [h3, Heap.size_push]; exact Nat.lt_succ_of_lt hlt⟩
    rw [← hH3, upd_ne (by rw [← hD]; exact Nat.ne_of_lt hlt)]
    exact (f2 b hb).1
  have st3 : tn 0 s3.heap := T.keep _ _ _ st2 fun b _ o e => by
    rw [h3]
    exact Heap.get?_push_of_some _ e
  have I4 := block_start I3 ok hN f3
  show codeAny _ _ (.compStart (.SetComp elt [⟨tg, iter, ifs, 0⟩] scope pos) 0 (.ref it) (.ref D) (compEnvC scope (cellsFrom (s3.heap.objs.size + 1) scope.names (cloFrom X.env.cells scope.names [])) s3.heap.objs.size X.env)) (compPost (model X.prog X.w) X.A X.xe use Qf (.ref D) s3.heap.objs.size) { s3 with heap := pushCells (s3.heap.push { cls := .type "dict", data := .dict #[] }) scope.names }
  generalize hcs : cellsFrom (s3.heap.objs.size + 1) scope.names (cloFrom X.env.cells scope.names []) = cs at I4 ⊢
  have pg := hg s3 H3 s3.heap.objs.size cs fp
  have pt := ht s3 H3 s3.heap.objs.size cs fp
  have pe := he s3 H3 s3.heap.objs.size cs fp
  have nfp : ∀ b ∈ fp, H3 b = none := fun b hb => (f3 b hb).1.1
  generalize hce : compEnvC scope cs s3.heap.objs.size X.env = ce at I4 pg pt pe ⊢
  have cL : ce.locals = s3.heap.objs.size := by
    subst hce
    rfl
  generalize hs4 : ({ s3 with heap := pushCells (s3.heap.push { cls := .type "dict", data := .dict #[] }) scope.names } : Shared) = s4 at I4 ⊢
  have st4 : tn 0 s4.heap := T.keep _ _ _ st3 fun b _ o e => by
    rw [← hs4]
    exact pushCells_keeps _ _ _ _ (Heap.get?_push_of_some _ e)
  have fpo : ∀ {σ' : L2.St} {H' : Hp} {s' : Shared}, Inv (X.blk s3 H3 scope ce fp) [] σ' H' s' → (∀ b ∈ fp, H' b = none) → ∀ b ∈ fp, FpOk (X.blk s3 H3 scope ce fp) [] H' b := fun {σ' H' s'} I' hn b hb =>
    ⟨hn b hb, (I'.ok.exf b hb).1, I'.ok.exfs b hb, .inl hb, fun x c e => (I'.ok.exf b hb).2 x c e, fun p hp => absurd (show p ∈ ([] : List (Addr × Obj)) ++ [] from hp) (by simp)⟩
  refine PpSet.codeAny_compStart_set ?loop (T.self X.A 0 _ _ _ st4 ?loop)
  refine PpSet.compLoopS_any (fun n s' => ∃ i H', Inv (X.blk s3 H3 scope ce fp) [] (wipe σ (own.map (·.2))) H' s' ∧ tn i s'.heap ∧ (∀ b ∈ fp, H' b = none) ∧ W i n H') ?_ m0 ⟨0, H3, I4, st4, nfp, w0⟩
  rintro n s5 ⟨i, H5, I5, st5, n5, w5⟩
  rcases turn i n H5 w5 with ⟨stop, qq⟩ | ⟨go, Nx, hNx, step⟩
  · refine thnF (T.done (X.blk s3 H3 scope ce fp) rfl rfl rfl hc i [] s5 _ H5 (fun _ _ => False) I5 (fpo I5 n5) st5 stop) fun r s6 ⟨hr, I6⟩ => ?_
    subst hr
    have I7 : Inv X pins σ H5 s6 := I3.call' (ch := fp) I6.os I6.base I6.hok I6.bare fun b hb =>
      let z := (f3 b hb).1.2
      ⟨z.2.2.1, z.1, z.2.2.2.1, z.2.2.2.2⟩
    have nC : H5 s3.heap.objs.size = none := cL ▸ (show H5 ce.locals = none from I6.free)
    obtain ⟨m, hn, _⟩ := I6.loc
    have hn : s6.heap.Ns ce.locals m := hn
    rw [cL] at hn
    exact hRR D s3.heap.objs.size s6 m H5 I7 qq hn (I3.fpOk (Nat.le_refl _) nC)
  · refine thnF (T.item (X.blk s3 H3 scope ce fp) rfl rfl rfl hc i [] s5 _ H5 (fun _ _ => False) I5 (fpo I5 n5) st5 go) fun r s6 ⟨u, hr, h6⟩ => ?_
    subst hr
    refine thnF h6 fun _ s7 ⟨x, H7, I7, r7, y7, st7, n7⟩ => ?_
    have I7' := I7.pinned (fpo I7 n7) (T.obj _ _ st7)
    refine thnF (pg.run _ s7 _ H7 x u _ I7' r7 (step x H7 y7)) fun _ s8 ⟨σ8, H8, I8, hw8, q8⟩ => ?_
    refine thnF (pt.run _ s8 σ8 H8 _ I8 q8) fun b s9 ⟨H9, I9, q9⟩ => ?_
    have close : ∀ {s' : Shared} {H' : Hp}, Inv (X.blk s3 H3 scope ce fp) ([] ++ pinsAt fp s7.heap) σ8 H' s' → Nx H' → ∃ m, m < n ∧ ∃ i H', Inv (X.blk s3 H3 scope ce fp) [] (wipe σ (own.map (·.2))) H' s' ∧ tn i s'.heap ∧ (∀ b ∈ fp, H' b = none) ∧ W i m H' := fun {s' H'} I' nx => by
      obtain ⟨m', hm, w'⟩ := hNx H' nx
      have pinned : ∀ b ∈ fp, ∀ o, s7.heap.get? b = some o → s'.heap.get? b = some o ∧ H' b = none := fun b hb o e =>
        let z := I'.pin (b, o) (List.mem_append_right _ (List.mem_append_right _ (mem_pinsAt hb e)))
        ⟨z.1, z.2.1⟩
      have hl : (wipe σ (own.map (·.2))).length = σ8.length := by rw [← hw8, wipe_length]
      refine ⟨m', hm, i + 1, H', (I'.unpinned (pins := [])).weak hl (fun j v e => ?_), T.keep _ _ _ st7 fun b hb o e => (pinned b hb o e).1, fun b hb => ?_, w'⟩
      · rw [← hw8] at e
        exact (wipe_some e).1
      · obtain ⟨o, e, _⟩ := T.obj _ _ st7 b hb
        exact (pinned b hb o e).2
    cases b with
    | false =>
      simp only [Bool.false_eq_true, if_false] at q9 ⊢
      exact close I9 q9
    | true =>
      simp only [if_true] at q9 ⊢
      refine thnF (pe.run _ s9 σ8 H9 _ I9 q9) fun z s10 ⟨yv, H10, I10, r10, kb, S0, n0, ey, hD10, hz10, nx⟩ => ?_
      subst ey
      exact addM_ok (X := X.blk s3 H3 scope ce fp) I10 hD10 r10 hz10 fun s11 I11 => close I11 nx
theorem pe_scM {elt tg iter : Expr} {ifs : List Expr} {scope : Scope} {own : List (Str × Nat)} {pos : Pos} {wi : TI} {g : TG} {tt : TT} {te : TE} (hc : X.calm = true) (hN : X.N.Nodup) (hi : PI X tg iter wi) (ok : BlkOk X.N X.env.scope scope own)
    (hg : ∀ (s : Shared) (H : Hp) (C : Addr) (cl : List (Str × Addr)) (fp : List Addr), PG (X.blk s H scope (compEnvC scope cl C X.env) fp) tg g)
    (ht : ∀ (s : Shared) (H : Hp) (C : Addr) (cl : List (Str × Addr)) (fp : List Addr), PTs (X.blk s H scope (compEnvC scope cl C X.env) fp) ifs tt)
    (he : ∀ (s : Shared) (H : Hp) (C : Addr) (cl : List (Str × Addr)) (fp : List Addr), PE (X.blk s H scope (compEnvC scope cl C X.env) fp) elt te) (hs : ∀ x, foldedSetIterable iter X.env x = pure x := by intro _; rfl) :
    PE X (.SetComp elt [⟨tg, iter, ifs, 0⟩] scope pos) (tScM X.w wi g tt te (own.map (·.2))) := by
  refine ⟨fun pins s σ H Q I h => ?_⟩
  rw [PpSet.eval_SetComp]
  refine scM_core hc hN I hi ok hg ht he hs h fun D C s' m H' I' q hn f => ⟨m, hn, fun h'' sb => ?_⟩
  obtain ⟨f0, f1, f2, f3, f4, f5⟩ := f
  exact ⟨.ref D, H', I'.turned (t' := s'.toks) (fun b o hb e => (sb.2 b hb).trans e) f0 f1 f3 f4 f5, rfl, q⟩
end
/-- over a list that the block leaves as it is: Pv by the turn and the heap -/
theorem scM_it {J : It} {n : Nat} {G : Hp → Prop} {Y : Nat → Hp → V → Hp → Prop} (wk : Walk J n G Y) {w : World} {g : TG} {tt : TT} {te : TE} {vs : List Nat} {σ : L2.St} {H1 : Hp} {D : Addr} {Qd : Hp → Prop} (Pv : Nat → Hp → Prop)
    (h0 : Pv 0 (upd H1 D (SetMO w D (fun _ => false) 0))) (hG : ∀ i H, i ≤ n → Pv i H → G H)
    (hs : ∀ i x H H', i < n → Pv i H → Y i H x H' → g x (wipe σ vs) H' fun σ2 H2 => wipe σ2 vs = wipe σ vs ∧ tt σ2 H2 fun b H3 =>
      if b = true then te σ2 H3 fun y H4 => ∃ (k : Key) (S : Key → Bool) (n : Nat), y = kV k ∧ H4 D = some (SetMO w D S n) ∧ n + 1 < scanBound ∧ Pv (i + 1) (upd H4 D (SetMO w D (fun j => S j || decide (j = k)) (if S k = true then n else n + 1))) else Pv (i + 1) H3)
    (hd : ∀ H, Pv n H → Qd H) :
    ∃ W : Nat → Nat → Hp → Prop, (∃ m, W 0 m (upd H1 D (SetMO w D (fun _ => false) 0))) ∧ ∀ i m H, W i m H →
      (J.stop i H ∧ Qd H) ∨ (J.go i H ∧ ∃ Nx : Hp → Prop, (∀ H', Nx H' → ∃ m', m' < m ∧ W (i + 1) m' H') ∧ ∀ x H', J.yld i H x H' → g x (wipe σ vs) H' fun σ2 H2 => wipe σ2 vs = wipe σ vs ∧ tt σ2 H2 fun b H3 =>
        if b = true then te σ2 H3 fun y H4 => ∃ (k : Key) (S : Key → Bool) (n : Nat), y = kV k ∧ H4 D = some (SetMO w D S n) ∧ n + 1 < scanBound ∧ Nx (upd H4 D (SetMO w D (fun j => S j || decide (j = k)) (if S k = true then n else n + 1))) else Nx H3) := by
  refine ⟨fun i m H => m = n - i ∧ i ≤ n ∧ Pv i H, ⟨n, by simp, Nat.zero_le _, h0⟩, ?_⟩
  rintro i m H ⟨rfl, hi, p⟩
  have q := hG i H hi p
  rcases Nat.lt_or_ge i n with hlt | hge
  · exact .inr ⟨wk.goes i H hlt q, Pv (i + 1), fun H' p' => ⟨n - (i + 1), by omega, rfl, hlt, p'⟩, fun x H' y => hs i x H H' hlt p (wk.yields i H x H' hlt q y)⟩
  · obtain rfl : i = n := Nat.le_antisymm hi hge
    exact .inl ⟨wk.stops H q, hd H p⟩

/-! ### len(S), sorted(S) -/
section
variable {X : Cx}
def rLenM (w : World) : List V → Hp → VK → Prop := fun vs H Q => ∃ (a : Addr) (S : Key → Bool) (n : Nat), vs = [V.ref a] ∧ H a = some (SetMO w a S n) ∧ Q (.int n) H
theorem cr_lenM : CallR X (.builtin "len") (rLenM X.w) := by
  intro pins s σ H vs us Q I r h
  obtain ⟨a, S, n, rfl, ha, q⟩ := h
  rw [Vals.ref1 r]
  obtain ⟨o, es, ep, t, ho, hex, hd, g, nd, hm, hb, hf, hn, hr, hl⟩ := setMO_get I ha
  have fit : (es.size : Int) < 2 ^ 63 := by
    have h1 : scanBound < 2 ^ 63 := by decide +kernel
    omega
  refine call_len_set ho hex hd hf fit ?_
  rw [hn]
  exact ⟨.int n, H, I.tok _, ⟨_, rfl⟩, q⟩
theorem keys_of_vals : ∀ (l : List Value), (∀ v ∈ l, ∃ k : Key, keyIs k v = true) → Vals (l.map fun v => kV (entKey (0, v))) l
  | [], _ => .nil
  | v :: l, h => by
    obtain ⟨k, hk⟩ := h v (List.mem_cons_self ..)
    refine .cons ?_ (keys_of_vals l fun u hu => h u (List.mem_cons_of_mem _ hu))
    show RelV (kV (entKey (0, v))) v
    rw [entKey_of (h := 0) hk]
    rcases keyIs_shape hk with ⟨i, t, rfl, rfl⟩ | ⟨x, t, rfl, rfl⟩
    · exact ⟨t, rfl⟩
    · exact ⟨t, rfl⟩
/-- sorted(S), fewer than 64 members, all of them texts | all of them ints -/
def rSortM (w : World) : List V → Hp → VK → Prop := fun vs H Q => ∃ (a : Addr) (S : Key → Bool) (n : Nat), vs = [V.ref a] ∧ H a = some (SetMO w a S n) ∧ n < 64 ∧
  (((∀ k, S k = true → ∃ x, k = .inr x) ∧ ∀ (ys : List Str) (p : Addr), ys.Nodup → (∀ x, x ∈ ys ↔ S (.inr x) = true) → ys.length = n → H p = none → Q (.ref p) (upd H p (.lst (ys.map V.str)))) ∨
    ((∀ k, S k = true → ∃ x, k = .inl x) ∧ ∀ (ys : List Int) (p : Addr), ys.Nodup → (∀ x, x ∈ ys ↔ S (.inl x) = true) → ys.length = n → H p = none → Q (.ref p) (upd H p (.lst (ys.map V.int)))))
end
end K5
set_option Elab.async false
set_option linter.all false
set_option maxRecDepth 100000
set_option maxHeartbeats 4000000
/-! sorted(S), set(xs) over sets of ints and texts. -/
namespace K5
open PySem PySem.Spec PyProof.Rows L2
section
variable {X : Cx}
def kOf (v : Value) : Key := entKey (0, v)
theorem ent_k (e : Ent) : entKey e = kOf e.2 := rfl
def txtOf (v : Value) : Str := match kOf v with
  | .inr x => x
  | _ => ""
def numOf (v : Value) : Int := match kOf v with
  | .inl x => x
  | _ => 0
theorem kOf_is {k : Key} {v : Value} (h : keyIs k v = true) : kOf v = k := entKey_of (h := 0) h
theorem keys_perm {es : Array Ent} {vs : List Value} (pm : vs.Perm (es.toList.map (·.2))) : (vs.map kOf).Perm (es.toList.map entKey) := by
  have z := pm.map kOf
  rw [List.map_map] at z
  exact z
theorem map_inj_nodup {α β : Type} {f : α → β} (hf : ∀ a b, f a = f b → a = b) : ∀ {l : List α}, (l.map f).Nodup → l.Nodup
  | [], _ => List.nodup_nil
  | a :: l, h => by
    rw [List.map_cons, List.nodup_cons] at h
    exact List.nodup_cons.mpr ⟨fun z => h.1 (List.mem_map_of_mem z), map_inj_nodup hf h.2⟩
theorem cr_sortM (hc : X.calm = true) : CallR X (.builtin "sorted") (rSortM X.w) := by
  intro pins s σ H vs us Q I r h
  obtain ⟨a, S, n, rfl, ha, h64, q⟩ := h
  rw [Vals.ref1 r]
  obtain ⟨o, es, ep, t, ho, hex, hd, g, nd, hm, hb, hf, hn, hr, hl⟩ := setMO_get I ha
  refine Calls.call_function_entry kind_sorted plain_sorted entry_sorted (args_sorted1 _) ?_
  unfold Builtin.«sorted»
  refine wpAny_bind (m := checkCount "sorted" 1 1 _) (wpAny_pure ?_)
  refine wpAny_bind (collect_set (A := X.A.in1) (I.ok.hd hc) ⟨o, ho, hex.1, hd⟩ hf hb hr hl fun s1 vs k1 hz g1 o1 pm => ?_)
  have pk := keys_perm pm
  have hvl : vs.length = n := by
    rw [pm.length_eq, List.length_map, Array.length_toList]
    exact hn
  have small : vs.length ≤ sizeLine := by
    rw [hvl]
    exact Nat.le_trans (Nat.le_of_lt h64) (by decide)
  have keyed : ∀ v ∈ vs, ∃ k : Key, keyIs k v = true ∧ S k = true := fun v hv => by
    obtain ⟨e, he, q⟩ := List.mem_map.mp (pm.mem_iff.mp hv)
    obtain ⟨k, hk, _⟩ := g e he
    refine ⟨k, by rw [← q]; exact hk, (hm k).2 ?_⟩
    have e1 : entKey e = k := entKey_of (h := e.1) hk
    rw [← e1]
    exact List.mem_map_of_mem he
  have rv : Vals (vs.map fun v => kV (kOf v)) vs := keys_of_vals vs fun v hv => let ⟨k, h1, _⟩ := keyed v hv; ⟨k, h1⟩
  have memK : ∀ k : Key, k ∈ vs.map kOf ↔ S k = true := fun k => by
    rw [pk.mem_iff]
    exact (hm k).symm
  have ndK : (vs.map kOf).Nodup := pk.nodup_iff.mpr nd
  refine wpAny_bind (wpAny_newList ?_ small)
  have hoL : (s1.heap.push (seqObj "list" vs.toArray 0)).get? s1.heap.objs.size = some (seqObj "list" vs.toArray 0) := Heap.get?_push_size _ rfl
  -- the end, common to both
  have fin : ∀ (out : Array Value) (ws : List V), Vals ws out.toList → ws.length ≤ sizeLine → Q (.ref s1.heap.objs.size) (upd H s1.heap.objs.size (.lst ws)) →
      EP X pins σ Q (.ref s1.heap.objs.size) { s1 with heap := sortedHeap (s1.heap.push (seqObj "list" vs.toArray 0)) s1.heap.objs.size vs out } := by
    intro out ws rw' hlen hq
    obtain ⟨c, hc'⟩ := sortedHeap_at (vs := vs) (out := out) hoL
    have kk : ∀ b u, s.heap.get? b = some u → (sortedHeap (s1.heap.push (seqObj "list" vs.toArray 0)) s1.heap.objs.size vs out).get? b = some u := fun b u e => by
      have z := k1 b u e
      have lt := Heap.lt_size z
      rw [sortedHeap_old (Nat.ne_of_lt lt) (by rw [Heap.size_push]; exact Nat.lt_succ_of_lt lt)]
      exact Heap.get?_push_of_some _ z
    have free : H s1.heap.objs.size = none := I.hok.fresh hz
    have J : Inv X pins σ (upd H s1.heap.objs.size (.lst ws)) { s with heap := sortedHeap (s1.heap.push (seqObj "list" vs.toArray 0)) s1.heap.objs.size vs out, gens := s1.gens, drawn := s1.drawn, toks := s1.toks } :=
      I.call (ch := []) (Un.laid kk hz free) (I.hok.laid kk hz ⟨hlen, out.toList, c, rw', by rw [Array.toArray_toList]; exact hc'⟩) (by rw [g1]; exact I.bare) (fun _ z => nomatch z)
    obtain ⟨h1', gs1, d1, t1, os1⟩ := s1
    obtain ⟨h0', gs0, d0, t0, os0⟩ := s
    cases o1
    exact ⟨.ref _, _, J, rfl, hq⟩
  have free : H s1.heap.objs.size = none := I.hok.fresh hz
  rcases q with ⟨hS, q⟩ | ⟨hS, q⟩
  · have shape : ∀ v ∈ vs, kOf v = .inr (txtOf v) := fun v hv => by
      obtain ⟨k, h1, h2⟩ := keyed v hv
      obtain ⟨x, rfl⟩ := hS k h2
      unfold txtOf
      rw [kOf_is h1]
    have e1 : (vs.map fun v => kV (kOf v)) = (vs.map txtOf).map V.str := by
      rw [List.map_map]
      refine List.map_congr_left fun v hv => ?_
      rw [shape v hv]
      rfl
    have e2 : vs.map kOf = (vs.map txtOf).map Sum.inr := by
      rw [List.map_map]
      exact List.map_congr_left fun v hv => shape v hv
    rw [e1] at rv
    have hT : StrsAre vs (vs.map txtOf) := rv.strs
    refine wpAny_bind (wpAny_holding (wpAny_call_entry slot_list_sort ⟨_, hoL, rfl⟩ entry_list_sort
      (list_sort_treeK strKind_oneLt hoL hT.keysOf (fun v1 v2 rest e => keyKind_strs (by rw [← e]; exact hT)) (by rw [hvl]; exact h64) fun st' hp hs => ⟨_, rfl, ?_⟩) (args_list_sort _)))
    obtain ⟨ys, y1, y2, y3⟩ := sorted_out_str hT hp hs
    refine wpAny_pure ⟨_, rfl, fin _ (ys.map V.str) (vals_of_strs y1) ?_ (q ys _ ?_ ?_ ?_ free)⟩
    · rw [List.length_map, y2.length_eq, List.length_map]
      exact small
    · refine y2.nodup_iff.mpr (map_inj_nodup (f := (Sum.inr : Str → Key)) (fun _ _ z => Sum.inr.inj z) ?_)
      rw [← e2]
      exact ndK
    · intro x
      rw [y2.mem_iff, ← memK, e2]
      exact ⟨fun z => List.mem_map_of_mem z, fun z => by
        obtain ⟨y, hy, e⟩ := List.mem_map.mp z
        rw [← Sum.inr.inj e]
        exact hy⟩
    · rw [y2.length_eq, List.length_map, hvl]
  · have shape : ∀ v ∈ vs, kOf v = .inl (numOf v) := fun v hv => by
      obtain ⟨k, h1, h2⟩ := keyed v hv
      obtain ⟨x, rfl⟩ := hS k h2
      unfold numOf
      rw [kOf_is h1]
    have e1 : (vs.map fun v => kV (kOf v)) = (vs.map numOf).map V.int := by
      rw [List.map_map]
      refine List.map_congr_left fun v hv => ?_
      rw [shape v hv]
      rfl
    have e2 : vs.map kOf = (vs.map numOf).map Sum.inl := by
      rw [List.map_map]
      exact List.map_congr_left fun v hv => shape v hv
    rw [e1] at rv
    have hT : IntsAre vs (vs.map numOf) := rv.ints
    refine wpAny_bind (wpAny_holding (wpAny_call_entry slot_list_sort ⟨_, hoL, rfl⟩ entry_list_sort (list_sort_tree hoL hT (by rw [hvl]; exact h64) fun out ys y1 y2 y3 => ⟨_, rfl, ?_⟩) (args_list_sort _)))
    refine wpAny_pure ⟨_, rfl, fin _ (ys.map V.int) (vals_of_ints y1) ?_ (q ys _ ?_ ?_ ?_ free)⟩
    · rw [List.length_map, y2.length_eq, List.length_map]
      exact small
    · refine y2.nodup_iff.mpr (map_inj_nodup (f := (Sum.inl : Int → Key)) (fun _ _ z => Sum.inl.inj z) ?_)
      rw [← e2]
      exact ndK
    · intro x
      rw [y2.mem_iff, ← memK, e2]
      exact ⟨fun z => List.mem_map_of_mem z, fun z => by
        obtain ⟨y, hy, e⟩ := List.mem_map.mp z
        rw [← Sum.inl.inj e]
        exact hy⟩
    · rw [y2.length_eq, List.length_map, hvl]
end

/-! ### set(xs) of a list -/
def inKeys (ks : List Key) (j : Key) : Bool := ks.any fun k => decide (j = k)
theorem inKeys_iff {ks : List Key} {j : Key} : inKeys ks j = true ↔ j ∈ ks := by
  unfold inKeys
  rw [List.any_eq_true]
  constructor
  · rintro ⟨k, hk, e⟩
    rw [of_decide_eq_true e]
    exact hk
  · intro h
    exact ⟨j, h, decide_eq_true rfl⟩
theorem inKeys_more (ks : List Key) (k j : Key) : inKeys (ks ++ (some k).toList) j = (inKeys ks j || decide (j = k)) := by
  unfold inKeys
  rw [List.any_append]
  simp
section
variable {P : Program} {w : World} {A : Around} {E : Value → Shared → Prop} {s : Shared}
/-- the loop of set.update over a walk whose i-th thing is the key ks[i] -/
theorem setM_update {I : Addr} {fp wr : List Addr} {G : Array GenState → Array GenState → Prop} {n : Nat} {Pv : Nat → Value → Prop} {St : Nat → Shared → Prop} {R : Result → Shared → Prop}
    (W : WalksS P w A.in1 I fp wr G n Pv St) (S : Addr) (hSf : S ∉ fp) (ks : List Key) (hn : n = ks.length) (hb : ks.length + 1 < scanBound) (hval : ∀ (i : Nat) (v : Value), Pv i v → ∃ k : Key, ks[i]? = some k ∧ keyIs k v = true) :
    ∀ (m i : Nat) (s : Shared), n - i = m → i ≤ n → St i s → (∃ c, c ≤ i ∧ SetM w s.heap S (inKeys (ks.take i)) c) →
      (∀ s' c, Moved (S :: wr) G s s' → c ≤ n → SetM w s'.heap S (inKeys ks) c → R (.ok (.ret .none)) s') →
      codeAny (model P w) A (.builtin "set.update.loop" ⟨[.ref S, .ref I], []⟩) R s := by
  have notW : S ∉ wr := fun h => hSf (W.sub _ h)
  have more : ∀ b ∈ wr, b ∈ S :: wr := fun b hb => List.mem_cons_of_mem _ hb
  intro m
  induction m with
  | zero =>
    intro i s hm hi hst ⟨c, hc, hS⟩ hR
    obtain rfl : i = n := by omega
    refine codeAny_builtin F.entry_set_update_loop ?_
    rw [Around.under_plainId F.plain_set_update_loop _]
    show wpAny _ A.in1 (pyNext (.ref I) >>= _) _ _ s
    refine wpAny_bind (W.done s _ _ hst fun s' mv => ?_)
    show wpAny _ A.in1 (ret Value.none) _ _ s'
    rw [show ks.take i = ks from List.take_of_length_le (by omega)] at hS
    exact wpAny_pure (hR s' c (mv.mono more) hc (hS.at fun o e => mv.heap S o notW e))
  | succ m ih =>
    intro i s hm hi hst ⟨c, hc, hS⟩ hR
    have lt : i < n := by omega
    refine codeAny_builtin F.entry_set_update_loop ?_
    rw [Around.under_plainId F.plain_set_update_loop _]
    show wpAny _ A.in1 (pyNext (.ref I) >>= _) _ _ s
    refine wpAny_bind (W.item i s _ _ lt hst fun v s' hP hst' mv => ?_)
    obtain ⟨k, hk, kv⟩ := hval i v hP
    have hS1 : SetM w s'.heap S (inKeys (ks.take i)) c := hS.at fun o e => mv.heap S o notW e
    show wpAny _ A.in1 (holding [v] (setAdd S v) >>= _) _ _ s'
    refine wpAny_bind (wpAny_holding ?_)
    unfold setAdd
    refine wpAny_holding (wpAny_bind ((mixKind P w).pyHash (k := k) kv ?_))
    refine setM_hashed (s := { s' with toks := s'.toks + 1 }) kv hS1 (by omega) fun h' sb hS2 => ?_
    have hS3 : SetM w h' S (inKeys (ks.take (i + 1))) (if inKeys (ks.take i) k = true then c else c + 1) := hS2.congr fun j => by
      rw [List.take_add_one, hk]
      exact inKeys_more _ k j
    have hc3 : (if inKeys (ks.take i) k = true then c else c + 1) ≤ i + 1 := by
      split <;> omega
    refine wpAny_pure ⟨plainId_quiet F.plain_set_update_loop _, ih (i + 1) _ (by omega) lt (W.frame _ s' _ _ hst' (Nat.le_succ _) fun b hb o e => ?_) ⟨_, hc3, hS3⟩ fun s'' c2 mv2 hc2 hS4 => ?_⟩
    · rw [sb.2 b fun z : b = S => hSf (z ▸ hb)]
      exact e
    · refine hR s'' c2 (Moved.trans W.gtrans ((mv.mono more).then_heap (Nat.le_succ _) fun b o hb e => ?_) mv2) hc2 hS4
      rw [sb.2 b fun z : b = S => hb (by rw [z]; exact List.mem_cons_self)]
      exact e

set_option maxHeartbeats 8000000 in
theorem call_setM {l : Addr} {items : Array Value} (ks : List Key) {Q : Value → Shared → Prop} (hh : A.handled = none) (hl : s.heap.IsList l items) (hsz : items.size = ks.length) (hk : ∀ (i : Nat) (v : Value), items[i]? = some v → ∃ k : Key, ks[i]? = some k ∧ keyIs k v = true)
    (hb : ks.length + 1 < scanBound)
    (h : ∀ (h' : Heap) (tk c : Nat), SetM w h' s.heap.objs.size (inKeys ks) c → c ≤ ks.length → (∀ b o, s.heap.get? b = some o → h'.get? b = some o) → Q (.ref s.heap.objs.size) { s with heap := h', toks := tk }) :
    wpAny (model P w) A (call (.type "set") [.ref l]) Q E s := by
  obtain ⟨c, tl, hmro⟩ := F.called_set.mro
  have hmade := F.called_set.made
  have hsub := F.called_set.sub
  refine wpAny_call (codeAny_of_tree ?_)
  show wpAny _ _ (callAny (.type "set") _) _ _ _
  refine wpAny_pure ⟨Code.quiet_builtin _ (by decide +kernel), codeAny_builtin F.entry_type_call ?_⟩
  rw [Around.under_plain (weight_type_call_type "set" [.ref l] []) rfl]
  have h1 := F.called_set.notType
  have h2 := F.called_set.canCreate
  have hct := F.typeCall_set_1 (.ref l)
  repeat (any_goals (first | assumption | wp_step))
  refine codeAny_mono (code_set_led1 (.ref l) (E := E) (Q₁ := fun obj s1 => obj = .ref s.heap.objs.size ∧ s1 = { s with heap := s.heap.push (emptySet w) }) ⟨rfl, rfl⟩) fun r s1 hr => ?_
  cases r with
  | error e => exact hr
  | ok fl =>
    cases fl with
    | ret obj =>
      obtain ⟨rfl, rfl⟩ := hr
      have hS : (s.heap.push (emptySet w)).get? s.heap.objs.size = some (emptySet w) := Heap.get?_push_size _ rfl
      have hT : Shared.TypeIs { s with heap := s.heap.push (emptySet w) } (.ref s.heap.objs.size) "set" := ⟨_, hS, rfl⟩
      have hli := F.called_set.init.lookup
      have hbi := F.called_set.init.bind (.ref s.heap.objs.size)
      repeat (any_goals (first | assumption | wp_step))
      refine codeAny_mono (codeAny_call_builtin (R := wants (fun r s2 => r = .none ∧ ∃ h' tk c, s2 = { s with heap := h', toks := tk } ∧ SetM w h' s.heap.objs.size (inKeys ks) c ∧ c ≤ ks.length ∧
          (∀ b o, s.heap.get? b = some o → h'.get? b = some o)) E) F.called_set.init.plain F.entry_set_init (check_set_init_1 hT ?_)) fun r2 s2 hr2 => ?_
      · obtain ⟨ol, hol, hcl, nl, hdl⟩ := hl
        obtain ⟨ocls, odict, odata, oslots⟩ := ol
        simp only at hcl hdl
        subst hcl; subst hdl
        have hol' : (s.heap.push (emptySet w)).get? l = some { cls := .type "list", dict := odict, data := .seq items nl, slots := oslots } := Heap.get?_push_of_some _ hol
        have hsls := F.sub_list_set
        have hslf := F.sub_list_frozenset
        have hne : (Value.type "list" == Value.type "dict") = false := by decide
        have hl1 : (s.heap.push (emptySet w)).IsList l items := ⟨_, hol', rfl, nl, rfl⟩
        unfold Builtin.«set.__init__» noKeywords Builtin.Frozenset.updateFrom
        generalize hPI : pyIter = PI
        wp_walk
        subst hPI
        refine wpAny_pyIter_list hl1 ?_
        refine wpAny_bind (wpAny_runValue ?_)
        have hlS : l < s.heap.objs.size := Heap.lt_size hol
        have hh3 : A.in1.in1.in1.handled = none := by simp [hh]
        have sz1 : (s.heap.push (emptySet w)).objs.size = s.heap.objs.size + 1 := Heap.size_push ..
        have hneI : l ≠ (s.heap.push (emptySet w)).objs.size := by
          rw [sz1]
          exact Nat.ne_of_lt (Nat.lt_succ_of_lt hlS)
        have hSf : s.heap.objs.size ∉ [(s.heap.push (emptySet w)).objs.size, l] := by
          rw [sz1]
          simp only [List.mem_cons, List.mem_singleton, List.not_mem_nil, or_false, not_or]
          exact ⟨Nat.ne_of_lt (Nat.lt_succ_self _), Nat.ne_of_gt hlS⟩
        refine setM_update ((Walks.list hh3 _ l hneI items).toS) s.heap.objs.size hSf ks hsz hb hk (items.size - 0) 0 _ (by omega) (Nat.zero_le _) ⟨⟨_, Heap.get?_push_size _ rfl, rfl, rfl⟩, (hl1.push _)⟩ ?hS0 ?hR
        case hS0 =>
          have at0 : ((s.heap.push (emptySet w)).push { cls := .type "list_iterator", data := .fields #[.ref l, .int 0 0] }).get? s.heap.objs.size = some (emptySet w) := Heap.get?_push_of_some _ hS
          exact ⟨0, Nat.le_refl 0, (setM_empty at0).congr fun k => rfl⟩
        case hR =>
          intro s' c' mv hc' hS'
          obtain ⟨h', g2, d', tk', os'⟩ := s'
          have eg : g2 = s.gens := mv.gens
          have ed : d' = s.drawn := mv.drawn
          have eo : os' = s.os := mv.os
          subst eg; subst ed; subst eo
          show wpAny _ _ _ _ _ _
          refine wpAny_pure ?_
          show wpAny _ _ (ret Value.none) _ _ _
          rw [hsz] at hc'
          refine wpAny_pure ⟨rfl, h', tk', c', rfl, hS', hc', fun b o e => ?_⟩
          have b0 : b < s.heap.objs.size := Heap.lt_size e
          have b2 : b ≠ (s.heap.push (emptySet w)).objs.size := by
            rw [sz1]
            exact Nat.ne_of_lt (Nat.lt_succ_of_lt b0)
          exact mv.heap b o (by simp only [List.mem_cons, List.mem_singleton, List.not_mem_nil, or_false, not_or]; exact ⟨Nat.ne_of_lt b0, b2⟩) (Heap.get?_push_of_some _ (Heap.get?_push_of_some _ e))
      · cases r2 with
        | error e => exact hr2
        | ok fl2 =>
          cases fl2 with
          | ret r =>
            obtain ⟨rfl, h', tk, c', rfl, hS', hc', hk'⟩ := hr2
            repeat (any_goals (first | assumption | wp_step))
            exact h _ _ _ hS' hc' hk'
          | _ => exact hr2.elim
    | _ => exact hr.elim
end
section
variable {X : Cx}
/-- set(xs), xs a list of ints and texts -/
def rSetM (K : PySem.W.Frag) (w : World) : List V → Hp → VK → Prop := fun vs H Q => ∃ (l : Addr) (ks : List Key), vs = [V.ref l] ∧ SqL K H l (ks.map kV) ∧ ks.length ≤ 1000 ∧
  ∀ (p : Addr) (c : Nat), H p = none → c ≤ ks.length → Q (.ref p) (upd H p (SetMO w p (inKeys ks) c))
theorem vals_keys {P : Program} {w : World} {ks : List Key} {its : List Value} (r : Vals (ks.map kV) its) : ∀ (i : Nat) (v : Value), its[i]? = some v → ∃ k : Key, ks[i]? = some k ∧ keyIs k v = true := by
  intro i v hv
  have hl : i < (ks.map kV).length := by
    rw [r.length]
    exact (List.getElem?_eq_some_iff.mp hv).1
  rw [List.length_map] at hl
  obtain ⟨u, h1, h2⟩ := r.get (i := i) (x := kV ks[i]) (by rw [List.getElem?_map, List.getElem?_eq_getElem hl]; rfl)
  rw [hv] at h1
  cases h1
  exact ⟨ks[i], List.getElem?_eq_getElem hl, kV_is (P := P) (w := w) h2⟩
theorem cr_setM (hc : X.calm = true) : CallR X (.type "set") (rSetM X.K X.w) := by
  intro pins s σ H vs us Q I r h
  obtain ⟨l, ks, rfl, hs, hz, q⟩ := h
  rw [Vals.ref1 r]
  obtain ⟨its, rv, hl, _⟩ := I.list hs
  have hlen : its.toArray.size = ks.length := by
    have := rv.length
    rw [List.length_map] at this
    rw [List.size_toArray]
    exact this.symm
  refine call_setM ks (I.ok.hd hc) hl.isList hlen (fun i v hv => vals_keys (P := X.prog) (w := X.w) rv i v (by rw [List.getElem?_toArray] at hv; exact hv)) ?_ fun h' tk c R hc' k => ?_
  · have : 1002 < scanBound := by decide +kernel
    omega
  · have free : H s.heap.objs.size = none := I.hok.fresh (Nat.le_refl _)
    exact ⟨.ref _, _, I.laid (t' := tk) k (Nat.le_refl _) (setMO_new R), rfl, q _ c free hc'⟩
end
end K5
set_option Elab.async false
set_option linter.all false
set_option maxRecDepth 100000
set_option maxHeartbeats 2000000
/-! The rules that name the written part, for blocks (K told). -/
namespace K5
open PySem PySem.Spec PyProof.Rows L2
section
variable {X : Cx} {K : PySem.W.Frag}
theorem ix_listK (e : X.K = K := by rfl) : IxR X (rIxL K) := e ▸ ix_list
theorem ix_tupK (e : X.K = K := by rfl) : IxR X (rIxT K) := e ▸ ix_tup
theorem sl_listK (e : X.K = K := by rfl) : SlR X (rSlL K) := e ▸ sl_list
theorem op_in_seqK (e : X.K = K := by rfl) : OpR X (compareOp .In) (rIn K false) := e ▸ op_in_seq
theorem op_notIn_seqK (e : X.K = K := by rfl) : OpR X (compareOp .NotIn) (rIn K true) := e ▸ op_notIn_seq
theorem op_catAK (e : X.K = K := by rfl) : OpR X (binaryOp .Add) (rCatA K) := e ▸ op_catA
theorem call_len_seqK (e : X.K = K := by rfl) : CallR X (.builtin "len") (fun xs H Q => ∃ p ys, xs = [.ref p] ∧ (SqL K H p ys ∨ SqT K H p ys) ∧ Q (.int ys.length) H) := e ▸ call_len_seq
theorem call_list_ofK (e : X.K = K := by rfl) : CallR X (.type "list") (fun xs H Q => ∃ p ys, xs = [.ref p] ∧ (SqL K H p ys ∨ SqT K H p ys) ∧ ∀ l, H l = none → Q (.ref l) (upd H l (.lst ys))) := e ▸ call_list_of
theorem call_tuple_ofK (e : X.K = K := by rfl) : CallR X (.type "tuple") (fun xs H Q => ∃ p ys, xs = [.ref p] ∧ ((SqL K H p ys ∧ ∀ l, H l = none → Q (.ref l) (upd H l (.tup ys))) ∨ (SqT K H p ys ∧ Q (.ref p) H))) := e ▸ call_tuple_of
variable {e : Expr} {f : Str} {pos : Pos} {ta : TE} {tg l : Expr} {tl : TE}
theorem pe_fldK (h : PE X e ta) (hb : attributeBase e f X.env (eval e X.env) = eval e X.env) (ek : X.K = K := by rfl) : PE X (.Attribute e f pos) (tFld K ta f) := ek ▸ pe_fld h hb
theorem pi_listK (h : PI X tg l (iList X.K tl)) (ek : X.K = K := by rfl) : PI X tg l (iList K tl) := ek ▸ h
end
end K5
set_option Elab.async false
set_option linter.all false
set_option maxRecDepth 100000
set_option maxHeartbeats 2000000
/-! Two loops in one comprehension, by places. -/
namespace K5
open PySem PySem.Spec PyProof.Rows L2
section
variable {J J1 : It} {n n1 : Nat} {G G1 : Hp → Prop} {Y Y1 : Nat → Hp → V → Hp → Prop}
/-- the inner loop -/
theorem lc2_in (wk : Walk J1 n1 G1 Y1) {g1 : TG} {tt1 : TT} {te : TE} {vs1 : List Nat} {σ2 : L2.St} {H4 : Hp} {D : Addr} {Nd : Hp → Prop} (Pv : Nat → Hp → Prop) (h0 : Pv 0 H4) (hG : ∀ j H, j ≤ n1 → Pv j H → G1 H)
    (hs : ∀ j x H H', j < n1 → Pv j H → Y1 j H x H' → g1 x (wipe σ2 vs1) H' fun σ3 H5 => wipe σ3 vs1 = wipe σ2 vs1 ∧ tt1 σ3 H5 fun b H6 =>
      if b = true then te σ3 H6 fun y H7 => ∃ acc, H7 D = some (.lst acc) ∧ acc.length < sizeLine ∧ Pv (j + 1) (upd H7 D (.lst (acc ++ [y]))) else Pv (j + 1) H6) (hd : ∀ H, Pv n1 H → Nd H) :
    ∃ W1 : Nat → Nat → Hp → Prop, (∃ m, W1 0 m H4) ∧ ∀ j k H, W1 j k H →
      (J1.stop j H ∧ Nd H) ∨ (J1.go j H ∧ ∃ Nx1 : Hp → Prop, (∀ H', Nx1 H' → ∃ k', k' < k ∧ W1 (j + 1) k' H') ∧ ∀ x H', J1.yld j H x H' → g1 x (wipe σ2 vs1) H' fun σ3 H5 => wipe σ3 vs1 = wipe σ2 vs1 ∧ tt1 σ3 H5 fun b H6 =>
        if b = true then te σ3 H6 fun y H7 => ∃ acc, H7 D = some (.lst acc) ∧ acc.length < sizeLine ∧ Nx1 (upd H7 D (.lst (acc ++ [y]))) else Nx1 H6) := by
  refine ⟨fun j m H => m = n1 - j ∧ j ≤ n1 ∧ Pv j H, ⟨n1, by simp, Nat.zero_le _, h0⟩, ?_⟩
  rintro j m H ⟨rfl, hj, p⟩
  have q := hG j H hj p
  rcases Nat.lt_or_ge j n1 with hlt | hge
  · exact .inr ⟨wk.goes j H hlt q, Pv (j + 1), fun H' p' => ⟨n1 - (j + 1), by omega, rfl, hlt, p'⟩, fun x H' y => hs j x H H' hlt p (wk.yields j H x H' hlt q y)⟩
  · obtain rfl : j = n1 := Nat.le_antisymm hj hge
    exact .inl ⟨wk.stops H q, hd H p⟩
/-- the outer loop -/
theorem lc2_it (wk : Walk J n G Y) {wi1 : TI} {g g1 : TG} {tt tt1 : TT} {te : TE} {vs vs1 : List Nat} {σ : L2.St} {H1 : Hp} {D : Addr} {Qd : Hp → Prop} (Pv : Nat → Hp → Prop) (h0 : Pv 0 (upd H1 D (.lst []))) (hG : ∀ i H, i ≤ n → Pv i H → G H)
    (hs : ∀ i x H H', i < n → Pv i H → Y i H x H' → g x (wipe σ vs) H' fun σ2 H2 => wipe σ2 vs = wipe σ vs ∧ tt σ2 H2 fun b H3 => if b = true then wi1 σ2 H3 fun J1 H4 => ∃ W1 : Nat → Nat → Hp → Prop, (∃ m, W1 0 m H4) ∧ ∀ j k H, W1 j k H →
      (J1.stop j H ∧ Pv (i + 1) H) ∨ (J1.go j H ∧ ∃ Nx1 : Hp → Prop, (∀ H', Nx1 H' → ∃ k', k' < k ∧ W1 (j + 1) k' H') ∧ ∀ x H', J1.yld j H x H' → g1 x (wipe σ2 vs1) H' fun σ3 H5 => wipe σ3 vs1 = wipe σ2 vs1 ∧ tt1 σ3 H5 fun b H6 =>
        if b = true then te σ3 H6 fun y H7 => ∃ acc, H7 D = some (.lst acc) ∧ acc.length < sizeLine ∧ Nx1 (upd H7 D (.lst (acc ++ [y]))) else Nx1 H6) else Pv (i + 1) H3) (hd : ∀ H, Pv n H → Qd H) :
    ∃ W : Nat → Nat → Hp → Prop, (∃ m, W 0 m (upd H1 D (.lst []))) ∧ ∀ i m H, W i m H →
      (J.stop i H ∧ Qd H) ∨ (J.go i H ∧ ∃ Nx : Hp → Prop, (∀ H', Nx H' → ∃ m', m' < m ∧ W (i + 1) m' H') ∧ ∀ x H', J.yld i H x H' → g x (wipe σ vs) H' fun σ2 H2 => wipe σ2 vs = wipe σ vs ∧ tt σ2 H2 fun b H3 =>
        if b = true then wi1 σ2 H3 fun J1 H4 => ∃ W1 : Nat → Nat → Hp → Prop, (∃ m, W1 0 m H4) ∧ ∀ j k H, W1 j k H →
          (J1.stop j H ∧ Nx H) ∨ (J1.go j H ∧ ∃ Nx1 : Hp → Prop, (∀ H', Nx1 H' → ∃ k', k' < k ∧ W1 (j + 1) k' H') ∧ ∀ x H', J1.yld j H x H' → g1 x (wipe σ2 vs1) H' fun σ3 H5 => wipe σ3 vs1 = wipe σ2 vs1 ∧ tt1 σ3 H5 fun b H6 =>
            if b = true then te σ3 H6 fun y H7 => ∃ acc, H7 D = some (.lst acc) ∧ acc.length < sizeLine ∧ Nx1 (upd H7 D (.lst (acc ++ [y]))) else Nx1 H6) else Nx H3) := by
  refine ⟨fun i m H => m = n - i ∧ i ≤ n ∧ Pv i H, ⟨n, by simp, Nat.zero_le _, h0⟩, ?_⟩
  rintro i m H ⟨rfl, hi, p⟩
  have q := hG i H hi p
  rcases Nat.lt_or_ge i n with hlt | hge
  · exact .inr ⟨wk.goes i H hlt q, Pv (i + 1), fun H' p' => ⟨n - (i + 1), by omega, rfl, hlt, p'⟩, fun x H' y => hs i x H H' hlt p (wk.yields i H x H' hlt q y)⟩
  · obtain rfl : i = n := Nat.le_antisymm hi hge
    exact .inl ⟨wk.stops H q, hd H p⟩
end
end K5
set_option Elab.async false
set_option linter.all false
set_option maxRecDepth 100000
set_option maxHeartbeats 2000000
namespace K5
open PySem PySem.Spec PyProof.Rows L2
abbrev N_is_integer : List Str := ["value", "low", "high"]
abbrev P_is_integer : List Str := ["value", "low", "high"]
theorem sc_is_integer : FnScope N_is_integer P_is_integer (defScope s_is_integer) := ⟨rfl, rfl, rfl, by decide +kernel, rfl, by decide +kernel, by decide +kernel⟩
abbrev N_is_word : List Str := ["value", "sign"]
abbrev P_is_word : List Str := ["value"]
theorem sc_is_word : FnScope N_is_word P_is_word (defScope s_is_word) := ⟨rfl, rfl, rfl, by decide +kernel, rfl, by decide +kernel, by decide +kernel⟩
abbrev N_is_number : List Str := ["value"]
abbrev P_is_number : List Str := ["value"]
theorem sc_is_number : FnScope N_is_number P_is_number (defScope s_is_number) := ⟨rfl, rfl, rfl, by decide +kernel, rfl, by decide +kernel, by decide +kernel⟩
abbrev N_is_sequence : List Str := ["value"]
abbrev P_is_sequence : List Str := ["value"]
theorem sc_is_sequence : FnScope N_is_sequence P_is_sequence (defScope s_is_sequence) := ⟨rfl, rfl, rfl, by decide +kernel, rfl, by decide +kernel, by decide +kernel⟩
def inB (x : V) (lo hi : Int) : Bool := match x with
  | .int i => decide (lo ≤ i) && decide (i ≤ hi)
  | _ => false
inductive PlainT (K : PySem.W.Frag) (H : Hp) : V → Prop
  | non : PlainT K H .non
  | bl (b : Bool) : PlainT K H (.bl b)
  | int (i : Int) : PlainT K H (.int i)
  | str (x : Str) : PlainT K H (.str x)
  | tup {a : Addr} {xs : List V} (h : H a = some (.tup xs)) : PlainT K H (.ref a)
def sp_is_integer (K : PySem.W.Frag) : Sp := fun vs H Q _ => ∃ x lo hi, vs = [x, .int lo, .int hi] ∧ PlainT K H x ∧ ∀ H', Same H H' → Q (.bl (inB x lo hi)) H'
abbrev letters : Str := "abcdefghijklmnopqrstuvwxyz"
def WordOk (s : Str) : Prop := 1 ≤ s.length ∧ s.length ≤ 6 ∧ ∀ c ∈ s.cps.toList, c ∈ letters.cps.toList
def sp_is_word : Sp := fun vs H Q _ => ∃ s, vs = [.str s] ∧ WordOk s ∧ ∀ H', Same H H' → Q (.bl true) H'
def NumOk (i : Int) : Prop := -9999 ≤ i ∧ i ≤ 9999
def sp_is_number : Sp := fun vs H Q _ => ∃ i, vs = [.int i] ∧ NumOk i ∧ ∀ H', Same H H' → Q (.bl true) H'
def sp_is_sequence (K : PySem.W.Frag) : Sp := fun vs H Q _ => ∃ a xs, vs = [.ref a] ∧ (SqL K H a xs ∨ SqT K H a xs) ∧ ∀ H', Same H H' → Q (.bl true) H'
section
variable {P : Program} {w : World} {K : PySem.W.Frag} {mg : Str → Option Value} {base : Heap}
theorem ok_is_integer (T : Top K mg) : Cal P w K mg base CX0 1 "is_integer" (sp_is_integer K) := by
  have nd := sc_is_integer.nd
  refine cal_of (ps := P_is_integer) T.d_is_integer (fun _ _ _ _ _ _ us hl => match us, hl with | [_, _, _], _ => rfl) sc_is_integer (fun vs H Q E h => ?_) (fun f cdv A outer s H vs Q E hr h => ?_)
  · obtain ⟨x, lo, hi, rfl, _⟩ := h
    rfl
  · obtain ⟨x, lo, hi, rfl, ty, k⟩ := h
    refine ⟨_, (pss_one (ps_ret (pe_and (pe_callB call_isi (by rfl) T.f_isinstance (by decide +kernel) (pa_cons (pv 0) (pa_cons (pe_bltn (v := .ty "int") (by rfl) T.f_int boot_int rfl) pa_nil))) (pe_and (pe_not (pe_callB call_isi (by rfl) T.f_isinstance (by decide +kernel) (pa_cons (pv 0) (pa_cons (pe_bltn (v := .ty "bool") (by rfl) T.f_bool boot_bool rfl) pa_nil)))) (pe_one (pe_chain op_le op_le (pv 1) (pv 0) (pv 2))))))), ?_⟩
    have k := k H (Same.refl H)
    cases ty with
    | int i =>
      refine ⟨_, rfl, _, _, _, _, true, rfl, .ty _, .base (.int i), kit_ty (by decide +kernel), _, rfl, iteT ?_⟩
      refine ⟨_, rfl, _, _, _, _, false, rfl, .ty _, .base (.int i), kit_ty (by decide +kernel), _, rfl, _, rfl, iteT ?_⟩
      refine ⟨_, rfl, _, rfl, _, _, rfl, rfl, _, rfl, ?_⟩
      have k : Q (.bl (decide (lo ≤ i) && decide (i ≤ hi))) H := k
      by_cases h1 : lo ≤ i
      · rw [decide_eq_true h1] at k ⊢
        exact iteT ⟨_, rfl, _, _, rfl, rfl, k⟩
      · rw [decide_eq_false h1] at k ⊢
        exact iteF k
    | non => exact ⟨_, rfl, _, _, _, _, false, rfl, .ty _, .base .non, kit_ty (by decide +kernel), _, rfl, iteF k⟩
    | bl b => exact ⟨_, rfl, _, _, _, _, true, rfl, .ty _, .base (.bl b), kit_ty (by decide +kernel), _, rfl, iteT ⟨_, rfl, _, _, _, _, true, rfl, .ty _, .base (.bl b), kit_ty (by decide +kernel), _, rfl, _, rfl, iteF k⟩⟩
    | str x => exact ⟨_, rfl, _, _, _, _, false, rfl, .ty _, .base (.str x), kit_ty (by decide +kernel), _, rfl, iteF k⟩
    | tup h => exact ⟨_, rfl, _, _, _, _, false, rfl, .ty _, .base (.tup h), kit_ty (by decide +kernel), _, rfl, iteF k⟩
theorem ok_is_number (T : Top K mg) (c_is_integer : Cal P w K mg base CX0 1 "is_integer" (sp_is_integer K)) : Cal P w K mg base CX0 2 "is_number" sp_is_number := by
  have nd := sc_is_number.nd
  refine cal_of (ps := P_is_number) T.d_is_number (fun _ _ _ _ _ _ us hl => match us, hl with | [_], _ => rfl) sc_is_number (fun vs H Q E h => ?_) (fun f cdv A outer s H vs Q E hr h => ?_)
  · obtain ⟨i, rfl, _⟩ := h
    rfl
  · obtain ⟨i, rfl, ⟨h1, h2⟩, k⟩ := h
    refine ⟨_, (pss_one (ps_ret (pcal c_is_integer hr (by decide) (by rfl) (pa_cons (pv 0) (pa_cons (pe_un un_neg (gc rfl T.c_MOST_NUMBER)) (pa_cons (gc rfl T.c_MOST_NUMBER) pa_nil)))))), ?_⟩
    refine ⟨_, rfl, _, rfl, _, _, _, rfl, .int i, fun H' s => ?_⟩
    have e : inB (.int i) (-9999) 9999 = true := by simp [inB, h1, h2]
    rw [e]
    exact k H' s
theorem ty_seqL {H : Hp} {a : Addr} {xs : List V} (h : SqL K H a xs) : TyX K H (.ref a) (.type "list") := by
  rcases h with (h | ⟨o, h⟩) | ⟨o, its, n, h1, h2, _⟩
  · exact .base (.lst h)
  · exact .base (.frz h)
  · exact .kList h1 h2
theorem ty_seqT {H : Hp} {a : Addr} {xs : List V} (h : SqT K H a xs) : TyX K H (.ref a) (.type "tuple") := by
  rcases h with (h | ⟨o, h⟩) | ⟨o, its, n, h1, h2, _⟩
  · exact .base (.tup h)
  · exact .fTuple h
  · exact .kTuple h1 h2
theorem yesT {σ : L2.St} {H : Hp} {Q : Bool → Hp → Prop} (h : Q true H) : tYes σ H Q := h
theorem same_new {H : Hp} {p : Addr} {o : HO} (hp : H p = none) : Same H (upd H p o) := fun b u e => by rw [upd_ne (ne_of_none e hp)]; exact e
theorem ok_is_sequence (T : Top K mg) : Cal P w K mg base CX0 1 "is_sequence" (sp_is_sequence K) := by
  have nd := sc_is_sequence.nd
  refine cal_of (ps := P_is_sequence) T.d_is_sequence (fun _ _ _ _ _ _ us hl => match us, hl with | [_], _ => rfl) sc_is_sequence (fun vs H Q E h => ?_) (fun f cdv A outer s H vs Q E hr h => ?_)
  · obtain ⟨a, xs, rfl, _⟩ := h
    rfl
  · obtain ⟨a, xs, rfl, hs, k⟩ := h
    refine ⟨_, (pss_one (ps_ret (pe_callB call_isiT (by rfl) T.f_isinstance (by decide +kernel) (pa_cons (pv 0) (pa_cons (pe_tup (pa_cons (pe_bltn (v := .ty "list") (by rfl) T.f_list boot_list rfl) (pa_cons (pe_bltn (v := .ty "tuple") (by rfl) T.f_tuple boot_tuple rfl) pa_nil))) pa_nil))))), ?_⟩
    refine ⟨_, rfl, (by show 2 ≤ sizeLine; decide), fun p hp => ?_⟩
    have s1 := same_new (o := .tup [.ty "list", .ty "tuple"]) hp
    have tr : PySem.W.kitAny K (.type "list") [.type "list", .type "tuple"] = some true := kitAny_cons (b := true) (kit_ty (by decide +kernel)) (fun z => nomatch z) (fun _ => rfl)
    have tr2 : PySem.W.kitAny K (.type "tuple") [.type "list", .type "tuple"] = some true := kitAny_cons (b := false) (kit_ty (by decide +kernel)) (fun _ => kitAny_cons (b := true) (kit_ty (by decide +kernel)) (fun z => nomatch z) (fun _ => rfl)) (fun _ => rfl)
    have pr : Paired ClsV [.ty "list", .ty "tuple"] [.type "list", .type "tuple"] := .cons (.ty _) (.cons (.ty _) .nil)
    rcases hs with hs | hs
    · exact ⟨_, _, _, _, _, true, rfl, upd_same, pr, ty_seqL (s1.seq hs), tr, k _ s1⟩
    · exact ⟨_, _, _, _, _, true, rfl, upd_same, pr, ty_seqT (same_tup s1 hs), tr2, k _ s1⟩
theorem str_len_toList (s : Str) : s.cps.toList.length = s.length := by
  rw [Array.length_toList]
  rfl
theorem ok_is_word (T : Top K mg) : Cal P w K mg base CX0 1 "is_word" sp_is_word := by
  have nd := sc_is_word.nd
  refine cal_of (ps := P_is_word) T.d_is_word (fun _ _ _ _ _ _ us hl => match us, hl with | [_], _ => rfl) sc_is_word (fun vs H Q E h => ?_) (fun f cdv A outer s H vs Q E hr h => ?_)
  · obtain ⟨x, rfl, _⟩ := h
    rfl
  · obtain ⟨x, rfl, ⟨h1, h2, h3⟩, k⟩ := h
    refine ⟨_, (pss_cons (ps_if (PW.pt (pw_or (pt_not (pt_val (pe_callB call_isi (by rfl) T.f_isinstance (by decide +kernel) (pa_cons (pv 0) (pa_cons (pe_bltn (v := .ty "str") (by rfl) T.f_str boot_str rfl) pa_nil))))) (pw_or1 (pt_not (pt_chain op_le op_le pe_int (pe_callB call_len_str (by rfl) T.f_len (by decide +kernel) (pa_cons (pv 0) pa_nil)) (gc rfl T.c_MOST_LETTERS)))))) (pss_one (ps_ret pe_bl)) pss_nil)
    (pss_one (ps_ret (pe_callB (cr_all rfl) (by rfl) T.f_all (by decide +kernel) (pa_cons (pe_lc (own := [("sign", 1)]) (g := (gName 1)) (tt := tYes) rfl nd (pi_str (pv 0)) (blkOk_by (own := [("sign", 1)]) (N := N_is_word) (sc := defScope s_is_word) (by decide +kernel)) (fun _ _ _ _ _ => (pg_name (i := 1) nd rfl (by first | exact Or.inl rfl | exact Or.inr rfl))) (fun _ _ _ _ _ => pts_nil) (fun _ _ _ _ _ => (pe_cmpR op_in_sign (pv 1) (gc rfl T.c_LETTERS) (by rfl)))) pa_nil))))), ?_⟩
    have hz : x.length ≤ sizeLine := Nat.le_trans h2 (by decide)
    refine ⟨_, rfl, _, _, _, _, true, rfl, .ty _, .base (.str x), kit_ty (by decide +kernel), _, rfl, iteF ?_⟩
    refine ⟨_, rfl, _, rfl, hz, _, _, rfl, rfl, _, rfl, ?_⟩
    rw [decide_eq_true (show (1 : Int) ≤ (x.length : Int) by omega)]
    refine iteT ⟨_, _, rfl, rfl, _, rfl, ?_⟩
    rw [decide_eq_true (show (x.length : Int) ≤ 6 by omega)]
    refine iteF ?_
    refine ⟨_, rfl, x, rfl, fun D hD => ?_⟩
    refine lc_it walk_str (fun i H' => Same H H' ∧ H' D = some (.lst ((x.cps.toList.take i).map fun _ => V.bl true))) ⟨same_new hD, upd_same⟩ (fun _ _ _ _ => trivial) ?_ ?_
    · rintro i v H1 H2 hi ⟨s1, hd⟩ ⟨rfl, c, hc, rfl⟩
      refine ⟨rfl, ?_⟩
      have hm : c ∈ x.cps.toList := by
        rw [← Array.getElem?_toList] at hc
        exact List.mem_of_getElem? hc
      refine yesT (iteT ?_)
      refine ⟨_, rfl, _, _, rfl, rfl, ?_⟩
      rw [decide_eq_true (h3 c hm)]
      have hl : ((x.cps.toList.take i).map fun _ => V.bl true).length < sizeLine := by
        rw [List.length_map, List.length_take]
        have := str_len_toList x
        exact Nat.lt_of_le_of_lt (Nat.min_le_right _ _) (Nat.lt_of_le_of_lt (by omega : x.cps.toList.length ≤ 6) (by decide))
      refine ⟨_, hd, hl, fun b o e => ?_, ?_⟩
      · rw [upd_ne (ne_of_none e hD)]
        exact s1 b o e
      · rw [← Array.getElem?_toList] at hc
        rw [upd_same, take_succ_of hc, List.map_append]
        rfl
    · rintro H1 ⟨s1, hd⟩
      have e : (x.cps.toList.take x.cps.size).map (fun _ => V.bl true) = (x.cps.toList.map fun _ => true).map V.bl := by
        rw [List.take_of_length_le (by rw [Array.length_toList]; exact Nat.le_refl _), List.map_map]
        rfl
      rw [e] at hd
      refine ⟨D, _, rfl, SqL.of hd, ?_⟩
      have e2 : (x.cps.toList.map fun _ => true).all id = true := by simp
      rw [e2]
      exact k _ s1
end
end K5
set_option Elab.async false
set_option linter.all false
set_option maxRecDepth 100000
set_option maxHeartbeats 2000000
namespace K5
open PySem PySem.Spec PyProof.Rows L2
abbrev N_all_unlike : List Str := ["values", "value"]
abbrev P_all_unlike : List Str := ["values"]
theorem sc_all_unlike : FnScope N_all_unlike P_all_unlike (defScope s_all_unlike) := ⟨rfl, rfl, rfl, by decide +kernel, rfl, by decide +kernel, by decide +kernel⟩
abbrev N_first_other : List Str := ["words", "word", "first", "second"]
abbrev P_first_other : List Str := ["words"]
theorem sc_first_other : FnScope N_first_other P_first_other (defScope s_first_other) := ⟨rfl, rfl, rfl, by decide +kernel, rfl, by decide +kernel, by decide +kernel⟩
theorem not_in_take {α : Type} : ∀ {l : List α} {i : Nat} {x : α}, l.Nodup → l[i]? = some x → x ∉ l.take i
  | [], i, x, _, h => by simp at h
  | a :: l, 0, x, _, h => by simp
  | a :: l, i + 1, x, nd, h => by
    obtain ⟨h1, h2⟩ := List.nodup_cons.mp nd
    have h' : l[i]? = some x := by simpa using h
    rw [List.take_succ_cons, List.mem_cons]
    rintro (e | e)
    · exact h1 (e ▸ List.mem_of_getElem? h')
    · exact not_in_take h2 h' e
def sp_all_unlike (K : PySem.W.Frag) : Sp := fun vs H Q _ => ∃ a, ∃ ws : List Str, vs = [.ref a] ∧ SqL K H a (ws.map V.str) ∧ ws.Nodup ∧ ws.length ≤ 60 ∧ ∀ H', Same H H' → Q (.bl true) H'
/-- some word that is not among these -/
def sp_first_other (K : PySem.W.Frag) : Sp := fun vs H Q _ => ∃ a, ∃ ws : List Str, vs = [.ref a] ∧ SqL K H a (ws.map V.str) ∧ (∀ x ∈ ws, WordOk x) ∧ ws.length ≤ 25 ∧ ∀ x H', WordOk x → x ∉ ws → Same H H' → Q (.str x) H'
section
variable {P : Program} {w : World} {K : PySem.W.Frag} {mg : Str → Option Value} {base : Heap}
theorem at_strs {ws : List Str} {i : Nat} {x : V} (h : (ws.map V.str)[i]? = some x) : ∃ y, ws[i]? = some y ∧ x = .str y := by
  rw [List.getElem?_map] at h
  cases e : ws[i]? with
  | none => rw [e] at h; cases h
  | some y => rw [e] at h; exact ⟨y, rfl, (Option.some.inj h).symm⟩
theorem ok_all_unlike (T : Top K mg) : Cal P w K mg base CX0 1 "all_unlike" (sp_all_unlike K) := by
  have nd := sc_all_unlike.nd
  refine cal_of (ps := P_all_unlike) T.d_all_unlike (fun _ _ _ _ _ _ us hl => match us, hl with | [_], _ => rfl) sc_all_unlike (fun vs H Q E h => ?_) (fun f cdv A outer s H vs Q E hr h => ?_)
  · obtain ⟨a, ws, rfl, _⟩ := h
    rfl
  · obtain ⟨a, ws, rfl, hs, hn, hz, k⟩ := h
    refine ⟨_, (pss_one (ps_ret (pe_cmpR op_eq (pe_callB cr_lenM (by rfl) T.f_len (by decide +kernel) (pa_cons (pe_scM (own := [("value", 1)]) (g := (gName 1)) (tt := tYes) rfl nd (pi_list (pv 0)) (blkOk_by (own := [("value", 1)]) (N := N_all_unlike) (sc := defScope s_all_unlike) (by decide +kernel)) (fun _ _ _ _ _ => (pg_name (i := 1) nd rfl (by first | exact Or.inl rfl | exact Or.inr rfl))) (fun _ _ _ _ _ => pts_nil) (fun _ _ _ _ _ => (pe_callTy SkE.call_str_str (by rfl) T.f_str (by decide +kernel) (pa_cons (pv 1) pa_nil)))) pa_nil)) (pe_callB call_len_seq (by rfl) T.f_len (by decide +kernel) (pa_cons (pv 0) pa_nil)) (nomark _)))), ?_⟩
    refine ⟨_, rfl, a, rfl, ⟨_, hs⟩, fun D hD => ?_⟩
    refine scM_it (walk_list (xs := ws.map V.str)) (fun i H' => Same H H' ∧ H' D = some (SetMO w D (inKeys ((ws.take i).map Sum.inr)) i)) ⟨same_new hD, upd_same⟩ (fun i H' _ p => p.1.seq hs) ?_ ?_
    · rintro i v H1 H2 hi ⟨s1, hd⟩ ⟨rfl, hv⟩
      obtain ⟨x, hx, rfl⟩ := at_strs hv
      have hi' : i < ws.length := by simpa using hi
      refine ⟨rfl, yesT (iteT ?_)⟩
      have fresh : inKeys ((ws.take i).map Sum.inr) (.inr x) = false := by
        cases q : inKeys ((ws.take i).map Sum.inr) (.inr x) with
        | false => rfl
        | true =>
          obtain ⟨y, hy, e⟩ := List.mem_map.mp (inKeys_iff.mp q)
          exact absurd (Sum.inr.inj e ▸ hy) (not_in_take hn hx)
      refine ⟨_, rfl, x, rfl, .inr x, _, i, rfl, hd, ?_, fun b o e => ?_, ?_⟩
      · have : 62 < scanBound := by decide +kernel
        omega
      · rw [upd_ne (ne_of_none e hD)]
        exact s1 b o e
      · rw [upd_same, fresh]
        have e1 : (fun j => inKeys ((ws.take i).map Sum.inr) j || decide (j = Sum.inr x)) = inKeys ((ws.take (i + 1)).map Sum.inr) := by
          funext j
          rw [take_succ_of hx, List.map_append]
          exact (inKeys_more _ (.inr x) j).symm
        rw [e1]
        rfl
    · rintro H1 ⟨s1, hd⟩
      rw [List.length_map] at hd
      refine ⟨D, _, _, rfl, hd, _, rfl, a, _, rfl, .inl (s1.seq hs), rfl, ?_⟩
      rw [List.length_map, decide_eq_true rfl]
      exact k _ s1
theorem inV_strs (x : Str) (ws : List Str) : inV (.str x) (ws.map V.str) = decide (x ∈ ws) := by
  unfold inV
  rw [List.any_map]
  induction ws with
  | nil => simp
  | cons y ws ih =>
    rw [List.any_cons, ih]
    have e : ((fun y => eqV y (V.str x)) ∘ V.str) y = decide (x = y) := by
      show eqV (.str y) (.str x) = decide (x = y)
      unfold eqV
      by_cases q : y = x
      · subst q
        simp
      · have q2 : ¬ x = y := fun z => q z.symm
        simp [q, q2]
    rw [e]
    simp
theorem flat_strs (ws : List Str) : (ws.map V.str).all flatV = true := by
  rw [List.all_map, List.all_eq_true]
  intro x _
  rfl
theorem nodup_len {α : Type} [DecidableEq α] : ∀ (l m : List α), l.Nodup → (∀ x ∈ l, x ∈ m) → l.length ≤ m.length
  | [], m, _, _ => Nat.zero_le _
  | a :: l, m, nd, h => by
    obtain ⟨h1, h2⟩ := List.nodup_cons.mp nd
    have ha : a ∈ m := h a (List.mem_cons_self ..)
    have ih := nodup_len l (m.erase a) h2 fun x hx => (List.mem_erase_of_ne fun e => h1 (by rw [← e]; exact hx)).mpr (h x (List.mem_cons_of_mem _ hx))
    rw [List.length_erase_of_mem ha] at ih
    have : 0 < m.length := List.length_pos_of_mem ha
    rw [List.length_cons]
    omega
def lets : List Str := letters.cps.toList.map fun c => (⟨#[c]⟩ : Str)
theorem lets_nodup : lets.Nodup := by decide +kernel
theorem lets_ok : ∀ x ∈ lets, WordOk x := by
  have h : (lets.all fun x => decide (1 ≤ x.length) && (decide (x.length ≤ 6) && x.cps.toList.all fun c => decide (c ∈ letters.cps.toList))) = true := by decide +kernel
  intro x hx
  have q := List.all_eq_true.mp h x hx
  rw [Bool.and_eq_true, Bool.and_eq_true] at q
  exact ⟨of_decide_eq_true q.1, of_decide_eq_true q.2.1, fun c hc => of_decide_eq_true (List.all_eq_true.mp q.2.2 c hc)⟩
theorem ok_first_other (T : Top K mg) (c_is_sequence : Cal P w K mg base CX0 1 "is_sequence" (sp_is_sequence K)) (c_is_word : Cal P w K mg base CX0 1 "is_word" sp_is_word) : Cal P w K mg base CX0 2 "first_other" (sp_first_other K) := by
  have nd := sc_first_other.nd
  refine cal_of (ps := P_first_other) T.d_first_other (fun _ _ _ _ _ _ us hl => match us, hl with | [_], _ => rfl) sc_first_other (fun vs H Q E h => ?_) (fun f cdv A outer s H vs Q E hr h => ?_)
  · obtain ⟨a, ws, rfl, _⟩ := h
    rfl
  · obtain ⟨a, ws, rfl, hs, hw, hz, k⟩ := h
    refine ⟨_, (pss_cons (ps_if (PW.pt (pw_or (pt_not (pt_val (pcal c_is_sequence hr (by decide) (by rfl) (pa_cons (pv 0) pa_nil)))) (pw_or (pt_cmpR op_gt (pe_callB call_len_seq (by rfl) T.f_len (by decide +kernel) (pa_cons (pv 0) pa_nil)) (gc rfl T.c_MOST_WORDS) (nomark _)) (pw_or1 (pt_not (pt_val (pe_callB (cr_all rfl) (by rfl) T.f_all (by decide +kernel) (pa_cons (pe_lc (own := [("word", 1)]) (g := (gName 1)) (tt := tYes) rfl nd (pi_list (pv 0)) (blkOk_by (own := [("word", 1)]) (N := N_first_other) (sc := defScope s_first_other) (by decide +kernel)) (fun _ _ _ _ _ => (pg_name (i := 1) nd rfl (by first | exact Or.inl rfl | exact Or.inr rfl))) (fun _ _ _ _ _ => pts_nil) (fun _ _ _ _ _ => (pcal c_is_word hr (by decide) (by rfl) (pa_cons (pv 1) pa_nil)))) pa_nil)))))))) (pss_one ps_never) pss_nil)
    (pss_cons (ps_for PassesOwn.never rfl (pi_str (gc rfl T.c_LETTERS)) (pg_name (i := 1) nd rfl (by first | exact Or.inl rfl | exact Or.inr rfl)) (pss_one (ps_if (pt_cmpR op_notIn_seq (pv 1) (pv 0) (by rfl)) (pss_one (ps_ret (pv 1))) pss_nil)))
    (pss_cons ps_never
    (pss_one ps_never)))), ?_⟩
    refine ⟨_, rfl, a, _, rfl, .inl hs, fun H1 s1 => ⟨true, rfl, iteF ?_⟩⟩
    refine ⟨_, rfl, a, _, rfl, .inl (s1.seq hs), _, _, rfl, rfl, _, rfl, ?_⟩
    rw [decide_eq_false (show ¬ (100 : Int) < ((ws.map V.str).length : Int) by rw [List.length_map]; omega)]
    refine iteF ?_
    refine ⟨_, rfl, a, rfl, ⟨_, s1.seq hs⟩, fun D hD => ?_⟩
    have s2 := s1.trans (same_new (o := .lst []) hD)
    refine lc_it (walk_list (xs := ws.map V.str)) (fun i H' => Same H H' ∧ H' D = some (.lst ((ws.take i).map fun _ => V.bl true))) ⟨s2, upd_same⟩ (fun i H' _ p => p.1.seq hs) ?_ ?_
    · rintro i v H2 H3 hi ⟨s3, hd⟩ ⟨rfl, hv⟩
      obtain ⟨x, hx, rfl⟩ := at_strs hv
      refine ⟨rfl, yesT (iteT ?_)⟩
      refine ⟨_, rfl, x, rfl, hw x (List.mem_of_getElem? hx), fun H4 s4 => ⟨_, s4 _ _ hd, ?_, fun b o e => ?_, ?_⟩⟩
      · rw [List.length_map, List.length_take]
        exact Nat.lt_of_le_of_lt (Nat.min_le_right _ _) (Nat.lt_of_le_of_lt hz (by decide))
      · rw [upd_ne (ne_of_none e (s1.free hD))]
        exact s4 _ _ (s3 b o e)
      · rw [upd_same, take_succ_of hx, List.map_append]
        rfl
    · rintro H2 ⟨s3, hd⟩
      have e : ((ws.take (ws.map V.str).length).map fun _ => V.bl true) = (ws.map fun _ => true).map V.bl := by
        rw [List.length_map, List.take_length, List.map_map]
        rfl
      rw [e] at hd
      refine ⟨D, _, rfl, SqL.of hd, ?_⟩
      have e2 : (ws.map fun _ => true).all id = true := by simp
      rw [e2]
      refine ⟨true, rfl, iteF ?_⟩
      refine ⟨letters, rfl, ?_⟩
      refine for_it walk_str (fun i σ H' => (∃ v, σ = [some (.ref a), v, none, none]) ∧ Same H H' ∧ ∀ x ∈ lets.take i, x ∈ ws) ⟨⟨_, rfl⟩, s3, fun x hx => by simp at hx⟩ (fun _ _ _ _ _ => trivial) ?_ ?_
      · rintro i v σ H4 H5 hi ⟨⟨v0, rfl⟩, s4, all⟩ ⟨rfl, c, hc, rfl⟩
        have hx : lets[i]? = some ⟨#[c]⟩ := by
          unfold lets
          rw [List.getElem?_map, Array.getElem?_toList, hc]
          rfl
        refine ⟨_, rfl, _, rfl, a, _, rfl, .inl (s4.seq hs), rfl, flat_strs ws, _, rfl, ?_⟩
        rw [inV_strs]
        by_cases q : (⟨#[c]⟩ : Str) ∈ ws
        · rw [decide_eq_true q]
          refine iteF ⟨⟨_, rfl⟩, s4, fun x hx' => ?_⟩
          rw [take_succ_of hx, List.mem_append, List.mem_singleton] at hx'
          rcases hx' with z | z
          · exact all x z
          · rw [z]
            exact q
        · rw [decide_eq_false q]
          exact iteT ⟨_, rfl, k _ _ (lets_ok _ (List.mem_of_getElem? hx)) q s4⟩
      · rintro σ H4 ⟨_, s4, all⟩
        have e3 : letters.cps.size = 26 := by decide +kernel
        have e4 : lets.length = 26 := by decide +kernel
        rw [e3, List.take_of_length_le (by rw [e4]; exact Nat.le_refl _)] at all
        have := nodup_len lets ws lets_nodup all
        omega
end
end K5
set_option Elab.async false
set_option linter.all false
set_option maxRecDepth 100000
set_option maxHeartbeats 2000000
namespace K5
open PySem PySem.Spec PyProof.Rows L2
abbrev N_is_field : List Str := ["value"]
abbrev P_is_field : List Str := ["value"]
theorem sc_is_field : FnScope N_is_field P_is_field (defScope s_is_field) := ⟨rfl, rfl, rfl, by decide +kernel, rfl, by decide +kernel, by decide +kernel⟩
abbrev N_are_fields : List Str := ["value", "field"]
abbrev P_are_fields : List Str := ["value"]
theorem sc_are_fields : FnScope N_are_fields P_are_fields (defScope s_are_fields) := ⟨rfl, rfl, rfl, by decide +kernel, rfl, by decide +kernel, by decide +kernel⟩
abbrev N_are_answers : List Str := ["value", "word"]
abbrev P_are_answers : List Str := ["value"]
theorem sc_are_answers : FnScope N_are_answers P_are_answers (defScope s_are_answers) := ⟨rfl, rfl, rfl, by decide +kernel, rfl, by decide +kernel, by decide +kernel⟩
abbrev N_is_value : List Str := ["value", "sort"]
abbrev P_is_value : List Str := ["value", "sort"]
theorem sc_is_value : FnScope N_is_value P_is_value (defScope s_is_value) := ⟨rfl, rfl, rfl, by decide +kernel, rfl, by decide +kernel, by decide +kernel⟩
abbrev N_Kind_width : List Str := ["self"]
abbrev P_Kind_width : List Str := ["self"]
theorem sc_Kind_width : FnScope N_Kind_width P_Kind_width (defScope s_Kind_width) := ⟨rfl, rfl, rfl, by decide +kernel, rfl, by decide +kernel, by decide +kernel⟩
abbrev N_Kind_fields : List Str := ["self"]
abbrev P_Kind_fields : List Str := ["self"]
theorem sc_Kind_fields : FnScope N_Kind_fields P_Kind_fields (defScope s_Kind_fields) := ⟨rfl, rfl, rfl, by decide +kernel, rfl, by decide +kernel, by decide +kernel⟩
abbrev N_Kind_names : List Str := ["self", "name", "sort"]
abbrev P_Kind_names : List Str := ["self"]
theorem sc_Kind_names : FnScope N_Kind_names P_Kind_names (defScope s_Kind_names) := ⟨rfl, rfl, rfl, by decide +kernel, rfl, by decide +kernel, by decide +kernel⟩
abbrev N_Kind_answers : List Str := ["self"]
abbrev P_Kind_answers : List Str := ["self"]
theorem sc_Kind_answers : FnScope N_Kind_answers P_Kind_answers (defScope s_Kind_answers) := ⟨rfl, rfl, rfl, by decide +kernel, rfl, by decide +kernel, by decide +kernel⟩
abbrev N_Kind_sort_of : List Str := ["self", "name", "other", "sort"]
abbrev P_Kind_sort_of : List Str := ["self", "name"]
theorem sc_Kind_sort_of : FnScope N_Kind_sort_of P_Kind_sort_of (defScope s_Kind_sort_of) := ⟨rfl, rfl, rfl, by decide +kernel, rfl, by decide +kernel, by decide +kernel⟩
abbrev N_Kind_place_of : List Str := ["self", "name"]
abbrev P_Kind_place_of : List Str := ["self", "name"]
theorem sc_Kind_place_of : FnScope N_Kind_place_of P_Kind_place_of (defScope s_Kind_place_of) := ⟨rfl, rfl, rfl, by decide +kernel, rfl, by decide +kernel, by decide +kernel⟩
abbrev N_Kind_is_test : List Str := ["self", "value", "sort"]
abbrev P_Kind_is_test : List Str := ["self", "value"]
theorem sc_Kind_is_test : FnScope N_Kind_is_test P_Kind_is_test (defScope s_Kind_is_test) := ⟨rfl, rfl, rfl, by decide +kernel, rfl, by decide +kernel, by decide +kernel⟩
structure Knd where
  fields : List (Str × Str)
  answers : List Str
  width : Int
def FieldOk (f : Str × Str) : Prop := WordOk f.1 ∧ (f.2 = "word" ∨ f.2 = "number")
def FieldsOk (fs : List (Str × Str)) : Prop := fs.length ≤ 4 ∧ (∀ f ∈ fs, FieldOk f) ∧ (fs.map (·.1)).Nodup
def AnsOk (l : List Str) : Prop := 2 ≤ l.length ∧ l.length ≤ 5 ∧ (∀ x ∈ l, WordOk x) ∧ l.Nodup
structure KndOk (k : Knd) : Prop where
  fs : FieldsOk k.fields
  an : AnsOk k.answers
  w0 : 0 ≤ k.width
  w2 : k.width ≤ 2
/-- a value of a field of this sort -/
def ValOk (s : Str) (v : V) : Prop := (s = "word" ∧ ∃ x, v = .str x ∧ WordOk x) ∨ (s = "number" ∧ ∃ i, v = .int i ∧ NumOk i)
def TstOk (k : Knd) (t : Tst) : Prop := ∃ s, (t.1, s) ∈ k.fields ∧ ValOk s t.2.2 ∧ ((s = "word" ∧ (t.2.1 = "is" ∨ t.2.1 = "not")) ∨ (s = "number" ∧ (t.2.1 = "most" ∨ t.2.1 = "least")))
def kfs (t1 t2 : Addr) (w : Int) : List (Str × V) := [("own_fields", .ref t1), ("own_answers", .ref t2), ("own_width", .int w)]
theorem kfs_fields (t1 t2 : Addr) (w : Int) : (kfs t1 t2 w).lookup ("own_fields" : Str) = some (.ref t1) := rfl
theorem kfs_answers (t1 t2 : Addr) (w : Int) : (kfs t1 t2 w).lookup ("own_answers" : Str) = some (.ref t2) := by
  show List.lookup _ _ = _
  simp only [kfs, List.lookup, show (("own_answers" : Str) == "own_fields") = false by decide +kernel, show (("own_answers" : Str) == "own_answers") = true by decide +kernel]
theorem kfs_width (t1 t2 : Addr) (w : Int) : (kfs t1 t2 w).lookup ("own_width" : Str) = some (.int w) := by
  show List.lookup _ _ = _
  simp only [kfs, List.lookup, show (("own_width" : Str) == "own_fields") = false by decide +kernel, show (("own_width" : Str) == "own_answers") = false by decide +kernel, show (("own_width" : Str) == "own_width") = true by decide +kernel]
theorem kfs_no (t1 t2 : Addr) (w : Int) {m : Str} (h : (m == ("own_fields" : Str) || m == ("own_answers" : Str) || m == ("own_width" : Str)) = false) : (kfs t1 t2 w).lookup m = none := by
  rw [Bool.or_eq_false_iff, Bool.or_eq_false_iff] at h
  show List.lookup _ _ = _
  simp only [kfs, List.lookup, h.1.1, h.1.2, h.2]
/-- a kind -/
def KdA (K : PySem.W.Frag) (B : Hp) (v : V) (k : Knd) : Prop := ∃ p dx t1 t2 xs, v = .ref p ∧ B p = some (.ins (cK K) dx (kfs t1 t2 k.width)) ∧ B t1 = some (.tup xs) ∧ Paired (FiA K B) xs k.fields ∧ B t2 = some (.tup (k.answers.map V.str))
theorem KdA.mono : Mono KdA := fun _ _ _ _ _ s ⟨p, dx, t1, t2, xs, e, h1, h2, h3, h4⟩ => ⟨p, dx, t1, t2, xs, e, s _ _ h1, s _ _ h2, paired_mono FiA.mono s h3, s _ _ h4⟩

def sp_is_field (K : PySem.W.Frag) : Sp := fun vs H Q _ => ∃ v f, vs = [v] ∧ FiA K H v f ∧ FieldOk f ∧ ∀ H', Same H H' → Q (.bl true) H'
def sp_are_fields (K : PySem.W.Frag) : Sp := fun vs H Q _ => ∃ v fs, vs = [v] ∧ LiA FiA K H v fs ∧ FieldsOk fs ∧ ∀ H', Same H H' → Q (.bl true) H'
def sp_are_answers (K : PySem.W.Frag) : Sp := fun vs H Q _ => ∃ a, ∃ l : List Str, vs = [.ref a] ∧ SqL K H a (l.map V.str) ∧ AnsOk l ∧ ∀ H', Same H H' → Q (.bl true) H'
def sp_is_value : Sp := fun vs H Q _ => ∃ v s, vs = [v, .str s] ∧ ValOk s v ∧ ∀ H', Same H H' → Q (.bl true) H'
def sp_width (K : PySem.W.Frag) : Sp := fun vs H Q _ => ∃ v k, vs = [v] ∧ KdA K H v k ∧ ∀ H', Same H H' → Q (.int k.width) H'
def sp_fields (K : PySem.W.Frag) : Sp := fun vs H Q _ => ∃ B v k, vs = [v] ∧ Same B H ∧ KdA K B v k ∧ ∀ q xs H', Same H H' → H q = none → H' q = some (.lst xs) → Paired (FiA K B) xs k.fields → Q (.ref q) H'
def sp_names (K : PySem.W.Frag) : Sp := fun vs H Q _ => ∃ v k, vs = [v] ∧ KdA K H v k ∧ k.fields.length ≤ 4 ∧ ∀ q H', Same H H' → H q = none → H' q = some (.lst (k.fields.map fun f => V.str f.1)) → Q (.ref q) H'
def sp_answers (K : PySem.W.Frag) : Sp := fun vs H Q _ => ∃ v k, vs = [v] ∧ KdA K H v k ∧ ∀ q H', Same H H' → H q = none → H' q = some (.lst (k.answers.map V.str)) → Q (.ref q) H'
def sp_sort_of (K : PySem.W.Frag) : Sp := fun vs H Q _ => ∃ v k n s, vs = [v, .str n] ∧ KdA K H v k ∧ (n, s) ∈ k.fields ∧ (k.fields.map (·.1)).Nodup ∧ ∀ H', Same H H' → Q (.str s) H'
def sp_place_of (K : PySem.W.Frag) : Sp := fun vs H Q _ => ∃ v k n j, vs = [v, .str n] ∧ KdA K H v k ∧ FieldsOk k.fields ∧ (∃ s, k.fields[j]? = some (n, s)) ∧ ∀ H', Same H H' → Q (.int (j : Nat)) H'
def sp_is_test (K : PySem.W.Frag) : Sp := fun vs H Q _ => ∃ v k u t, vs = [v, u] ∧ KdA K H v k ∧ KndOk k ∧ TsA K H u t ∧ TstOk k t ∧ ∀ H', Same H H' → Q (.bl true) H'
theorem nodup_key {α : Type} : ∀ {l : List (Str × α)} {n : Str} {x y : α}, (l.map (·.1)).Nodup → (n, x) ∈ l → (n, y) ∈ l → x = y
  | [], _, _, _, _, h, _ => absurd h (by simp)
  | (m, z) :: l, n, x, y, nd, h1, h2 => by
    rw [List.map_cons, List.nodup_cons] at nd
    rcases List.mem_cons.mp h1 with e1 | h1
    · rcases List.mem_cons.mp h2 with e2 | h2
      · rw [Prod.mk.injEq] at e1 e2
        rw [e1.2, e2.2]
      · rw [Prod.mk.injEq] at e1
        exact absurd (List.mem_map.mpr ⟨(n, y), h2, e1.1⟩) nd.1
    · rcases List.mem_cons.mp h2 with e2 | h2
      · rw [Prod.mk.injEq] at e2
        exact absurd (List.mem_map.mpr ⟨(n, x), h1, e2.1⟩) nd.1
      · exact nodup_key nd.2 h1 h2
section
variable {P : Program} {w : World} {K : PySem.W.Frag} {mg : Str → Option Value} {base : Heap}
theorem ok_is_field (T : Top K mg) (c_is_word : Cal P w K mg base CX0 1 "is_word" sp_is_word) : Cal P w K mg base CX0 2 "is_field" (sp_is_field K) := by
  have nd := sc_is_field.nd
  refine cal_of (ps := P_is_field) T.d_is_field (fun _ _ _ _ _ _ us hl => match us, hl with | [_], _ => rfl) sc_is_field (fun vs H Q E h => ?_) (fun f cdv A outer s H vs Q E hr h => ?_)
  · obtain ⟨v, f, rfl, _⟩ := h
    rfl
  · obtain ⟨v, ⟨n, so⟩, rfl, ⟨a, rfl, hT⟩, ⟨hn, hs⟩, k⟩ := h
    refine ⟨_, (pss_cons (ps_if (PW.pt (pw_or (pt_not (pt_val (pe_callB call_isi (by rfl) T.f_isinstance (by decide +kernel) (pa_cons (pv 0) (pa_cons (pe_bltn (v := .ty "tuple") (by rfl) T.f_tuple boot_tuple rfl) pa_nil))))) (pw_or1 (pt_cmpR op_ne (pe_callB call_len_seq (by rfl) T.f_len (by decide +kernel) (pa_cons (pv 0) pa_nil)) pe_int (nomark _))))) (pss_one (ps_ret pe_bl)) pss_nil)
    (pss_one (ps_ret (pe_and (pcal c_is_word hr (by decide) (by rfl) (pa_cons (pe_ix ix_tup (pv 0) pe_int (fun _ _ => rfl)) pa_nil)) (pe_and (pe_callB call_isi (by rfl) T.f_isinstance (by decide +kernel) (pa_cons (pe_ix ix_tup (pv 0) pe_int (fun _ _ => rfl)) (pa_cons (pe_bltn (v := .ty "str") (by rfl) T.f_str boot_str rfl) pa_nil))) (pe_one (pe_cmpR op_in_seq (pe_ix ix_tup (pv 0) pe_int (fun _ _ => rfl)) (gc rfl T.c_SORTS) (by rfl)))))))), ?_⟩
    have tt : ∀ {H' : Hp}, Same H H' → TyX K H' (.ref a) (.type "tuple") := fun s1 => ty_seqT (same_tup s1 hT)
    refine ⟨_, rfl, _, _, _, _, true, rfl, .ty _, tt (Same.refl H), kit_ty (by decide +kernel), _, rfl, iteF ?_⟩
    refine ⟨_, rfl, a, _, rfl, .inr hT, rfl, _, rfl, iteF ?_⟩
    refine ⟨_, rfl, a, _, _, _, rfl, rfl, hT, rfl, n, rfl, hn, fun H1 s1 => ⟨_, rfl, iteT ?_⟩⟩
    refine ⟨_, rfl, a, _, _, _, rfl, rfl, same_tup s1 hT, rfl, _, _, _, _, true, rfl, .ty _, .base (.str so), kit_ty (by decide +kernel), _, rfl, iteT ?_⟩
    refine ⟨_, rfl, a, _, _, _, rfl, rfl, same_tup s1 hT, rfl, _, _, rfl, .inr (T.t_SORTS H1), rfl, rfl, ?_⟩
    have e : inV (.str so) [.str "word", .str "number"] = true := by
      rw [show ([.str "word", .str "number"] : List V) = (["word", "number"] : List Str).map V.str from rfl, inV_strs]
      rcases hs with rfl | rfl
      · exact decide_eq_true (by simp)
      · exact decide_eq_true (by simp)
    rw [e]
    exact k _ s1
theorem ok_is_value (T : Top K mg) (c_is_word : Cal P w K mg base CX0 1 "is_word" sp_is_word) (c_is_number : Cal P w K mg base CX0 2 "is_number" sp_is_number) : Cal P w K mg base CX0 3 "is_value" sp_is_value := by
  have nd := sc_is_value.nd
  refine cal_of (ps := P_is_value) T.d_is_value (fun _ _ _ _ _ _ us hl => match us, hl with | [_, _], _ => rfl) sc_is_value (fun vs H Q E h => ?_) (fun f cdv A outer s H vs Q E hr h => ?_)
  · obtain ⟨v, f, rfl, _⟩ := h
    rfl
  · obtain ⟨v, so, rfl, hv, k⟩ := h
    refine ⟨_, (pss_one (ps_ret (pe_ifExp (pt_cmpR op_eq (pv 1) pe_str (nomark _)) (pcal c_is_word hr (by decide) (by rfl) (pa_cons (pv 0) pa_nil)) (pcal c_is_number hr (by decide) (by rfl) (pa_cons (pv 0) pa_nil))))), ?_⟩
    rcases hv with ⟨rfl, x, rfl, hx⟩ | ⟨rfl, i, rfl, hi⟩
    · exact ⟨_, rfl, rfl, _, rfl, iteT ⟨_, rfl, x, rfl, hx, k⟩⟩
    · exact ⟨_, rfl, rfl, _, rfl, iteF ⟨_, rfl, i, rfl, hi, k⟩⟩
theorem ok_width (T : Top K mg) : Prp P w K mg base CX0 1 (cK K) "width" (sp_width K) := by
  have nd := sc_Kind_width.nd
  refine prp_of (ps := P_Kind_width) T.p_Kind_width (fun _ _ _ _ _ _ us hl => match us, hl with | [_], _ => rfl) sc_Kind_width (fun vs H Q E h => ?_) (fun f cdv A outer s H vs Q E hr h => ?_)
  · obtain ⟨v, f, rfl, _⟩ := h
    rfl
  · obtain ⟨v, kn, rfl, ⟨p, dx, t1, t2, xs, rfl, hp, _⟩, k⟩ := h
    refine ⟨_, (pss_one (ps_ret (pe_fld (pv 0) rfl))), ?_⟩
    exact ⟨_, rfl, p, _, dx, _, _, rfl, hp, T.k_Kind, T.n_own_width, kfs_width _ _ _, k _ (Same.refl H)⟩
theorem ok_fields (T : Top K mg) : Met P w K mg base CX0 1 (cK K) "fields" (sp_fields K) := by
  have nd := sc_Kind_fields.nd
  refine met_of (ps := P_Kind_fields) T.m_Kind_fields (fun _ _ _ _ _ _ us hl => match us, hl with | [_], _ => rfl) sc_Kind_fields (fun vs H Q E h => ?_) (fun f cdv A outer s H vs Q E hr h => ?_)
  · obtain ⟨B, v, f, rfl, _⟩ := h
    rfl
  · obtain ⟨B, v, kn, rfl, sB, ⟨p, dx, t1, t2, xs, rfl, hp, h1, h2, h3⟩, k⟩ := h
    refine ⟨_, (pss_one (ps_ret (pe_callTy call_list_of (by rfl) T.f_list (by decide +kernel) (pa_cons (pe_fld (pv 0) rfl) pa_nil)))), ?_⟩
    refine ⟨_, rfl, p, _, dx, _, _, rfl, sB _ _ hp, T.k_Kind, T.n_own_fields, kfs_fields _ _ _, t1, _, rfl, .inr (SqT.of (sB _ _ h1)), fun q hq => ?_⟩
    exact k q xs _ (same_new hq) hq upd_same h2
theorem ok_answers (T : Top K mg) : Met P w K mg base CX0 1 (cK K) "answers" (sp_answers K) := by
  have nd := sc_Kind_answers.nd
  refine met_of (ps := P_Kind_answers) T.m_Kind_answers (fun _ _ _ _ _ _ us hl => match us, hl with | [_], _ => rfl) sc_Kind_answers (fun vs H Q E h => ?_) (fun f cdv A outer s H vs Q E hr h => ?_)
  · obtain ⟨v, f, rfl, _⟩ := h
    rfl
  · obtain ⟨v, kn, rfl, ⟨p, dx, t1, t2, xs, rfl, hp, h1, h2, h3⟩, k⟩ := h
    refine ⟨_, (pss_one (ps_ret (pe_callTy call_list_of (by rfl) T.f_list (by decide +kernel) (pa_cons (pe_fld (pv 0) rfl) pa_nil)))), ?_⟩
    refine ⟨_, rfl, p, _, dx, _, _, rfl, hp, T.k_Kind, T.n_own_answers, kfs_answers _ _ _, t2, _, rfl, .inr (SqT.of h3), fun q hq => ?_⟩
    exact k q _ (same_new hq) hq upd_same
theorem ok_names (T : Top K mg) : Met P w K mg base CX0 1 (cK K) "names" (sp_names K) := by
  have nd := sc_Kind_names.nd
  refine met_of (ps := P_Kind_names) T.m_Kind_names (fun _ _ _ _ _ _ us hl => match us, hl with | [_], _ => rfl) sc_Kind_names (fun vs H Q E h => ?_) (fun f cdv A outer s H vs Q E hr h => ?_)
  · obtain ⟨v, f, rfl, _⟩ := h
    rfl
  · obtain ⟨v, kn, rfl, ⟨p, dx, t1, t2, xs, rfl, hp, h1, h2, h3⟩, hz, k⟩ := h
    refine ⟨_, (pss_one (ps_ret (pe_lc (own := [("name", 1), ("sort", 2)]) (g := (gTup K 2 (gCons (gName 1) (gCons (gName 2) gNil)))) (tt := tYes) rfl nd (pi_tup (pe_fld (pv 0) rfl)) (blkOk_by (own := [("name", 1), ("sort", 2)]) (N := N_Kind_names) (sc := defScope s_Kind_names) (by decide +kernel)) (fun _ _ _ _ _ => (pg_tup rfl (pgs_cons (pg_name (i := 1) nd rfl (by first | exact Or.inl rfl | exact Or.inr rfl)) (pgs_cons (pg_name (i := 2) nd rfl (by first | exact Or.inl rfl | exact Or.inr rfl)) pgs_nil)))) (fun _ _ _ _ _ => pts_nil) (fun _ _ _ _ _ => (pv 1))))), ?_⟩
    refine ⟨_, rfl, p, _, dx, _, _, rfl, hp, T.k_Kind, T.n_own_fields, kfs_fields _ _ _, t1, rfl, ⟨_, SqT.of h1⟩, fun D hD => ?_⟩
    refine lc_it (walk_tup (xs := xs)) (fun i H' => Same H H' ∧ H' D = some (.lst ((kn.fields.take i).map fun f => V.str f.1))) ⟨same_new hD, upd_same⟩ (fun i H' _ p => SqT.of (p.1 _ _ h1)) ?_ ?_
    · rintro i v H1 H2 hi ⟨s1, hd⟩ ⟨rfl, hv⟩
      obtain ⟨f, hf, a, rfl, hT⟩ := paired_at h2 hv
      refine ⟨a, _, rfl, same_tup s1 hT, rfl, _, _, rfl, _, _, rfl, rfl, rfl, yesT (iteT ?_)⟩
      refine ⟨_, rfl, _, hd, ?_, fun b o e => ?_, ?_⟩
      · rw [List.length_map, List.length_take]
        exact Nat.lt_of_le_of_lt (Nat.min_le_right _ _) (Nat.lt_of_le_of_lt hz (by decide))
      · rw [upd_ne (ne_of_none e hD)]
        exact s1 b o e
      · rw [upd_same, take_succ_of hf, List.map_append]
        rfl
    · rintro H1 ⟨s1, hd⟩
      rw [h2.length, List.take_length] at hd
      exact k D _ s1 hD hd
end
end K5
set_option Elab.async false
set_option linter.all false
set_option maxRecDepth 100000
set_option maxHeartbeats 2000000
namespace K5
open PySem PySem.Spec PyProof.Rows L2
theorem all_map_true {α : Type} (l : List α) : (l.map fun _ => true).all id = true := by simp
theorem small_take {α : Type} {l : List α} {i : Nat} {b : Nat} {f : α → V} (h : l.length ≤ b) (hb : b < sizeLine) : ((l.take i).map f).length < sizeLine := by
  rw [List.length_map, List.length_take]
  exact Nat.lt_of_le_of_lt (Nat.min_le_right _ _) (Nat.lt_of_le_of_lt h hb)
/-- a list under way: one more -/
theorem grow_same {H H2 : Hp} {D : Addr} {o : HO} (hD : H D = none) (s : Same H H2) : Same H (upd H2 D o) := fun b u e => by
  rw [upd_ne (ne_of_none e hD)]
  exact s b u e
section
variable {P : Program} {w : World} {K : PySem.W.Frag} {mg : Str → Option Value} {base : Heap}
theorem ok_are_fields (T : Top K mg) (c_is_sequence : Cal P w K mg base CX0 1 "is_sequence" (sp_is_sequence K)) (c_is_field : Cal P w K mg base CX0 2 "is_field" (sp_is_field K)) (c_all_unlike : Cal P w K mg base CX0 1 "all_unlike" (sp_all_unlike K)) :
    Cal P w K mg base CX0 3 "are_fields" (sp_are_fields K) := by
  have nd := sc_are_fields.nd
  refine cal_of (ps := P_are_fields) T.d_are_fields (fun _ _ _ _ _ _ us hl => match us, hl with | [_], _ => rfl) sc_are_fields (fun vs H Q E h => ?_) (fun f cdv A outer s H vs Q E hr h => ?_)
  · obtain ⟨v, fs, rfl, _⟩ := h
    rfl
  · obtain ⟨v, fs, rfl, ⟨a, xs, rfl, hs, hp⟩, ⟨h4, hf, hn⟩, k⟩ := h
    refine ⟨_, (pss_cons (ps_if (PW.pt (pw_or (pt_not (pt_val (pcal c_is_sequence hr (by decide) (by rfl) (pa_cons (pv 0) pa_nil)))) (pw_or (pt_cmpR op_gt (pe_callB call_len_seq (by rfl) T.f_len (by decide +kernel) (pa_cons (pv 0) pa_nil)) (gc rfl T.c_MOST_FIELDS) (nomark _)) (pw_or1 (pt_not (pt_val (pe_callB (cr_all rfl) (by rfl) T.f_all (by decide +kernel) (pa_cons (pe_lc (own := [("field", 1)]) (g := (gName 1)) (tt := tYes) rfl nd (pi_list (pv 0)) (blkOk_by (own := [("field", 1)]) (N := N_are_fields) (sc := defScope s_are_fields) (by decide +kernel)) (fun _ _ _ _ _ => (pg_name (i := 1) nd rfl (by first | exact Or.inl rfl | exact Or.inr rfl))) (fun _ _ _ _ _ => pts_nil) (fun _ _ _ _ _ => (pcal c_is_field hr (by decide) (by rfl) (pa_cons (pv 1) pa_nil)))) pa_nil)))))))) (pss_one (ps_ret pe_bl)) pss_nil)
    (pss_one (ps_ret (pcal c_all_unlike hr (by decide) (by rfl) (pa_cons (pe_lc (own := [("field", 1)]) (g := (gName 1)) (tt := tYes) rfl nd (pi_list (pv 0)) (blkOk_by (own := [("field", 1)]) (N := N_are_fields) (sc := defScope s_are_fields) (by decide +kernel)) (fun _ _ _ _ _ => (pg_name (i := 1) nd rfl (by first | exact Or.inl rfl | exact Or.inr rfl))) (fun _ _ _ _ _ => pts_nil) (fun _ _ _ _ _ => (pe_ix (ix_tupK (K := K)) (pv 1) pe_int (fun _ _ => rfl)))) pa_nil))))), ?_⟩
    have hl := hp.length
    refine ⟨_, rfl, a, _, rfl, .inl hs, fun H1 s1 => ⟨true, rfl, iteF ?_⟩⟩
    refine ⟨_, rfl, a, _, rfl, .inl (s1.seq hs), _, _, rfl, rfl, _, rfl, ?_⟩
    rw [decide_eq_false (show ¬ (4 : Int) < (xs.length : Int) by rw [hl]; omega)]
    refine iteF ?_
    refine ⟨_, rfl, a, rfl, ⟨_, s1.seq hs⟩, fun D hD => ?_⟩
    have s2 := s1.trans (same_new (o := .lst []) hD)
    refine lc_it (walk_list (xs := xs)) (fun i H' => Same H H' ∧ H' D = some (.lst ((fs.take i).map fun _ => V.bl true))) ⟨s2, upd_same⟩ (fun i H' _ p => p.1.seq hs) ?_ ?_
    · rintro i v H2 H3 hi ⟨s3, hd⟩ ⟨rfl, hv⟩
      obtain ⟨fd, hfd, hA⟩ := paired_at hp hv
      refine ⟨rfl, yesT (iteT ?_)⟩
      refine ⟨_, rfl, v, fd, rfl, FiA.mono _ _ _ _ _ s3 hA, hf fd (List.mem_of_getElem? hfd), fun H4 s4 => ⟨_, s4 _ _ hd, small_take h4 (by decide), grow_same (s1.free hD) (s3.trans s4), ?_⟩⟩
      rw [upd_same, take_succ_of hfd, List.map_append]
      rfl
    · rintro H2 ⟨s3, hd⟩
      rw [hl, List.take_length, show (fs.map fun _ => V.bl true) = (fs.map fun _ => true).map V.bl by rw [List.map_map]; rfl] at hd
      refine ⟨D, _, rfl, SqL.of hd, ?_⟩
      rw [all_map_true]
      refine ⟨true, rfl, iteF ?_⟩
      refine ⟨_, rfl, a, rfl, ⟨_, s3.seq hs⟩, fun D2 hD2 => ?_⟩
      refine lc_it (walk_list (xs := xs)) (fun i H' => Same H H' ∧ H' D2 = some (.lst ((fs.take i).map fun f => V.str f.1))) ⟨s3.trans (same_new hD2), upd_same⟩ (fun i H' _ p => p.1.seq hs) ?_ ?_
      · rintro i v H4 H5 hi ⟨s4, hd4⟩ ⟨rfl, hv⟩
        obtain ⟨fd, hfd, b, rfl, hT⟩ := paired_at hp hv
        refine ⟨rfl, yesT (iteT ?_)⟩
        refine ⟨_, rfl, b, _, _, _, rfl, rfl, same_tup s4 hT, rfl, _, hd4, small_take h4 (by decide), grow_same (s3.free hD2) s4, ?_⟩
        rw [upd_same, take_succ_of hfd, List.map_append]
        rfl
      · rintro H4 ⟨s4, hd4⟩
        rw [hl, List.take_length, show (fs.map fun f => V.str f.1) = (fs.map (·.1)).map V.str by rw [List.map_map]; rfl] at hd4
        exact ⟨D2, fs.map (·.1), rfl, SqL.of hd4, hn, by rw [List.length_map]; omega, fun H5 s5 => k _ (s4.trans s5)⟩
theorem ok_are_answers (T : Top K mg) (c_is_sequence : Cal P w K mg base CX0 1 "is_sequence" (sp_is_sequence K)) (c_is_word : Cal P w K mg base CX0 1 "is_word" sp_is_word) (c_all_unlike : Cal P w K mg base CX0 1 "all_unlike" (sp_all_unlike K)) :
    Cal P w K mg base CX0 2 "are_answers" (sp_are_answers K) := by
  have nd := sc_are_answers.nd
  refine cal_of (ps := P_are_answers) T.d_are_answers (fun _ _ _ _ _ _ us hl => match us, hl with | [_], _ => rfl) sc_are_answers (fun vs H Q E h => ?_) (fun f cdv A outer s H vs Q E hr h => ?_)
  · obtain ⟨a, l, rfl, _⟩ := h
    rfl
  · obtain ⟨a, l, rfl, hs, ⟨h2, h5, hw, hn⟩, k⟩ := h
    refine ⟨_, (pss_cons (ps_if (PW.pt (pw_or (pt_not (pt_val (pcal c_is_sequence hr (by decide) (by rfl) (pa_cons (pv 0) pa_nil)))) (pw_or1 (pt_not (pt_chain op_le op_le pe_int (pe_callB call_len_seq (by rfl) T.f_len (by decide +kernel) (pa_cons (pv 0) pa_nil)) (gc rfl T.c_MOST_ANSWERS)))))) (pss_one (ps_ret pe_bl)) pss_nil)
    (pss_one (ps_ret (pe_and (pe_callB (cr_all rfl) (by rfl) T.f_all (by decide +kernel) (pa_cons (pe_lc (own := [("word", 1)]) (g := (gName 1)) (tt := tYes) rfl nd (pi_list (pv 0)) (blkOk_by (own := [("word", 1)]) (N := N_are_answers) (sc := defScope s_are_answers) (by decide +kernel)) (fun _ _ _ _ _ => (pg_name (i := 1) nd rfl (by first | exact Or.inl rfl | exact Or.inr rfl))) (fun _ _ _ _ _ => pts_nil) (fun _ _ _ _ _ => (pcal c_is_word hr (by decide) (by rfl) (pa_cons (pv 1) pa_nil)))) pa_nil)) (pe_one (pcal c_all_unlike hr (by decide) (by rfl) (pa_cons (pv 0) pa_nil))))))), ?_⟩
    refine ⟨_, rfl, a, _, rfl, .inl hs, fun H1 s1 => ⟨true, rfl, iteF ?_⟩⟩
    refine ⟨_, rfl, a, _, rfl, .inl (s1.seq hs), _, _, rfl, rfl, _, rfl, ?_⟩
    rw [decide_eq_true (show (2 : Int) ≤ ((l.map V.str).length : Int) by rw [List.length_map]; omega)]
    refine iteT ⟨_, _, rfl, rfl, _, rfl, ?_⟩
    rw [decide_eq_true (show ((l.map V.str).length : Int) ≤ 5 by rw [List.length_map]; omega)]
    refine iteF ?_
    refine ⟨_, rfl, a, rfl, ⟨_, s1.seq hs⟩, fun D hD => ?_⟩
    have s2 := s1.trans (same_new (o := .lst []) hD)
    refine lc_it (walk_list (xs := l.map V.str)) (fun i H' => Same H H' ∧ H' D = some (.lst ((l.take i).map fun _ => V.bl true))) ⟨s2, upd_same⟩ (fun i H' _ p => p.1.seq hs) ?_ ?_
    · rintro i v H2 H3 hi ⟨s3, hd⟩ ⟨rfl, hv⟩
      obtain ⟨x, hx, rfl⟩ := at_strs hv
      refine ⟨rfl, yesT (iteT ?_)⟩
      refine ⟨_, rfl, x, rfl, hw x (List.mem_of_getElem? hx), fun H4 s4 => ⟨_, s4 _ _ hd, small_take h5 (by decide), grow_same (s1.free hD) (s3.trans s4), ?_⟩⟩
      rw [upd_same, take_succ_of hx, List.map_append]
      rfl
    · rintro H2 ⟨s3, hd⟩
      rw [List.length_map, List.take_length, show (l.map fun _ => V.bl true) = (l.map fun _ => true).map V.bl by rw [List.map_map]; rfl] at hd
      refine ⟨D, _, rfl, SqL.of hd, ?_⟩
      rw [all_map_true]
      exact ⟨true, rfl, iteT ⟨_, rfl, a, l, rfl, s3.seq hs, hn, by omega, fun H5 s5 => k _ (s3.trans s5)⟩⟩
theorem ok_sort_of (T : Top K mg) : Met P w K mg base CX0 1 (cK K) "sort_of" (sp_sort_of K) := by
  have nd := sc_Kind_sort_of.nd
  refine met_of (ps := P_Kind_sort_of) T.m_Kind_sort_of (fun _ _ _ _ _ _ us hl => match us, hl with | [_, _], _ => rfl) sc_Kind_sort_of (fun vs H Q E h => ?_) (fun f cdv A outer s H vs Q E hr h => ?_)
  · obtain ⟨v, kn, n, so, rfl, _⟩ := h
    rfl
  · obtain ⟨v, kn, n, so, rfl, ⟨p, dx, t1, t2, xs, rfl, hp, h1, h2, h3⟩, hm, hn, k⟩ := h
    refine ⟨_, (pss_cons (ps_for PassesOwn.never rfl (pi_tup (pe_fld (pv 0) rfl)) (pg_tup rfl (pgs_cons (pg_name (i := 2) nd rfl (by first | exact Or.inl rfl | exact Or.inr rfl)) (pgs_cons (pg_name (i := 3) nd rfl (by first | exact Or.inl rfl | exact Or.inr rfl)) pgs_nil))) (pss_one (ps_if (PW.pt (pw_and (pt_val (pe_callB call_isi (by rfl) T.f_isinstance (by decide +kernel) (pa_cons (pv 1) (pa_cons (pe_bltn (v := .ty "str") (by rfl) T.f_str boot_str rfl) pa_nil)))) (pw_and1 (pt_cmpR op_eq (pv 2) (pv 1) (nomark _))))) (pss_one (ps_ret (pv 3))) pss_nil)))
    (pss_one (ps_ret pe_non))), ?_⟩
    refine ⟨_, rfl, p, _, dx, _, _, rfl, hp, T.k_Kind, T.n_own_fields, kfs_fields _ _ _, t1, rfl, ⟨_, SqT.of h1⟩, ?_⟩
    refine for_it (walk_tup (xs := xs)) (fun i σ H' => (∃ v1 v2, σ = [some (.ref p), some (.str n), v1, v2]) ∧ Same H H' ∧ (n, so) ∉ kn.fields.take i) ⟨⟨_, _, rfl⟩, Same.refl H, by simp⟩ (fun i σ H' _ q => SqT.of (q.2.1 _ _ h1)) ?_ ?_
    · rintro i v σ H1 H2 hi ⟨⟨v1, v2, rfl⟩, s1, no⟩ ⟨rfl, hv⟩
      obtain ⟨⟨m, so2⟩, hf, a, rfl, hT⟩ := paired_at h2 hv
      refine ⟨a, _, rfl, same_tup s1 hT, rfl, _, _, rfl, _, _, rfl, rfl, ?_⟩
      refine ⟨_, rfl, _, _, _, _, true, rfl, .ty _, .base (.str n), kit_ty (by decide +kernel), _, rfl, iteT ?_⟩
      refine ⟨_, rfl, _, rfl, rfl, _, rfl, ?_⟩
      by_cases e : m = n
      · subst e
        rw [decide_eq_true rfl]
        refine iteT ⟨_, rfl, ?_⟩
        rw [nodup_key hn hm (List.mem_of_getElem? hf)] at k
        exact k _ s1
      · rw [decide_eq_false (fun z => e (V.str.inj z))]
        refine iteF ⟨⟨_, _, rfl⟩, s1, ?_⟩
        rw [take_succ_of hf, List.mem_append, List.mem_singleton]
        rintro (z | z)
        · exact no z
        · rw [Prod.mk.injEq] at z
          exact e z.1.symm
    · rintro σ H1 ⟨_, s1, no⟩
      rw [h2.length, List.take_length] at no
      exact absurd hm no
theorem nodup_at {l : List (Str × Str)} (hn : (l.map (·.1)).Nodup) {j m : Nat} {n : Str} {x y : Str} (h1 : l[j]? = some (n, x)) (h2 : l[m]? = some (n, y)) : m = j := by
  have e1 : (l.map (·.1))[j]? = some n := by rw [List.getElem?_map, h1]; rfl
  have e2 : (l.map (·.1))[m]? = some n := by rw [List.getElem?_map, h2]; rfl
  exact nd_ix hn e2 e1
theorem ok_place_of (T : Top K mg) (c_names : Met P w K mg base CX0 1 (cK K) "names" (sp_names K)) : Met P w K mg base CX0 2 (cK K) "place_of" (sp_place_of K) := by
  have nd := sc_Kind_place_of.nd
  refine met_of (ps := P_Kind_place_of) T.m_Kind_place_of (fun _ _ _ _ _ _ us hl => match us, hl with | [_, _], _ => rfl) sc_Kind_place_of (fun vs H Q E h => ?_) (fun f cdv A outer s H vs Q E hr h => ?_)
  · obtain ⟨v, kn, n, so, rfl, _⟩ := h
    rfl
  · obtain ⟨v, kn, n, j, rfl, hK, ⟨h4, _, hn⟩, ⟨so, hj⟩, k⟩ := h
    have hK' := hK
    obtain ⟨p, dx, t1, t2, xs, rfl, hp, h1, h2, h3⟩ := hK'
    refine ⟨_, (pss_one (ps_ret (pe_bm PySem.F.plainAttrs_list PySem.F.slot_list_index PySem.F.type_list_index mt_index (pmet0 c_names hr (by decide) T.k_Kind (pv 0)) (pa_cons (pv 1) pa_nil)))), ?_⟩
    refine ⟨_, rfl, p, dx, _, rfl, hp, kfs_no _ _ _ (by decide +kernel), _, kn, rfl, hK, h4, fun q H1 s1 hq hL => ?_⟩
    refine ⟨.inl ⟨rfl, _, SqL.of hL⟩, _, rfl, q, _, _, j, .str n, rfl, rfl, SqL.of hL, rfl, ?_, ?_, ?_, ?_, k _ s1⟩
    · rw [List.all_map, List.all_eq_true]
      intro x _
      rfl
    · rw [List.getElem?_map, hj]
      rfl
    · show ((n == n) = true)
      exact beq_self_eq_true n
    · intro m z hm hz
      rw [List.getElem?_map] at hz
      cases e : kn.fields[m]? with
      | none =>
        rw [e] at hz
        cases hz
      | some f =>
        rw [e] at hz
        obtain rfl : V.str f.1 = z := Option.some.inj hz
        show (f.1 == n) = false
        refine beq_eq_false_iff_ne.mpr fun q => ?_
        have : m = j := nodup_at hn hj (by rw [e, ← q])
        omega
theorem ok_is_test (T : Top K mg) (c_sort_of : Met P w K mg base CX0 1 (cK K) "sort_of" (sp_sort_of K)) (c_is_value : Cal P w K mg base CX0 3 "is_value" sp_is_value) : Met P w K mg base CX0 4 (cK K) "is_test" (sp_is_test K) := by
  have nd := sc_Kind_is_test.nd
  refine met_of (ps := P_Kind_is_test) T.m_Kind_is_test (fun _ _ _ _ _ _ us hl => match us, hl with | [_, _], _ => rfl) sc_Kind_is_test (fun vs H Q E h => ?_) (fun f cdv A outer s H vs Q E hr h => ?_)
  · obtain ⟨v, kn, n, so, rfl, _⟩ := h
    rfl
  · obtain ⟨v, kn, u, ⟨n, op, va⟩, rfl, hK, kok, ⟨a, rfl, hT⟩, ⟨so, hm, hv, ho⟩, k⟩ := h
    have hK' := hK
    obtain ⟨p, dx, t1, t2, xs, rfl, hp, h1, h2, h3⟩ := hK'
    refine ⟨_, (pss_cons (ps_if (PW.pt (pw_or (pt_not (pt_val (pe_callB call_isi (by rfl) T.f_isinstance (by decide +kernel) (pa_cons (pv 1) (pa_cons (pe_bltn (v := .ty "tuple") (by rfl) T.f_tuple boot_tuple rfl) pa_nil))))) (pw_or (pt_cmpR op_ne (pe_callB call_len_seq (by rfl) T.f_len (by decide +kernel) (pa_cons (pv 1) pa_nil)) pe_int (nomark _)) (pw_or1 (pt_not (pt_val (pe_callB call_isi (by rfl) T.f_isinstance (by decide +kernel) (pa_cons (pe_ix ix_tup (pv 1) pe_int (fun _ _ => rfl)) (pa_cons (pe_bltn (v := .ty "str") (by rfl) T.f_str boot_str rfl) pa_nil))))))))) (pss_one (ps_ret pe_bl)) pss_nil)
    (pss_cons (ps_set (i := 2) nd rfl (by first | exact Or.inl rfl | exact Or.inr rfl) (pmet c_sort_of hr (by decide) T.k_Kind (pv 0) (pa_cons (pe_ix ix_tup (pv 1) pe_int (fun _ _ => rfl)) pa_nil)))
    (pss_cons (ps_if (pt_cmpR op_isN (pv 2) pe_non (nomark _)) (pss_one (ps_ret pe_bl)) pss_nil)
    (pss_one (ps_ret (pe_and (pe_cmpR op_in_seq (pe_ix ix_tup (pv 1) pe_int (fun _ _ => rfl)) (pe_ifExp (pt_cmpR op_eq (pv 2) pe_str (nomark _)) (gc rfl T.c_WORD_OPERATORS) (gc rfl T.c_NUMBER_OPERATORS)) (by rfl)) (pe_one (pcal c_is_value hr (by decide) (by rfl) (pa_cons (pe_ix ix_tup (pv 1) pe_int (fun _ _ => rfl)) (pa_cons (pv 2) pa_nil)))))))))), ?_⟩
    have tt : ∀ {H' : Hp}, Same H H' → TyX K H' (.ref a) (.type "tuple") := fun s1 => ty_seqT (same_tup s1 hT)
    have so1 : so = "word" ∨ so = "number" := by
      rcases hv with ⟨e, _⟩ | ⟨e, _⟩
      · exact .inl e
      · exact .inr e
    refine ⟨_, rfl, _, _, _, _, true, rfl, .ty _, tt (Same.refl H), kit_ty (by decide +kernel), _, rfl, iteF ?_⟩
    refine ⟨_, rfl, a, _, rfl, .inr hT, rfl, _, rfl, iteF ?_⟩
    refine ⟨_, rfl, a, _, _, _, rfl, rfl, hT, rfl, _, _, _, _, true, rfl, .ty _, .base (.str op), kit_ty (by decide +kernel), _, rfl, iteF ?_⟩
    refine ⟨_, rfl, p, dx, _, rfl, hp, kfs_no _ _ _ (by decide +kernel), _, rfl, a, _, _, _, rfl, rfl, hT, rfl, _, kn, n, so, rfl, hK, hm, kok.fs.2.2, fun H1 s1 => ?_⟩
    refine ⟨_, rfl, rfl, _, rfl, iteF ?_⟩
    refine ⟨_, rfl, a, _, _, _, rfl, rfl, same_tup s1 hT, rfl, _, rfl, rfl, _, rfl, ?_⟩
    have e2 : ∀ {l : List Str} {H' : Hp}, op ∈ l → inV (.str op) (l.map V.str) = true := fun {l H'} h => by
      rw [inV_strs]
      exact decide_eq_true h
    have ho2 : (so = "word" ∧ (op = "is" ∨ op = "not")) ∨ (so = "number" ∧ (op = "most" ∨ op = "least")) := ho
    clear ho
    rcases ho2 with ⟨rfl, ho⟩ | ⟨rfl, ho⟩
    · refine iteT ⟨_, _, rfl, .inr (T.t_WORD_OPERATORS H1), rfl, rfl, ?_⟩
      have e3 : inV (.str op) [.str "is", .str "not"] = true := e2 (l := ["is", "not"]) (H' := H) (by rcases ho with e | e <;> rw [e] <;> simp)
      rw [e3]
      exact ⟨true, rfl, iteT ⟨_, rfl, a, _, _, _, rfl, rfl, same_tup s1 hT, rfl, _, rfl, va, _, rfl, hv, fun H2 s2 => k _ (s1.trans s2)⟩⟩
    · refine iteF ⟨_, _, rfl, .inr (T.t_NUMBER_OPERATORS H1), rfl, rfl, ?_⟩
      have e3 : inV (.str op) [.str "most", .str "least"] = true := e2 (l := ["most", "least"]) (H' := H) (by rcases ho with e | e <;> rw [e] <;> simp)
      rw [e3]
      exact ⟨true, rfl, iteT ⟨_, rfl, a, _, _, _, rfl, rfl, same_tup s1 hT, rfl, _, rfl, va, _, rfl, hv, fun H2 s2 => k _ (s1.trans s2)⟩⟩
end
end K5
set_option Elab.async false
set_option linter.all false
set_option maxRecDepth 100000
set_option maxHeartbeats 2000000
namespace K5
open PySem PySem.Spec PyProof.Rows L2
abbrev N_Kind___init__ : List Str := ["self", "fields", "answers", "width"]
abbrev P_Kind___init__ : List Str := ["self", "fields", "answers", "width"]
theorem sc_Kind___init__ : FnScope N_Kind___init__ P_Kind___init__ (defScope s_Kind___init__) := ⟨rfl, rfl, rfl, by decide +kernel, rfl, by decide +kernel, by decide +kernel⟩
/-- the maker of kinds: two arguments, the width by name -/
structure MkKind (P : Program) (w : World) (K : PySem.W.Frag) (mg : Str → Option Value) (base : Heap) (k : Nat) (sp : Sp) : Prop where
  ex : ∃ f fd, Mk K (cK K) f ∧ FnOk P w K mg base CX0 k f fd P_Kind___init__ sp ∧ ∃ mv : List Value, KBn K fd P_Kind___init__ 3 ["width"] (fun us ws => us ++ ws) (fun vs zs => vs ++ zs)
/-- a thing made at p by its class -/
structure Ini (p : Addr) (B H B' H' : Hp) : Prop where
  hh : ∀ b o, b ≠ p → H b = some o → H' b = some o
  bb : Same B B'
  bh : Same B' H'
  fr : ∀ b o, b ≠ p → H b = some o → B' b = B b
theorem Ini.step {p dx C : Addr} {B H0 B' H' : Hp} (s : Same B H0) (hp : H0 p = none) (hd : H0 dx = none) (h : Ini p B (upd (upd H0 dx (.own p)) p (.ins C dx [])) B' H') : Step B H0 B' H' :=
  ⟨s, fun b o e => h.hh b o (ne_of_none e hp) (by rw [upd_ne (ne_of_none e hp), upd_ne (ne_of_none e hd)]; exact e), h.bb, h.bh, fun b o e => h.fr b o (ne_of_none e hp) (by rw [upd_ne (ne_of_none e hp), upd_ne (ne_of_none e hd)]; exact e)⟩
def sp_kind_init (K : PySem.W.Frag) : Sp := fun vs H Q _ => ∃ B p dx lf xs fs a as wd, vs = [.ref p, .ref lf, .ref a, .int wd] ∧ Same B H ∧ B p = none ∧ H p = some (.ins (cK K) dx []) ∧ SqL K H lf xs ∧ Paired (FiA K B) xs fs ∧ SqL K H a (as.map V.str) ∧ KndOk ⟨fs, as, wd⟩ ∧
  ∀ B' H', Ini p B H B' H' → KdA K B' (.ref p) ⟨fs, as, wd⟩ → Q .non H'
/-- a list, though the thing at p (an instance) is changed -/
theorem seq_ins {K : PySem.W.Frag} {H H' : Hp} {p C dx : Addr} {fs : List (Str × V)} {a : Addr} {xs : List V} (hp : H p = some (.ins C dx fs)) (e : ∀ b o, b ≠ p → H b = some o → H' b = some o) (h : SqL K H a xs) : SqL K H' a xs := by
  rcases h with (h | ⟨o, h⟩) | h
  · exact .inl (.inl (e _ _ (fun z => by rw [z, hp] at h; cases h) h))
  · exact .inl (.inr ⟨o, e _ _ (fun z => by rw [z, hp] at h; cases h) h⟩)
  · exact .inr h
theorem putF_len (f : Str) (v : V) : ∀ fs : List (Str × V), (putF f v fs).length ≤ fs.length + 1
  | [] => Nat.le_refl _
  | (g, x) :: r => by
    rw [putF]
    split
    · exact Nat.le_succ _
    · exact Nat.succ_le_succ (putF_len f v r)
theorem putF_1 (f : Str) (v : V) : (putF f v []).length < 1000 := Nat.lt_of_le_of_lt (putF_len f v []) (by decide)
theorem putF_2 (f g : Str) (v u : V) : (putF f v (putF g u [])).length < 1000 := Nat.lt_of_le_of_lt (Nat.le_trans (putF_len f v _) (Nat.succ_le_succ (putF_len g u []))) (by decide)
section
variable {P : Program} {w : World} {K : PySem.W.Frag} {mg : Str → Option Value} {base : Heap}
theorem ok_kind_init (T : Top K mg) (c_are_fields : Cal P w K mg base CX0 3 "are_fields" (sp_are_fields K)) (c_are_answers : Cal P w K mg base CX0 2 "are_answers" (sp_are_answers K)) (c_is_integer : Cal P w K mg base CX0 1 "is_integer" (sp_is_integer K)) :
    MkKind P w K mg base 4 (sp_kind_init K) := by
  have nd := sc_Kind___init__.nd
  obtain ⟨f, fd, hM, F⟩ := T.i_Kind
  refine ⟨f, fd, hM, F.ok sc_Kind___init__ (fun vs H Q E h => ?_) fun cdv A outer s H vs Q E hr h => ?_, F.kbinds0 3 ["width"] [] (fun us _ ws => us ++ ws) (by simp) (by simp) (fun r1 _ r3 => Vals.append r1 r3) (fun D doc pm an cdv ct us mv ws l1 l2 l3 => ?_)⟩
  · obtain ⟨B, p, dx, lf, xs, fs, a, as, wd, rfl, _⟩ := h
    rfl
  · obtain ⟨B, p, dx, lf, xs, fs, a, as, wd, rfl, sB, nB, hp, hF1, hF2, hA, ok, k⟩ := h
    refine ⟨_, (pss_cons (ps_if (pt_not (pt_val (pcal c_are_fields hr (by decide) (by rfl) (pa_cons (pv 1) pa_nil)))) (pss_one ps_never) pss_nil)
    (pss_cons (ps_if (pt_not (pt_val (pcal c_are_answers hr (by decide) (by rfl) (pa_cons (pv 2) pa_nil)))) (pss_one ps_never) pss_nil)
    (pss_cons (ps_if (pt_not (pt_val (pcal c_is_integer hr (by decide) (by rfl) (pa_cons (pv 3) (pa_cons pe_int (pa_cons (gc rfl T.c_MOST_WIDTH) pa_nil)))))) (pss_one ps_never) pss_nil)
    (pss_cons (ps_fld (pv 0) (pe_callTy call_tuple_of (by rfl) T.f_tuple (by decide +kernel) (pa_cons (pv 1) pa_nil)) rfl)
    (pss_cons (ps_fld (pv 0) (pe_callTy call_tuple_of (by rfl) T.f_tuple (by decide +kernel) (pa_cons (pv 2) pa_nil)) rfl)
    (pss_one (ps_fld (pv 0) (pv 3) rfl))))))), ?_⟩
    refine ⟨_, rfl, _, fs, rfl, ⟨lf, xs, rfl, hF1, paired_mono FiA.mono sB hF2⟩, ok.fs, fun H1 s1 => ⟨_, rfl, iteF ?_⟩⟩
    refine ⟨_, rfl, a, as, rfl, s1.seq hA, ok.an, fun H2 s2 => ⟨_, rfl, iteF ?_⟩⟩
    refine ⟨_, rfl, _, _, _, rfl, .int wd, fun H3 s3 => ?_⟩
    have s03 := (s1.trans s2).trans s3
    have e : inB (.int wd) 0 2 = true := by simp [inB, ok.w0, ok.w2]
    have hp3 := s03 _ _ hp
    rw [e]
    refine ⟨_, rfl, iteF ?_⟩
    refine ⟨_, rfl, lf, xs, rfl, .inl ⟨s03.seq hF1, fun t1 h1 => ?_⟩⟩
    have p1 : p ≠ t1 := ne_of_none hp3 h1
    refine ⟨_, rfl, p, _, dx, _, rfl, by rw [upd_ne p1]; exact hp3, T.k_Kind, T.n_own_fields, by decide, ?_⟩
    have e4 : ∀ b o, b ≠ p → H3 b = some o → (upd (upd H3 t1 (.tup xs)) p (.ins (cK K) dx (putF "own_fields" (.ref t1) []))) b = some o := fun b o n e => by
      rw [upd_ne n, upd_ne (ne_of_none e h1)]
      exact e
    refine ⟨_, rfl, a, _, rfl, .inl ⟨seq_ins hp3 e4 (s03.seq hA), fun t2 h2 => ?_⟩⟩
    have p2 : p ≠ t2 := fun e => by rw [← e, upd_same] at h2; cases h2
    have t12 : t1 ≠ t2 := fun e => by rw [← e, upd_ne (Ne.symm p1), upd_same] at h2; cases h2
    rw [upd_ne (Ne.symm p2), upd_ne (Ne.symm t12)] at h2
    refine ⟨_, rfl, p, _, dx, _, rfl, by rw [upd_ne p2, upd_same], T.k_Kind, T.n_own_answers, putF_1 _ _, ?_⟩
    refine ⟨_, rfl, _, rfl, p, _, dx, _, rfl, by rw [upd_same], T.k_Kind, T.n_own_width, putF_2 _ _ _ _, ?_⟩
    have fr : ∀ {t : Addr}, H3 t = none → H t = none := fun {t} h => by
      cases q : H t with
      | none => rfl
      | some o => rw [s03 _ _ q] at h; cases h
    have fB : ∀ {t : Addr}, H3 t = none → B t = none := fun {t} h => by
      cases q : B t with
      | none => rfl
      | some o => rw [s03 _ _ (sB _ _ q)] at h; cases h
    have g : ∀ b, (upd (upd (upd (upd (upd H3 t1 (.tup xs)) p (.ins (cK K) dx (putF "own_fields" (.ref t1) []))) t2 (.tup (as.map V.str))) p (.ins (cK K) dx (putF "own_answers" (.ref t2) (putF "own_fields" (.ref t1) []))))
        p (.ins (cK K) dx (putF "own_width" (.int wd) (putF "own_answers" (.ref t2) (putF "own_fields" (.ref t1) []))))) b =
        (upd (upd (upd H3 t1 (.tup xs)) t2 (.tup (as.map V.str))) p (.ins (cK K) dx (kfs t1 t2 wd))) b := fun b => by
      by_cases z : b = p
      · rw [z, upd_same, upd_same]
        rfl
      · rw [upd_ne z, upd_ne z, upd_ne z]
        by_cases z2 : b = t2
        · rw [z2, upd_same, upd_same]
        · rw [upd_ne z2, upd_ne z2, upd_ne z]
    refine k (upd (upd (upd B t1 (.tup xs)) t2 (.tup (as.map V.str))) p (.ins (cK K) dx (kfs t1 t2 wd))) _ ⟨fun b o n e => ?_, fun b o e => ?_, fun b o e => ?_, fun b o n e => ?_⟩ ⟨p, dx, t1, t2, xs, rfl, upd_same, ?_, paired_mono FiA.mono (fun b o e => ?_) hF2, ?_⟩
    · have e3 := s03 _ _ e
      rw [g, upd_ne n, upd_ne (ne_of_none e3 h2), upd_ne (ne_of_none e3 h1)]
      exact e3
    · rw [upd_ne (ne_of_none e nB), upd_ne (ne_of_none e (fB h2)), upd_ne (ne_of_none e (fB h1))]
      exact e
    · rw [g]
      by_cases z : b = p
      · rw [z, upd_same] at e ⊢
        exact e
      · rw [upd_ne z] at e ⊢
        by_cases z2 : b = t2
        · rw [z2, upd_same] at e ⊢
          exact e
        · rw [upd_ne z2] at e ⊢
          by_cases z1 : b = t1
          · rw [z1, upd_same] at e ⊢
            exact e
          · rw [upd_ne z1] at e ⊢
            exact s03 _ _ (sB _ _ e)
    · rw [upd_ne n, upd_ne (ne_of_none e (fr h2)), upd_ne (ne_of_none e (fr h1))]
    · rw [upd_ne (Ne.symm p1), upd_ne t12, upd_same]
    · rw [upd_ne (ne_of_none e nB), upd_ne (ne_of_none e (fB h2)), upd_ne (ne_of_none e (fB h1))]
      exact e
    · rw [upd_ne (Ne.symm p2), upd_same]
  · match us, mv, ws, l1, l2, l3 with
    | [_, _, _], [], [_], _, _, _ => rfl
end
end K5
set_option Elab.async false
set_option linter.all false
set_option maxRecDepth 100000
set_option maxHeartbeats 2000000
/-! Cases, tests, rules in plain. -/
namespace K5
open PySem PySem.Spec PyProof.Rows L2
abbrev Flds := List (Str × Str)
abbrev Cse := List V
/-- whether a value meets a test's sign and value -/
def mt (op : Str) (x y : V) : Bool := match x, y with
  | .str a, .str b => if op = "is" then decide (a = b) else !decide (a = b)
  | .int a, .int b => if op = "most" then decide (a ≤ b) else decide (b ≤ a)
  | _, _ => false
/-- the value of a field -/
def val : Flds → Cse → Str → V
  | f :: fs, x :: c, n => if f.1 = n then x else val fs c n
  | _, _, _ => .non
def meets (fs : Flds) (c : Cse) (t : Tst) : Bool := mt t.2.1 (val fs c t.1) t.2.2
def allm (fs : Flds) (c : Cse) (ts : List Tst) : Bool := ts.all (meets fs c)
/-- the place of the rule that decides -/
def deci (fs : Flds) (c : Cse) : List Rul → Nat
  | [] => 0
  | r :: rs => if allm fs c r.1 then 0 else deci fs c rs + 1
def answ (fs : Flds) (c : Cse) : List Rul → Str
  | [] => ""
  | r :: rs => if allm fs c r.1 then r.2 else answ fs c rs
structure CaseOk (fs : Flds) (c : Cse) : Prop where
  len : c.length = fs.length
  ok : ∀ (i : Nat) (f : Str × Str) (x : V), fs[i]? = some f → c[i]? = some x → ValOk f.2 x
theorem val_at : ∀ {fs : Flds} {c : Cse} {n s : Str} {j : Nat} {x : V}, (fs.map (·.1)).Nodup → fs[j]? = some (n, s) → c[j]? = some x → val fs c n = x
  | [], _, _, _, _, _, _, h, _ => by simp at h
  | f :: fs, [], _, _, _, _, _, _, h => by simp at h
  | f :: fs, y :: c, n, s, 0, x, nd, h1, h2 => by
    simp at h1 h2
    subst h1 h2
    simp [val]
  | f :: fs, y :: c, n, s, j + 1, x, nd, h1, h2 => by
    simp only [List.getElem?_cons_succ] at h1 h2
    rw [List.map_cons, List.nodup_cons] at nd
    have ne : f.1 ≠ n := fun e => nd.1 (List.mem_map.mpr ⟨(n, s), List.mem_of_getElem? h1, e.symm⟩)
    rw [val, if_neg ne]
    exact val_at nd.2 h1 h2
theorem CaseOk.at {fs : Flds} {c : Cse} (h : CaseOk fs c) {j : Nat} {f : Str × Str} (hj : fs[j]? = some f) : ∃ x, c[j]? = some x ∧ ValOk f.2 x := by
  have hl : j < c.length := by
    rw [h.len]
    exact (List.getElem?_eq_some_iff.mp hj).1
  exact ⟨c[j], List.getElem?_eq_getElem hl, h.ok j f _ hj (List.getElem?_eq_getElem hl)⟩
/-- a case's value at a test's field: of the test's sort -/
theorem CaseOk.val {fs : Flds} {c : Cse} (h : CaseOk fs c) (nd : (fs.map (·.1)).Nodup) {n s : Str} (hm : (n, s) ∈ fs) : ValOk s (val fs c n) := by
  obtain ⟨j, hj⟩ := List.getElem?_of_mem hm
  obtain ⟨x, hx, hv⟩ := h.at hj
  rw [val_at nd hj hx]
  exact hv
/-- a rule list's last rule has no tests -/
structure RulsOk (k : Knd) (rs : List Rul) : Prop where
  tst : ∀ r ∈ rs, ∀ t ∈ r.1, TstOk k t
  wid : ∀ r ∈ rs, (r.1.length : Int) ≤ k.width
  ans : ∀ r ∈ rs, r.2 ∈ k.answers
  len : rs.length ≤ 24
  last : ∃ a, rs.getLast? = some ([], a)
theorem RulsOk.pos {k : Knd} {rs : List Rul} (h : RulsOk k rs) : 1 ≤ rs.length := by
  obtain ⟨a, e⟩ := h.last
  cases rs with
  | nil => simp at e
  | cons r rs => simp
/-- some rule decides -/
theorem deci_lt (fs : Flds) (c : Cse) : ∀ {rs : List Rul} {a : Str}, rs.getLast? = some ([], a) → deci fs c rs < rs.length ∧ (rs[deci fs c rs]?).map (·.2) = some (answ fs c rs)
  | [], _, h => by simp at h
  | r :: rs, a, h => by
    by_cases e : allm fs c r.1 = true
    · simp [deci, answ, e]
    · have e : allm fs c r.1 = false := by simpa using e
      cases rs with
      | nil =>
        simp at h
        subst h
        simp [allm] at e
      | cons r2 rs =>
        have ih := deci_lt fs c (rs := r2 :: rs) (a := a) (by simpa using h)
        rw [deci, answ, e]
        simp only [Bool.false_eq_true, if_false, List.length_cons, List.getElem?_cons_succ]
        exact ⟨Nat.succ_lt_succ ih.1, ih.2⟩
def CaA (K : PySem.W.Frag) (B : Hp) (v : V) (c : Cse) : Prop := ∃ a, v = .ref a ∧ SqT K B a c
theorem CaA.mono : Mono CaA := fun _ _ _ _ _ s ⟨a, e, q⟩ => ⟨a, e, same_tup s q⟩
end K5
set_option Elab.async false
set_option linter.all false
set_option maxRecDepth 100000
set_option maxHeartbeats 2000000
namespace K5
open PySem PySem.Spec PyProof.Rows L2
abbrev N_need_kind : List Str := ["kind"]
abbrev P_need_kind : List Str := ["kind"]
theorem sc_need_kind : FnScope N_need_kind P_need_kind (defScope s_need_kind) := ⟨rfl, rfl, rfl, by decide +kernel, rfl, by decide +kernel, by decide +kernel⟩
abbrev N_meets_test : List Str := ["kind", "case", "test", "name", "operator", "value", "own"]
abbrev P_meets_test : List Str := ["kind", "case", "test"]
theorem sc_meets_test : FnScope N_meets_test P_meets_test (defScope s_meets_test) := ⟨rfl, rfl, rfl, by decide +kernel, rfl, by decide +kernel, by decide +kernel⟩
abbrev N_meets_all : List Str := ["kind", "case", "tests", "test"]
abbrev P_meets_all : List Str := ["kind", "case", "tests"]
theorem sc_meets_all : FnScope N_meets_all P_meets_all (defScope s_meets_all) := ⟨rfl, rfl, rfl, by decide +kernel, rfl, by decide +kernel, by decide +kernel⟩
def sp_need_kind (K : PySem.W.Frag) : Sp := fun vs H Q _ => ∃ v k, vs = [v] ∧ KdA K H v k ∧ ∀ H', Same H H' → Q .non H'
def sp_meets_test (K : PySem.W.Frag) : Sp := fun vs H Q _ => ∃ v k u c y t, vs = [v, u, y] ∧ KdA K H v k ∧ FieldsOk k.fields ∧ CaA K H u c ∧ CaseOk k.fields c ∧ TsA K H y t ∧ TstOk k t ∧ ∀ H', Same H H' → Q (.bl (meets k.fields c t)) H'
def sp_meets_all (K : PySem.W.Frag) : Sp := fun vs H Q _ => ∃ v k u c y ts, vs = [v, u, y] ∧ KdA K H v k ∧ FieldsOk k.fields ∧ CaA K H u c ∧ CaseOk k.fields c ∧ TuA TsA K H y ts ∧ ts.length ≤ 60 ∧ (∀ t ∈ ts, TstOk k t) ∧ ∀ H', Same H H' → Q (.bl (allm k.fields c ts)) H'
section
variable {P : Program} {w : World} {K : PySem.W.Frag} {mg : Str → Option Value} {base : Heap}
theorem ok_need_kind (T : Top K mg) : Cal P w K mg base CX0 1 "need_kind" (sp_need_kind K) := by
  have nd := sc_need_kind.nd
  refine cal_of (ps := P_need_kind) T.d_need_kind (fun _ _ _ _ _ _ us hl => match us, hl with | [_], _ => rfl) sc_need_kind (fun vs H Q E h => ?_) (fun f cdv A outer s H vs Q E hr h => ?_)
  · obtain ⟨v, k, rfl, _⟩ := h
    rfl
  · obtain ⟨v, kn, rfl, ⟨p, dx, t1, t2, xs, rfl, hp, _⟩, k⟩ := h
    refine ⟨_, (pss_one (ps_if (pt_not (pt_val (pe_callB call_isi (by rfl) T.f_isinstance (by decide +kernel) (pa_cons (pv 0) (pa_cons (gc (v := .ref (cK K)) rfl ⟨_, T.g_Kind, rfl⟩) pa_nil))))) (pss_one ps_never) pss_nil)), ?_⟩
    refine ⟨_, rfl, _, _, _, _, true, rfl, .own _, T.y_Kind _ _ _ _ hp, T.q_Kind_Kind, _, rfl, iteF ?_⟩
    exact k _ (Same.refl H)
theorem ok_meets_test (T : Top K mg) (c_place_of : Met P w K mg base CX0 2 (cK K) "place_of" (sp_place_of K)) : Cal P w K mg base CX0 3 "meets_test" (sp_meets_test K) := by
  have nd := sc_meets_test.nd
  refine cal_of (ps := P_meets_test) T.d_meets_test (fun _ _ _ _ _ _ us hl => match us, hl with | [_, _, _], _ => rfl) sc_meets_test (fun vs H Q E h => ?_) (fun f cdv A outer s H vs Q E hr h => ?_)
  · obtain ⟨v, k, u, c, y, t, rfl, _⟩ := h
    rfl
  · obtain ⟨v, kn, u, c, y, t, rfl, hK, fok, ⟨ua, rfl, hU⟩, hc, ⟨ya, rfl, hY⟩, ht, k⟩ := h
    refine ⟨_, (pss_cons (ps_asg (pv 2) (pg_tup rfl (pgs_cons (pg_name (i := 3) nd rfl (by first | exact Or.inl rfl | exact Or.inr rfl)) (pgs_cons (pg_name (i := 4) nd rfl (by first | exact Or.inl rfl | exact Or.inr rfl)) (pgs_cons (pg_name (i := 5) nd rfl (by first | exact Or.inl rfl | exact Or.inr rfl)) pgs_nil)))))
    (pss_cons (ps_set (i := 6) nd rfl (by first | exact Or.inl rfl | exact Or.inr rfl) (pe_ix ix_tup (pv 1) (pmet c_place_of hr (by decide) T.k_Kind (pv 0) (pa_cons (pv 3) pa_nil)) (fun _ _ => rfl)))
    (pss_cons (ps_if (pt_cmpR op_eq (pv 4) pe_str (nomark _)) (pss_one (ps_ret (pe_cmpR op_eq (pv 6) (pv 5) (nomark _)))) pss_nil)
    (pss_cons (ps_if (pt_cmpR op_eq (pv 4) pe_str (nomark _)) (pss_one (ps_ret (pe_cmpR op_ne (pv 6) (pv 5) (nomark _)))) pss_nil)
    (pss_one (ps_ret (pe_ifExp (pt_cmpR op_eq (pv 4) pe_str (nomark _)) (pe_cmpR op_le (pv 6) (pv 5) (nomark _)) (pe_cmpR op_ge (pv 6) (pv 5) (nomark _))))))))), ?_⟩
    have tU : ∀ {H' : Hp}, Same H H' → SqT K H' ua c := fun s1 => same_tup s1 hU
    obtain ⟨n, op, va⟩ := t
    obtain ⟨so, hm, hv, ho⟩ := ht
    obtain ⟨j, hj⟩ := List.getElem?_of_mem hm
    obtain ⟨x, hx, hvx⟩ := hc.at hj
    have ev : val kn.fields c n = x := val_at fok.2.2 hj hx
    have k : ∀ H', Same H H' → Q (.bl (mt op x va)) H' := fun H' s1 => by
      have := k H' s1
      rw [meets, ev] at this
      exact this
    refine ⟨_, rfl, ya, _, rfl, hY, rfl, _, _, rfl, _, _, rfl, _, _, rfl, rfl, ?_⟩
    obtain ⟨p, dx, t1, t2, xs, hv1, hp, h1, h2, h3⟩ := id hK
    subst hv1
    refine ⟨_, rfl, _, rfl, p, dx, _, rfl, hp, kfs_no _ _ _ (by decide +kernel), _, rfl, _, kn, n, j, rfl, hK, fok, ⟨so, hj⟩, fun H1 s1 => ?_⟩
    refine ⟨ua, c, j, x, rfl, rfl, tU s1, atI_nat hx, ?_⟩
    have k := k H1 s1
    have ho2 : (so = "word" ∧ (op = "is" ∨ op = "not")) ∨ (so = "number" ∧ (op = "most" ∨ op = "least")) := ho
    have hvx2 : ValOk so x := hvx
    have hv : ValOk so va := hv
    clear ho ev hj hx hm hY hvx
    rcases ho2 with ⟨rfl, ho⟩ | ⟨rfl, ho⟩
    · rcases hv with ⟨_, b, rfl, _⟩ | ⟨e, _⟩
      · rcases hvx2 with ⟨_, a, rfl, _⟩ | ⟨e, _⟩
        · have k : Q (.bl (if op = "is" then decide (a = b) else !decide (a = b))) H1 := k
          rcases ho with rfl | rfl
          · rw [if_pos rfl] at k
            refine ⟨_, rfl, rfl, _, rfl, iteT ⟨_, rfl, _, rfl, rfl, ?_⟩⟩
            rw [show decide (V.str a = V.str b) = decide (a = b) by simp]
            exact k
          · rw [if_neg (by decide)] at k
            refine ⟨_, rfl, rfl, _, rfl, iteF ⟨_, rfl, rfl, _, rfl, iteT ⟨_, rfl, _, rfl, rfl, ?_⟩⟩⟩
            rw [show decide (V.str a = V.str b) = decide (a = b) by simp]
            exact k
        · exact absurd e (by decide)
      · exact absurd e (by decide)
    · rcases hv with ⟨e, _⟩ | ⟨_, b, rfl, _⟩
      · exact absurd e (by decide)
      · rcases hvx2 with ⟨e, _⟩ | ⟨_, a, rfl, _⟩
        · exact absurd e (by decide)
        · have k : Q (.bl (if op = "most" then decide (a ≤ b) else decide (b ≤ a))) H1 := k
          rcases ho with rfl | rfl
          · rw [if_pos rfl] at k
            exact ⟨_, rfl, rfl, _, rfl, iteF ⟨_, rfl, rfl, _, rfl, iteF ⟨_, rfl, rfl, _, rfl, iteT ⟨_, rfl, _, rfl, a, b, rfl, rfl, k⟩⟩⟩⟩
          · rw [if_neg (by decide)] at k
            exact ⟨_, rfl, rfl, _, rfl, iteF ⟨_, rfl, rfl, _, rfl, iteF ⟨_, rfl, rfl, _, rfl, iteF ⟨_, rfl, _, rfl, a, b, rfl, rfl, k⟩⟩⟩⟩
theorem ok_meets_all (T : Top K mg) (c_meets_test : Cal P w K mg base CX0 3 "meets_test" (sp_meets_test K)) : Cal P w K mg base CX0 4 "meets_all" (sp_meets_all K) := by
  have nd := sc_meets_all.nd
  refine cal_of (ps := P_meets_all) T.d_meets_all (fun _ _ _ _ _ _ us hl => match us, hl with | [_, _, _], _ => rfl) sc_meets_all (fun vs H Q E h => ?_) (fun f cdv A outer s H vs Q E hr h => ?_)
  · obtain ⟨v, k, u, c, y, t, rfl, _⟩ := h
    rfl
  · obtain ⟨v, kn, u, c, y, ts, rfl, hK, fok, hU, hc, ⟨ya, xs, rfl, hY, hP⟩, hl, ht, k⟩ := h
    refine ⟨_, (pss_one (ps_ret (pe_callB (cr_all rfl) (by rfl) T.f_all (by decide +kernel) (pa_cons (pe_lc (own := [("test", 3)]) (g := (gName 3)) (tt := tYes) rfl nd (pi_tup (pv 2)) (blkOk_by (own := [("test", 3)]) (N := N_meets_all) (sc := defScope s_meets_all) (by decide +kernel)) (fun _ _ _ _ _ => (pg_name (i := 3) nd rfl (by first | exact Or.inl rfl | exact Or.inr rfl))) (fun _ _ _ _ _ => pts_nil) (fun _ _ _ _ _ => (pcal c_meets_test hr (by decide) (by rfl) (pa_cons (pv 0) (pa_cons (pv 1) (pa_cons (pv 3) pa_nil)))))) pa_nil)))), ?_⟩
    have hl2 := hP.length
    refine ⟨_, rfl, ya, rfl, ⟨_, hY⟩, fun D hD => ?_⟩
    refine lc_it (walk_tup (xs := xs)) (fun i H' => Same H H' ∧ H' D = some (.lst ((ts.take i).map fun t => V.bl (meets kn.fields c t)))) ⟨same_new hD, upd_same⟩ (fun i H' _ p => same_tup p.1 hY) ?_ ?_
    · rintro i z H1 H2 hi ⟨s1, hd⟩ ⟨rfl, hv⟩
      obtain ⟨t, hf, hT⟩ := paired_at hP hv
      refine ⟨rfl, yesT (iteT ?_)⟩
      refine ⟨_, rfl, _, rfl, _, rfl, v, kn, u, c, z, t, rfl, KdA.mono _ _ _ _ _ s1 hK, fok, CaA.mono _ _ _ _ _ s1 hU, hc, TsA.mono _ _ _ _ _ s1 hT, ht t (List.mem_of_getElem? hf), fun H3 s3 => ?_⟩
      refine ⟨_, s3 _ _ hd, small_take hl (by decide), grow_same hD (s1.trans s3), ?_⟩
      rw [upd_same, take_succ_of hf, List.map_append]
      rfl
    · rintro H1 ⟨s1, hd⟩
      rw [hl2, List.take_length, show (ts.map fun t => V.bl (meets kn.fields c t)) = (ts.map fun t => meets kn.fields c t).map V.bl by rw [List.map_map]; rfl] at hd
      refine ⟨D, _, rfl, SqL.of hd, ?_⟩
      rw [show (ts.map fun t => meets kn.fields c t).all id = allm kn.fields c ts by rw [List.all_map]; rfl]
      exact k _ s1
end
end K5
set_option Elab.async false
set_option linter.all false
set_option maxRecDepth 100000
set_option maxHeartbeats 2000000
namespace K5
open PySem PySem.Spec PyProof.Rows L2
abbrev N_is_answer : List Str := ["kind", "value"]
abbrev P_is_answer : List Str := ["kind", "value"]
theorem sc_is_answer : FnScope N_is_answer P_is_answer (defScope s_is_answer) := ⟨rfl, rfl, rfl, by decide +kernel, rfl, by decide +kernel, by decide +kernel⟩
abbrev N_is_rule : List Str := ["kind", "value", "test"]
abbrev P_is_rule : List Str := ["kind", "value"]
theorem sc_is_rule : FnScope N_is_rule P_is_rule (defScope s_is_rule) := ⟨rfl, rfl, rfl, by decide +kernel, rfl, by decide +kernel, by decide +kernel⟩
abbrev N_are_rules : List Str := ["kind", "value", "rule"]
abbrev P_are_rules : List Str := ["kind", "value"]
theorem sc_are_rules : FnScope N_are_rules P_are_rules (defScope s_are_rules) := ⟨rfl, rfl, rfl, by decide +kernel, rfl, by decide +kernel, by decide +kernel⟩
abbrev N_RuleList___init__ : List Str := ["self", "kind", "rules", "tests", "answer"]
abbrev P_RuleList___init__ : List Str := ["self", "kind", "rules"]
theorem sc_RuleList___init__ : FnScope N_RuleList___init__ P_RuleList___init__ (defScope s_RuleList___init__) := ⟨rfl, rfl, rfl, by decide +kernel, rfl, by decide +kernel, by decide +kernel⟩
abbrev N_RuleList_kind : List Str := ["self"]
abbrev P_RuleList_kind : List Str := ["self"]
theorem sc_RuleList_kind : FnScope N_RuleList_kind P_RuleList_kind (defScope s_RuleList_kind) := ⟨rfl, rfl, rfl, by decide +kernel, rfl, by decide +kernel, by decide +kernel⟩
abbrev N_RuleList_rules : List Str := ["self", "tests", "answer"]
abbrev P_RuleList_rules : List Str := ["self"]
theorem sc_RuleList_rules : FnScope N_RuleList_rules P_RuleList_rules (defScope s_RuleList_rules) := ⟨rfl, rfl, rfl, by decide +kernel, rfl, by decide +kernel, by decide +kernel⟩
abbrev N_RuleList_place_for : List Str := ["self", "case", "index", "tests", "answer"]
abbrev P_RuleList_place_for : List Str := ["self", "case"]
theorem sc_RuleList_place_for : FnScope N_RuleList_place_for P_RuleList_place_for (defScope s_RuleList_place_for) := ⟨rfl, rfl, rfl, by decide +kernel, rfl, by decide +kernel, by decide +kernel⟩
abbrev N_RuleList_answer_for : List Str := ["self", "case"]
abbrev P_RuleList_answer_for : List Str := ["self", "case"]
theorem sc_RuleList_answer_for : FnScope N_RuleList_answer_for P_RuleList_answer_for (defScope s_RuleList_answer_for) := ⟨rfl, rfl, rfl, by decide +kernel, rfl, by decide +kernel, by decide +kernel⟩
/-- the thing at D is changed -/
theorem Step.own {B H B' H' : Hp} {D : Addr} {o : HO} (a : Step B H B' H') (hD : H D = Option.none) (hB : B' D = Option.none) : Step B H B' (upd H' D o) :=
  ⟨a.s0, grow_same hD a.hh, a.bb, fun b u e => by rw [upd_ne (ne_of_none e hB)]; exact a.bh b u e, a.fr⟩
theorem paired_small {α : Type} {F : V → α → Prop} {xs : List V} {l : List α} {i n : Nat} (h : Paired F xs (l.take i)) (hn : l.length ≤ n) (hb : n < sizeLine) : xs.length < sizeLine := by
  rw [h.length, List.length_take]
  exact Nat.lt_of_le_of_lt (Nat.min_le_right _ _) (Nat.lt_of_le_of_lt hn hb)
def rfs (kv : V) (r : Addr) : List (Str × V) := [("own_kind", kv), ("own_rules", .ref r)]
theorem rfs_kind (kv : V) (r : Addr) : (rfs kv r).lookup ("own_kind" : Str) = some kv := rfl
theorem rfs_rules (kv : V) (r : Addr) : (rfs kv r).lookup ("own_rules" : Str) = some (.ref r) := by
  show List.lookup _ _ = _
  simp only [rfs, List.lookup, show (("own_rules" : Str) == "own_kind") = false by decide +kernel, show (("own_rules" : Str) == "own_rules") = true by decide +kernel]
theorem rfs_no (kv : V) (r : Addr) {m : Str} (h : (m == ("own_kind" : Str) || m == ("own_rules" : Str)) = false) : (rfs kv r).lookup m = none := by
  rw [Bool.or_eq_false_iff] at h
  show List.lookup _ _ = _
  simp only [rfs, List.lookup, h.1, h.2]
/-- a rule list -/
def RlA (K : PySem.W.Frag) (B : Hp) (v : V) (k : Knd) (rs : List Rul) : Prop := ∃ p dx kv r xs, v = .ref p ∧ B p = some (.ins (cR K) dx (rfs kv r)) ∧ KdA K B kv k ∧ B r = some (.lst xs) ∧ Paired (RtA K B) xs rs
theorem RlA.mono {K : PySem.W.Frag} {B B' : Hp} {v : V} {k : Knd} {rs : List Rul} (s : Same B B') : RlA K B v k rs → RlA K B' v k rs := fun ⟨p, dx, kv, r, xs, e, h1, h2, h3, h4⟩ => ⟨p, dx, kv, r, xs, e, s _ _ h1, KdA.mono _ _ _ _ _ s h2, s _ _ h3, paired_mono RtA.mono s h4⟩
def sp_is_answer (K : PySem.W.Frag) : Sp := fun vs H Q _ => ∃ v k a, vs = [v, .str a] ∧ KdA K H v k ∧ a ∈ k.answers ∧ ∀ H', Same H H' → Q (.bl true) H'
structure RulOk (k : Knd) (r : Rul) : Prop where
  tst : ∀ t ∈ r.1, TstOk k t
  wid : (r.1.length : Int) ≤ k.width
  ans : r.2 ∈ k.answers
theorem RulsOk.rul {k : Knd} {rs : List Rul} (h : RulsOk k rs) {r : Rul} (hr : r ∈ rs) : RulOk k r := ⟨h.tst r hr, h.wid r hr, h.ans r hr⟩
theorem RulOk.small {k : Knd} (kok : KndOk k) {r : Rul} (h : RulOk k r) : r.1.length ≤ 2 := by
  have := h.wid
  have := kok.w2
  omega
def sp_is_rule (K : PySem.W.Frag) : Sp := fun vs H Q _ => ∃ v k u r, vs = [v, u] ∧ KdA K H v k ∧ KndOk k ∧ RuA K H u r ∧ RulOk k r ∧ ∀ H', Same H H' → Q (.bl true) H'
def sp_are_rules (K : PySem.W.Frag) : Sp := fun vs H Q _ => ∃ v k u rs, vs = [v, u] ∧ KdA K H v k ∧ KndOk k ∧ LiA RuA K H u rs ∧ RulsOk k rs ∧ ∀ H', Same H H' → Q (.bl true) H'
def sp_rules_init (K : PySem.W.Frag) : Sp := fun vs H Q _ => ∃ B p dx kv k a xs rs, vs = [.ref p, kv, .ref a] ∧ Same B H ∧ B p = none ∧ H p = some (.ins (cR K) dx []) ∧ KdA K B kv k ∧ KndOk k ∧ SqL K H a xs ∧ Paired (RuA K B) xs rs ∧ RulsOk k rs ∧
  ∀ B' H', Ini p B H B' H' → RlA K B' (.ref p) k rs → Q .non H'
def sp_kind (K : PySem.W.Frag) : Sp := fun vs H Q _ => ∃ B v k rs, vs = [v] ∧ Same B H ∧ RlA K B v k rs ∧ ∀ kv H', KdA K B kv k → Same H H' → Q kv H'
def sp_rules (K : PySem.W.Frag) : Sp := fun vs H Q _ => ∃ B v k rs, vs = [v] ∧ Same B H ∧ RlA K B v k rs ∧ RulsOk k rs ∧ KndOk k ∧ ∀ q xs B' H', Step B H B' H' → H q = none → B' q = none → H' q = some (.lst xs) → Paired (RuA K B') xs rs → Q (.ref q) H'
def sp_place_for (K : PySem.W.Frag) : Sp := fun vs H Q _ => ∃ v k rs u c, vs = [v, u] ∧ RlA K H v k rs ∧ KndOk k ∧ RulsOk k rs ∧ CaA K H u c ∧ CaseOk k.fields c ∧ ∀ H', Same H H' → Q (.int (deci k.fields c rs : Nat)) H'
def sp_answer_for (K : PySem.W.Frag) : Sp := fun vs H Q _ => ∃ v k rs u c, vs = [v, u] ∧ RlA K H v k rs ∧ KndOk k ∧ RulsOk k rs ∧ CaA K H u c ∧ CaseOk k.fields c ∧ ∀ H', Same H H' → Q (.str (answ k.fields c rs)) H'
section
variable {P : Program} {w : World} {K : PySem.W.Frag} {mg : Str → Option Value} {base : Heap}
theorem ok_is_answer (T : Top K mg) (c_answers : Met P w K mg base CX0 1 (cK K) "answers" (sp_answers K)) : Cal P w K mg base CX0 2 "is_answer" (sp_is_answer K) := by
  have nd := sc_is_answer.nd
  refine cal_of (ps := P_is_answer) T.d_is_answer (fun _ _ _ _ _ _ us hl => match us, hl with | [_, _], _ => rfl) sc_is_answer (fun vs H Q E h => ?_) (fun f cdv A outer s H vs Q E hr h => ?_)
  · obtain ⟨v, k, a, rfl, _⟩ := h
    rfl
  · obtain ⟨v, kn, an, rfl, hK, ha, k⟩ := h
    obtain ⟨p, dx, t1, t2, xs, rfl, hp, h1, h2, h3⟩ := id hK
    refine ⟨_, (pss_one (ps_ret (pe_and (pe_callB call_isi (by rfl) T.f_isinstance (by decide +kernel) (pa_cons (pv 1) (pa_cons (pe_bltn (v := .ty "str") (by rfl) T.f_str boot_str rfl) pa_nil))) (pe_one (pe_cmpR op_in_seq (pv 1) (pmet0 c_answers hr (by decide) T.k_Kind (pv 0)) (by rfl)))))), ?_⟩
    refine ⟨_, rfl, _, _, _, _, true, rfl, .ty _, .base (.str an), kit_ty (by decide +kernel), _, rfl, iteT ?_⟩
    refine ⟨_, rfl, _, rfl, p, dx, _, rfl, hp, kfs_no _ _ _ (by decide +kernel), _, kn, rfl, hK, fun q H1 s1 hq hL => ?_⟩
    refine ⟨q, _, rfl, .inl (SqL.of hL), rfl, flat_strs _, ?_⟩
    rw [inV_strs, decide_eq_true ha]
    exact k _ s1
theorem ok_is_rule (T : Top K mg) (c_is_sequence : Cal P w K mg base CX0 1 "is_sequence" (sp_is_sequence K)) (c_width : Prp P w K mg base CX0 1 (cK K) "width" (sp_width K)) (c_is_test : Met P w K mg base CX0 4 (cK K) "is_test" (sp_is_test K))
    (c_is_answer : Cal P w K mg base CX0 2 "is_answer" (sp_is_answer K)) : Cal P w K mg base CX0 5 "is_rule" (sp_is_rule K) := by
  have nd := sc_is_rule.nd
  refine cal_of (ps := P_is_rule) T.d_is_rule (fun _ _ _ _ _ _ us hl => match us, hl with | [_, _], _ => rfl) sc_is_rule (fun vs H Q E h => ?_) (fun f cdv A outer s H vs Q E hr h => ?_)
  · obtain ⟨v, k, a, r, rfl, _⟩ := h
    rfl
  · obtain ⟨v, kn, u, r, rfl, hK, kok, ⟨ra, tu, rfl, hT, ta, xs, rfl, hL, hP⟩, rok, k⟩ := h
    refine ⟨_, (pss_cons (ps_if (PW.pt (pw_or (pt_not (pt_val (pe_callB call_isi (by rfl) T.f_isinstance (by decide +kernel) (pa_cons (pv 1) (pa_cons (pe_bltn (v := .ty "tuple") (by rfl) T.f_tuple boot_tuple rfl) pa_nil))))) (pw_or (pt_cmpR op_ne (pe_callB call_len_seq (by rfl) T.f_len (by decide +kernel) (pa_cons (pv 1) pa_nil)) pe_int (nomark _)) (pw_or1 (pt_not (pt_val (pcal c_is_sequence hr (by decide) (by rfl) (pa_cons (pe_ix ix_tup (pv 1) pe_int (fun _ _ => rfl)) pa_nil)))))))) (pss_one (ps_ret pe_bl)) pss_nil)
    (pss_cons (ps_if (PW.pt (pw_or (pt_cmpR op_gt (pe_callB call_len_seq (by rfl) T.f_len (by decide +kernel) (pa_cons (pe_ix ix_tup (pv 1) pe_int (fun _ _ => rfl)) pa_nil)) (pprp c_width hr (by decide) T.k_Kind (pv 0)) (nomark _)) (pw_or1 (pt_not (pt_val (pe_callB (cr_all rfl) (by rfl) T.f_all (by decide +kernel) (pa_cons (pe_lc (own := [("test", 2)]) (g := (gName 2)) (tt := tYes) rfl nd (pi_list (pe_ix ix_tup (pv 1) pe_int (fun _ _ => rfl))) (blkOk_by (own := [("test", 2)]) (N := N_is_rule) (sc := defScope s_is_rule) (by decide +kernel)) (fun _ _ _ _ _ => (pg_name (i := 2) nd rfl (by first | exact Or.inl rfl | exact Or.inr rfl))) (fun _ _ _ _ _ => pts_nil) (fun _ _ _ _ _ => (pmet c_is_test hr (by decide) T.k_Kind (pv 0) (pa_cons (pv 2) pa_nil)))) pa_nil))))))) (pss_one (ps_ret pe_bl)) pss_nil)
    (pss_one (ps_ret (pcal c_is_answer hr (by decide) (by rfl) (pa_cons (pv 0) (pa_cons (pe_ix ix_tup (pv 1) pe_int (fun _ _ => rfl)) pa_nil))))))), ?_⟩
    have hl := hP.length
    have tt : ∀ {H' : Hp}, Same H H' → TyX K H' (.ref ra) (.type "tuple") := fun s1 => ty_seqT (same_tup s1 hT)
    obtain ⟨p, dx, t1, t2, zs, rfl, hp, h1, h2, h3⟩ := id hK
    refine ⟨_, rfl, _, _, _, _, true, rfl, .ty _, tt (Same.refl H), kit_ty (by decide +kernel), _, rfl, iteF ?_⟩
    refine ⟨_, rfl, ra, _, rfl, .inr hT, rfl, _, rfl, iteF ?_⟩
    refine ⟨_, rfl, ra, _, _, _, rfl, rfl, hT, rfl, ta, xs, rfl, .inl hL, fun H1 s1 => ⟨_, rfl, iteF ?_⟩⟩
    have hL1 := s1.seq hL
    refine ⟨_, rfl, ra, _, _, _, rfl, rfl, same_tup s1 hT, rfl, ta, xs, rfl, .inl hL1, _, rfl, p, dx, _, rfl, s1 _ _ hp, _, kn, rfl, KdA.mono _ _ _ _ _ s1 hK, fun H2 s2 => ?_⟩
    have s12 := s1.trans s2
    refine ⟨_, _, rfl, rfl, _, rfl, ?_⟩
    rw [decide_eq_false (show ¬ kn.width < (xs.length : Int) by rw [hl]; have := rok.wid; omega)]
    refine iteF ?_
    refine ⟨_, rfl, ra, _, _, _, rfl, rfl, same_tup s12 hT, rfl, ta, rfl, ⟨_, s12.seq hL⟩, fun D hD => ?_⟩
    refine lc_it (walk_list (xs := xs)) (fun i H' => Same H H' ∧ H' D = some (.lst ((r.1.take i).map fun _ => V.bl true))) ⟨s12.trans (same_new hD), upd_same⟩ (fun i H' _ p => p.1.seq hL) ?_ ?_
    · rintro i z H3 H4 hi ⟨s3, hd⟩ ⟨rfl, hv⟩
      obtain ⟨t, hf, hT⟩ := paired_at hP hv
      refine ⟨rfl, yesT (iteT ?_)⟩
      refine ⟨_, rfl, p, dx, _, rfl, s3 _ _ hp, kfs_no _ _ _ (by decide +kernel), _, rfl, _, kn, z, t, rfl, KdA.mono _ _ _ _ _ s3 hK, kok, TsA.mono _ _ _ _ _ s3 hT, rok.tst t (List.mem_of_getElem? hf), fun H5 s5 => ?_⟩
      refine ⟨_, s5 _ _ hd, small_take (rok.small kok) (by decide), grow_same (s12.free hD) (s3.trans s5), ?_⟩
      rw [upd_same, take_succ_of hf, List.map_append]
      rfl
    · rintro H3 ⟨s3, hd⟩
      rw [hl, List.take_length, show (r.1.map fun _ => V.bl true) = (r.1.map fun _ => true).map V.bl by rw [List.map_map]; rfl] at hd
      refine ⟨D, _, rfl, SqL.of hd, ?_⟩
      rw [all_map_true]
      refine ⟨true, rfl, iteF ?_⟩
      exact ⟨_, rfl, _, rfl, ra, _, _, _, rfl, rfl, same_tup s3 hT, rfl, _, kn, r.2, rfl, KdA.mono _ _ _ _ _ s3 hK, rok.ans, fun H4 s4 => k _ (s3.trans s4)⟩
theorem ok_are_rules (T : Top K mg) (c_is_sequence : Cal P w K mg base CX0 1 "is_sequence" (sp_is_sequence K)) (c_is_rule : Cal P w K mg base CX0 5 "is_rule" (sp_is_rule K)) : Cal P w K mg base CX0 6 "are_rules" (sp_are_rules K) := by
  have nd := sc_are_rules.nd
  refine cal_of (ps := P_are_rules) T.d_are_rules (fun _ _ _ _ _ _ us hl => match us, hl with | [_, _], _ => rfl) sc_are_rules (fun vs H Q E h => ?_) (fun f cdv A outer s H vs Q E hr h => ?_)
  · obtain ⟨v, k, a, r, rfl, _⟩ := h
    rfl
  · obtain ⟨v, kn, u, rs, rfl, hK, kok, ⟨la, xs, rfl, hL, hP⟩, rok, k⟩ := h
    refine ⟨_, (pss_cons (ps_if (PW.pt (pw_or (pt_not (pt_val (pcal c_is_sequence hr (by decide) (by rfl) (pa_cons (pv 1) pa_nil)))) (pw_or1 (pt_not (pt_chain op_le op_le pe_int (pe_callB call_len_seq (by rfl) T.f_len (by decide +kernel) (pa_cons (pv 1) pa_nil)) (gc rfl T.c_MOST_RULES)))))) (pss_one (ps_ret pe_bl)) pss_nil)
    (pss_one (ps_ret (pe_and (pe_callB (cr_all rfl) (by rfl) T.f_all (by decide +kernel) (pa_cons (pe_lc (own := [("rule", 2)]) (g := (gName 2)) (tt := tYes) rfl nd (pi_list (pv 1)) (blkOk_by (own := [("rule", 2)]) (N := N_are_rules) (sc := defScope s_are_rules) (by decide +kernel)) (fun _ _ _ _ _ => (pg_name (i := 2) nd rfl (by first | exact Or.inl rfl | exact Or.inr rfl))) (fun _ _ _ _ _ => pts_nil) (fun _ _ _ _ _ => (pcal c_is_rule hr (by decide) (by rfl) (pa_cons (pv 0) (pa_cons (pv 2) pa_nil))))) pa_nil)) (pe_one (pe_cmpR op_eq (pe_callB call_len_seq (by rfl) T.f_len (by decide +kernel) (pa_cons (pe_ix ix_tup (pe_ix ix_list (pv 1) (pe_un un_neg pe_int) (fun _ _ => rfl)) pe_int (fun _ _ => rfl)) pa_nil)) pe_int (nomark _))))))), ?_⟩
    have hl := hP.length
    have h1 := rok.pos
    have h24 := rok.len
    refine ⟨_, rfl, la, _, rfl, .inl hL, fun H1 s1 => ⟨true, rfl, iteF ?_⟩⟩
    refine ⟨_, rfl, la, _, rfl, .inl (s1.seq hL), _, _, rfl, rfl, _, rfl, ?_⟩
    rw [decide_eq_true (show (1 : Int) ≤ (xs.length : Int) by omega)]
    refine iteT ⟨_, _, rfl, rfl, _, rfl, ?_⟩
    rw [decide_eq_true (show (xs.length : Int) ≤ 24 by omega)]
    refine iteF ?_
    refine ⟨_, rfl, la, rfl, ⟨_, s1.seq hL⟩, fun D hD => ?_⟩
    refine lc_it (walk_list (xs := xs)) (fun i H' => Same H H' ∧ H' D = some (.lst ((rs.take i).map fun _ => V.bl true))) ⟨s1.trans (same_new hD), upd_same⟩ (fun i H' _ p => p.1.seq hL) ?_ ?_
    · rintro i z H3 H4 hi ⟨s3, hd⟩ ⟨rfl, hv⟩
      obtain ⟨t, hf, hT⟩ := paired_at hP hv
      refine ⟨rfl, yesT (iteT ?_)⟩
      refine ⟨_, rfl, _, rfl, _, kn, z, t, rfl, KdA.mono _ _ _ _ _ s3 hK, kok, RuA.mono _ _ _ _ _ s3 hT, rok.rul (List.mem_of_getElem? hf), fun H5 s5 => ?_⟩
      refine ⟨_, s5 _ _ hd, small_take h24 (by decide), grow_same (s1.free hD) (s3.trans s5), ?_⟩
      rw [upd_same, take_succ_of hf, List.map_append]
      rfl
    · rintro H3 ⟨s3, hd⟩
      rw [hl, List.take_length, show (rs.map fun _ => V.bl true) = (rs.map fun _ => true).map V.bl by rw [List.map_map]; rfl] at hd
      refine ⟨D, _, rfl, SqL.of hd, ?_⟩
      rw [all_map_true]
      obtain ⟨an, hlast⟩ := rok.last
      rw [List.getLast?_eq_getElem?] at hlast
      obtain ⟨z, hz, ra, u, rfl, hT, ua, us, rfl, hU, hUP⟩ := paired_ta hP hlast
      have hat : atI xs (-1) = some (.ref ra) := by
        have e : xs = xs.dropLast ++ [.ref ra] := by
          have : xs.getLast? = some (.ref ra) := by
            rw [List.getLast?_eq_getElem?, hl]
            exact hz
          have ne : xs ≠ [] := fun e => by rw [e] at this; cases this
          rw [List.getLast?_eq_some_getLast ne] at this
          rw [← Option.some.inj this]
          exact (List.dropLast_concat_getLast ne).symm
        rw [e]
        exact atI_last _ _
      refine ⟨true, rfl, iteT ?_⟩
      cases hUP
      refine ⟨_, rfl, _, rfl, la, xs, _, _, rfl, rfl, s3.seq hL, hat, ra, _, _, _, rfl, rfl, same_tup s3 hT, rfl, ua, _, rfl, .inl (s3.seq hU), rfl, ?_⟩
      exact k _ s3
theorem ok_kind (T : Top K mg) : Prp P w K mg base CX0 1 (cR K) "kind" (sp_kind K) := by
  have nd := sc_RuleList_kind.nd
  refine prp_of (ps := P_RuleList_kind) T.p_RuleList_kind (fun _ _ _ _ _ _ us hl => match us, hl with | [_], _ => rfl) sc_RuleList_kind (fun vs H Q E h => ?_) (fun f cdv A outer s H vs Q E hr h => ?_)
  · obtain ⟨B, v, k, r, rfl, _⟩ := h
    rfl
  · obtain ⟨B, v, kn, rs, rfl, sB, ⟨p, dx, kv, r, xs, rfl, hp, hK, hr', hP⟩, k⟩ := h
    refine ⟨_, (pss_one (ps_ret (pe_fld (pv 0) rfl))), ?_⟩
    exact ⟨_, rfl, p, _, dx, _, _, rfl, sB _ _ hp, T.k_RuleList, T.n_own_kind, rfs_kind _ _, k _ _ hK (Same.refl H)⟩
theorem ok_rules (T : Top K mg) : Met P w K mg base CX0 1 (cR K) "rules" (sp_rules K) := by
  have nd := sc_RuleList_rules.nd
  refine met_of (ps := P_RuleList_rules) T.m_RuleList_rules (fun _ _ _ _ _ _ us hl => match us, hl with | [_], _ => rfl) sc_RuleList_rules (fun vs H Q E h => ?_) (fun f cdv A outer s H vs Q E hr h => ?_)
  · obtain ⟨B, v, k, r, rfl, _⟩ := h
    rfl
  · obtain ⟨B, v, kn, rs, rfl, sB, ⟨p, dx, kv, r, xs, rfl, hp, hK, hr', hP⟩, rok, kok, k⟩ := h
    refine ⟨_, (pss_one (ps_ret (pe_lc (own := [("tests", 1), ("answer", 2)]) (g := (gTup K 2 (gCons (gName 1) (gCons (gName 2) gNil)))) (tt := tYes) rfl nd (pi_list (pe_fld (pv 0) rfl)) (blkOk_by (own := [("tests", 1), ("answer", 2)]) (N := N_RuleList_rules) (sc := defScope s_RuleList_rules) (by decide +kernel)) (fun _ _ _ _ _ => (pg_tup rfl (pgs_cons (pg_name (i := 1) nd rfl (by first | exact Or.inl rfl | exact Or.inr rfl)) (pgs_cons (pg_name (i := 2) nd rfl (by first | exact Or.inl rfl | exact Or.inr rfl)) pgs_nil)))) (fun _ _ _ _ _ => pts_nil) (fun _ _ _ _ _ => (pe_tup (pa_cons (pe_callTy (call_list_ofK (K := K)) (by rfl) T.f_list (by decide +kernel) (pa_cons (pv 1) pa_nil)) (pa_cons (pv 2) pa_nil))))))), ?_⟩
    have hl := hP.length
    refine ⟨_, rfl, p, _, dx, _, _, rfl, sB _ _ hp, T.k_RuleList, T.n_own_rules, rfs_rules _ _, r, rfl, ⟨_, SqL.of (sB _ _ hr')⟩, fun D hD => ?_⟩
    have s0 := Step.tmp (o := .lst []) sB hD
    refine lc_it (walk_list (xs := xs)) (fun i H' => ∃ B' ys, Step B H B' H' ∧ B' D = none ∧ H' D = some (.lst ys) ∧ Paired (RuA K B') ys (rs.take i)) ⟨B, [], s0, sB.free hD, upd_same, .nil⟩ (fun i H' _ ⟨B', ys, st, _⟩ => SqL.of (st.hh _ _ (sB _ _ hr'))) ?_ ?_
    · rintro i z H3 H4 hi ⟨B3, ys, st, nD, hd, hY⟩ ⟨rfl, hv⟩
      obtain ⟨r0, hf, ra, u, rfl, hT, ta, ts, rfl, hU, hUP⟩ := paired_at hP hv
      refine ⟨ra, _, rfl, same_tup (sB.trans st.hh) hT, rfl, _, _, rfl, _, _, rfl, rfl, rfl, yesT (iteT ?_)⟩
      refine ⟨_, rfl, ta, ts, rfl, .inr (same_tup (sB.trans st.hh) hU), fun l hl => ⟨_, rfl, (show 2 ≤ sizeLine by decide), fun q hq => ?_⟩⟩
      have e1 : D ≠ l := ne_of_none hd hl
      have e2 : D ≠ q := ne_of_none (show upd H4 l (.lst ts) D = some (.lst ys) by rw [upd_ne e1]; exact hd) hq
      have a1 := Step.new (o := .lst ts) st.bh hl
      have a2 := Step.new (o := .tup [.ref l, .str r0.2]) a1.bh hq
      have nD2 : upd (upd B3 l (.lst ts)) q (.tup [.ref l, .str r0.2]) D = none := by
        rw [upd_ne e2, upd_ne e1]
        exact nD
      have sb := a1.bb.trans a2.bb
      have e3 : l ≠ q := ne_of_none upd_same hq
      refine ⟨ys, by rw [upd_ne e2, upd_ne e1]; exact hd, paired_small hY rok.len (by decide), _, _, ((st.trans a1).trans a2).own hD nD2, nD2, upd_same, ?_⟩
      rw [take_succ_of hf]
      refine paired_app (paired_mono RuA.mono sb hY) (.cons ⟨q, .ref l, rfl, .inl (.inl upd_same), l, ts, rfl, SqL.of (by rw [upd_ne e3, upd_same]), paired_mono TsA.mono (st.bb.trans sb) hUP⟩ .nil)
    · rintro H3 ⟨B3, ys, st, nD, hd, hY⟩
      rw [hl, List.take_length] at hY
      exact k D ys B3 H3 st hD nD hd hY
theorem deci_at (fs : Flds) (c : Cse) : ∀ {rs : List Rul} {i : Nat} {r : Rul}, rs[i]? = some r → allm fs c r.1 = true → (∀ q ∈ rs.take i, allm fs c q.1 = false) → deci fs c rs = i
  | [], _, _, h, _, _ => by simp at h
  | a :: rs, 0, r, h, hm, _ => by
    simp at h
    subst h
    rw [deci, hm]
    rfl
  | a :: rs, i + 1, r, h, hm, hq => by
    rw [deci, hq a (by simp), deci_at fs c (by simpa using h) hm fun q z => hq q (by simp [z])]
    rfl
theorem all_take_last {rs : List Rul} {a : Str} {fs : Flds} {c : Cse} (h : rs.getLast? = some ([], a)) (hq : ∀ q ∈ rs, allm fs c q.1 = false) : False := by
  have := hq _ (List.mem_of_getLast? h)
  simp [allm] at this
theorem ok_place_for (T : Top K mg) (c_meets_all : Cal P w K mg base CX0 4 "meets_all" (sp_meets_all K)) : Met P w K mg base CX0 5 (cR K) "place_for" (sp_place_for K) := by
  have nd := sc_RuleList_place_for.nd
  refine met_of (ps := P_RuleList_place_for) T.m_RuleList_place_for (fun _ _ _ _ _ _ us hl => match us, hl with | [_, _], _ => rfl) sc_RuleList_place_for (fun vs H Q E h => ?_) (fun f cdv A outer s H vs Q E hr h => ?_)
  · obtain ⟨v, k, rs, u, c, rfl, _⟩ := h
    rfl
  · obtain ⟨v, kn, rs, u, c, rfl, hR, kok, rok, hU, hC, k⟩ := h
    obtain ⟨p, dx, kv, r, xs, rfl, hp, hK, hr', hP⟩ := id hR
    have hl := hP.length
    refine ⟨_, (pss_cons (ps_for PassesOwn.never rfl (pi_enum (by rfl) T.f_enumerate (pa_cons (pe_fld (pv 0) rfl) pa_nil)) (pg_tup rfl (pgs_cons (pg_name (i := 2) nd rfl (by first | exact Or.inl rfl | exact Or.inr rfl)) (pgs_cons (pg_tup rfl (pgs_cons (pg_name (i := 3) nd rfl (by first | exact Or.inl rfl | exact Or.inr rfl)) (pgs_cons (pg_name (i := 4) nd rfl (by first | exact Or.inl rfl | exact Or.inr rfl)) pgs_nil))) pgs_nil))) (pss_one (ps_if (pt_val (pcal c_meets_all hr (by decide) (by rfl) (pa_cons (pe_fld (pv 0) rfl) (pa_cons (pv 1) (pa_cons (pv 3) pa_nil))))) (pss_one (ps_ret (pv 2))) pss_nil)))
    (pss_one ps_never)), ?_⟩
    obtain ⟨an, hlast⟩ := rok.last
    refine ⟨_, rfl, p, _, dx, _, _, rfl, hp, T.k_RuleList, T.n_own_rules, rfs_rules _ _, r, xs, rfl, SqL.of hr', ?_⟩
    refine for_it (walk_enum (xs := xs)) (fun i σ H' => (∃ v1 v2 v3, σ = [some (.ref p), some u, v1, v2, v3]) ∧ Same H H' ∧ ∀ q ∈ rs.take i, allm kn.fields c q.1 = false) ⟨⟨_, _, _, rfl⟩, Same.refl H, by simp⟩ (fun i σ H' _ q => SqL.of (q.2.1 _ _ hr')) ?_ ?_
    · rintro i v σ H1 H2 hi ⟨⟨v1, v2, v3, rfl⟩, s1, no⟩ ⟨Tp, a1, b1, rfl, hTp, rfl, ea, eb⟩
      obtain rfl := Option.some.inj ea
      obtain ⟨r0, hf, ra, tu, rfl, hT, hU2⟩ := paired_at hP eb
      have s2 := s1.trans (same_new (o := .tup [V.int (i : Nat), V.ref ra]) hTp)
      refine ⟨Tp, _, rfl, SqT.of upd_same, rfl, _, _, rfl, _, _, rfl, ⟨ra, _, rfl, same_tup s2 hT, rfl, _, _, rfl, _, _, rfl, rfl, ?_⟩⟩
      refine ⟨rfl, ?_⟩
      have hl60 : r0.1.length ≤ 60 := Nat.le_trans ((rok.rul (List.mem_of_getElem? hf)).small kok) (by decide)
      refine ⟨_, rfl, p, _, dx, _, _, rfl, s2 _ _ hp, T.k_RuleList, T.n_own_kind, rfs_kind _ _, _, rfl, _, rfl, kv, kn, u, c, tu, r0.1, rfl, KdA.mono _ _ _ _ _ s2 hK, kok.fs, CaA.mono _ _ _ _ _ s2 hU, hC, TuA.mono TsA.mono _ _ _ _ _ s2 hU2, hl60, (rok.rul (List.mem_of_getElem? hf)).tst, fun H3 s3 => ?_⟩
      have s03 := s2.trans s3
      cases em : allm kn.fields c r0.1 with
      | true =>
        refine ⟨true, rfl, iteT ⟨_, rfl, ?_⟩⟩
        have k := k _ s03
        rw [deci_at kn.fields c hf em no] at k
        exact k
      | false =>
        refine ⟨false, rfl, iteF ⟨⟨_, _, _, rfl⟩, s03, fun q hq => ?_⟩⟩
        rw [take_succ_of hf, List.mem_append, List.mem_singleton] at hq
        rcases hq with z | z
        · exact no q z
        · rw [z]
          exact em
    · rintro σ H1 ⟨_, s1, no⟩
      rw [hl, List.take_length] at no
      exact (all_take_last hlast no).elim
theorem ok_answer_for (T : Top K mg) (c_place_for : Met P w K mg base CX0 5 (cR K) "place_for" (sp_place_for K)) : Met P w K mg base CX0 6 (cR K) "answer_for" (sp_answer_for K) := by
  have nd := sc_RuleList_answer_for.nd
  refine met_of (ps := P_RuleList_answer_for) T.m_RuleList_answer_for (fun _ _ _ _ _ _ us hl => match us, hl with | [_, _], _ => rfl) sc_RuleList_answer_for (fun vs H Q E h => ?_) (fun f cdv A outer s H vs Q E hr h => ?_)
  · obtain ⟨v, k, rs, u, c, rfl, _⟩ := h
    rfl
  · obtain ⟨v, kn, rs, u, c, rfl, hR, kok, rok, hU, hC, k⟩ := h
    obtain ⟨p, dx, kv, r, xs, rfl, hp, hK, hr', hP⟩ := id hR
    have hl := hP.length
    refine ⟨_, (pss_one (ps_ret (pe_ix ix_tup (pe_ix ix_list (pe_fld (pv 0) rfl) (pmet c_place_for hr (by decide) T.k_RuleList (pv 0) (pa_cons (pv 1) pa_nil)) (fun _ _ => rfl)) pe_int (fun _ _ => rfl)))), ?_⟩
    obtain ⟨an, hlast⟩ := rok.last
    obtain ⟨h1, h2⟩ := deci_lt kn.fields c hlast
    refine ⟨_, rfl, p, _, dx, _, _, rfl, hp, T.k_RuleList, T.n_own_rules, rfs_rules _ _, ?_⟩
    refine ⟨_, rfl, p, dx, _, rfl, hp, rfs_no _ _ (by decide +kernel), _, rfl, _, kn, rs, u, c, rfl, hR, kok, rok, hU, hC, fun H1 s1 => ?_⟩
    obtain ⟨rr, hrr⟩ : ∃ rr, rs[deci kn.fields c rs]? = some rr := ⟨_, List.getElem?_eq_getElem h1⟩
    obtain ⟨z, hz, ra, tu, rfl, hT, _⟩ := paired_ta hP hrr
    refine ⟨r, xs, _, _, rfl, rfl, SqL.of (s1 _ _ hr'), atI_nat hz, ra, _, _, _, rfl, rfl, same_tup s1 hT, rfl, ?_⟩
    rw [hrr] at h2
    have k := k _ s1
    rw [← Option.some.inj h2] at k
    exact k
theorem ok_rules_init (T : Top K mg) (c_need_kind : Cal P w K mg base CX0 1 "need_kind" (sp_need_kind K)) (c_are_rules : Cal P w K mg base CX0 6 "are_rules" (sp_are_rules K)) :
    ∃ f fd, Mk K (cR K) f ∧ FnOk P w K mg base CX0 7 f fd P_RuleList___init__ (sp_rules_init K) ∧ Binds K fd P_RuleList___init__ [] := by
  have nd := sc_RuleList___init__.nd
  obtain ⟨f, fd, hM, F⟩ := T.i_RuleList
  refine ⟨f, fd, hM, F.ok sc_RuleList___init__ (fun vs H Q E h => ?_) fun cdv A outer s H vs Q E hr h => ?_, F.bindsN (fun _ _ _ _ _ _ us hl => match us, hl with | [_, _, _], _ => rfl)⟩
  · obtain ⟨B, p, dx, kv, kn, a, xs, rs, rfl, _⟩ := h
    rfl
  · obtain ⟨B, p, dx, kv, kn, a, xs, rs, rfl, sB, nB, hp, hK, kok, hA, hP, rok, k⟩ := h
    refine ⟨_, (pss_cons (ps_expr (pcal c_need_kind hr (by decide) (by rfl) (pa_cons (pv 1) pa_nil)))
    (pss_cons (ps_if (pt_not (pt_val (pcal c_are_rules hr (by decide) (by rfl) (pa_cons (pv 1) (pa_cons (pv 2) pa_nil))))) (pss_one ps_never) pss_nil)
    (pss_cons (ps_fld (pv 0) (pv 1) rfl)
    (pss_one (ps_fld (pv 0) (pe_lc (own := [("tests", 3), ("answer", 4)]) (g := (gTup K 2 (gCons (gName 3) (gCons (gName 4) gNil)))) (tt := tYes) rfl nd (pi_list (pv 2)) (blkOk_by (own := [("tests", 3), ("answer", 4)]) (N := N_RuleList___init__) (sc := defScope s_RuleList___init__) (by decide +kernel)) (fun _ _ _ _ _ => (pg_tup rfl (pgs_cons (pg_name (i := 3) nd rfl (by first | exact Or.inl rfl | exact Or.inr rfl)) (pgs_cons (pg_name (i := 4) nd rfl (by first | exact Or.inl rfl | exact Or.inr rfl)) pgs_nil)))) (fun _ _ _ _ _ => pts_nil) (fun _ _ _ _ _ => (pe_tup (pa_cons (pe_callTy (call_tuple_ofK (K := K)) (by rfl) T.f_tuple (by decide +kernel) (pa_cons (pv 3) pa_nil)) (pa_cons (pv 4) pa_nil))))) rfl))))), ?_⟩
    refine ⟨_, rfl, _, kn, rfl, KdA.mono _ _ _ _ _ sB hK, fun H1 s1 => ?_⟩
    refine ⟨_, rfl, _, rfl, _, kn, _, rs, rfl, KdA.mono _ _ _ _ _ (sB.trans s1) hK, kok, ⟨a, xs, rfl, s1.seq hA, paired_mono RuA.mono (sB.trans s1) hP⟩, rok, fun H2 s2 => ⟨_, rfl, iteF ?_⟩⟩
    have s02 := s1.trans s2
    have hl := hP.length
    refine ⟨_, rfl, _, rfl, p, _, dx, _, rfl, s02 _ _ hp, T.k_RuleList, T.n_own_kind, by decide, ?_⟩
    have h3 : ∀ b o, b ≠ p → H b = some o → (upd H2 p (.ins (cR K) dx (putF "own_kind" kv []))) b = some o := fun b o n e => by
      rw [upd_ne n]
      exact s02 _ _ e
    have hK2 : Same B (upd H2 p (.ins (cR K) dx (putF "own_kind" kv []))) := fun b o e => h3 _ _ (ne_of_none e nB) (sB _ _ e)
    have hA2 := seq_ins hp h3 hA
    have hp2 : (upd H2 p (.ins (cR K) dx (putF "own_kind" kv []))) p = some (.ins (cR K) dx (putF "own_kind" kv [])) := upd_same
    generalize upd H2 p (.ins (cR K) dx (putF "own_kind" kv [])) = G at h3 hK2 hA2 hp2 ⊢
    refine ⟨_, rfl, a, rfl, ⟨_, hA2⟩, fun D hD => ?_⟩
    have s0 := Step.tmp (o := .lst []) hK2 hD
    refine lc_it (walk_list (xs := xs)) (fun i H' => ∃ B' ys, Step B G B' H' ∧ B' D = none ∧ H' D = some (.lst ys) ∧ Paired (RtA K B') ys (rs.take i)) ⟨B, [], s0, hK2.free hD, upd_same, .nil⟩ (fun i H' _ ⟨B', ys, st, _⟩ => st.hh.seq hA2) ?_ ?_
    · rintro i z H3 H4 hi ⟨B3, ys, st, nD, hd, hY⟩ ⟨rfl, hv⟩
      obtain ⟨r0, hf, ra, u, rfl, hT, ta, ts, rfl, hU, hUP⟩ := paired_at hP hv
      refine ⟨ra, _, rfl, same_tup (hK2.trans st.hh) hT, rfl, _, _, rfl, _, _, rfl, rfl, rfl, yesT (iteT ?_)⟩
      refine ⟨_, rfl, ta, ts, rfl, .inl ⟨(hK2.trans st.hh).seq hU, fun l hl => ⟨_, rfl, (show 2 ≤ sizeLine by decide), fun q hq => ?_⟩⟩⟩
      have e1 : D ≠ l := ne_of_none hd hl
      have e2 : D ≠ q := ne_of_none (show upd H4 l (.tup ts) D = some (.lst ys) by rw [upd_ne e1]; exact hd) hq
      have a1 := Step.new (o := .tup ts) st.bh hl
      have a2 := Step.new (o := .tup [.ref l, .str r0.2]) a1.bh hq
      have nD2 : upd (upd B3 l (.tup ts)) q (.tup [.ref l, .str r0.2]) D = none := by
        rw [upd_ne e2, upd_ne e1]
        exact nD
      have sb := a1.bb.trans a2.bb
      have e3 : l ≠ q := ne_of_none upd_same hq
      refine ⟨ys, by rw [upd_ne e2, upd_ne e1]; exact hd, paired_small hY rok.len (by decide), _, _, ((st.trans a1).trans a2).own hD nD2, nD2, upd_same, ?_⟩
      rw [take_succ_of hf]
      exact paired_app (paired_mono RtA.mono sb hY) (.cons ⟨q, .ref l, rfl, .inl (.inl upd_same), l, ts, rfl, .inl (.inl (by rw [upd_ne e3, upd_same])), paired_mono TsA.mono (st.bb.trans sb) hUP⟩ .nil)
    · rintro H3 ⟨B3, ys, st, nD, hd, hY⟩
      rw [hl, List.take_length] at hY
      have hp3 := st.hh _ _ hp2
      have nB3 : B3 p = none := st.none hp2 nB
      refine ⟨_, rfl, p, _, dx, _, rfl, hp3, T.k_RuleList, T.n_own_rules, putF_1 _ _, ?_⟩
      have pD : p ≠ D := ne_of_none hp2 hD
      refine k (upd (upd B3 D (.lst ys)) p (.ins (cR K) dx (rfs kv D))) _ ⟨fun b o n e => ?_, fun b o e => ?_, fun b o e => ?_, fun b o n e => ?_⟩ ⟨p, dx, kv, D, ys, rfl, upd_same, KdA.mono _ _ _ _ _ (fun b o e => ?_) hK, ?_, paired_mono RtA.mono (fun b o e => ?_) hY⟩
      · rw [upd_ne n]
        exact st.hh _ _ (h3 _ _ n e)
      · have e3 := st.bb _ _ e
        rw [upd_ne (ne_of_none e nB), upd_ne (ne_of_none e3 nD)]
        exact e3
      · by_cases z : b = p
        · rw [z, upd_same] at e ⊢
          exact e
        · rw [upd_ne z] at e ⊢
          by_cases z2 : b = D
          · rw [z2, upd_same] at e
            rw [z2]
            exact hd.trans e
          · rw [upd_ne z2] at e
            exact st.bh _ _ e
      · have e3 := h3 _ _ n e
        rw [upd_ne n, upd_ne (ne_of_none e3 hD)]
        exact st.fr _ _ e3
      · have e3 := st.bb _ _ e
        rw [upd_ne (ne_of_none e nB), upd_ne (ne_of_none e3 nD)]
        exact e3
      · rw [upd_ne (Ne.symm pD), upd_same]
      · rw [upd_ne (ne_of_none e nB3), upd_ne (ne_of_none e nD)]
        exact e
end
end K5
set_option Elab.async false
set_option linter.all false
set_option maxRecDepth 100000
set_option maxHeartbeats 2000000
namespace K5
open PySem PySem.Spec PyProof.Rows L2
abbrev N_tests_of : List Str := ["rules", "tests", "answer", "test"]
abbrev P_tests_of : List Str := ["rules"]
theorem sc_tests_of : FnScope N_tests_of P_tests_of (defScope s_tests_of) := ⟨rfl, rfl, rfl, by decide +kernel, rfl, by decide +kernel, by decide +kernel⟩
abbrev N_word_members : List Str := ["name", "tests", "words", "field", "operator", "value"]
abbrev P_word_members : List Str := ["name", "tests"]
theorem sc_word_members : FnScope N_word_members P_word_members (defScope s_word_members) := ⟨rfl, rfl, rfl, by decide +kernel, rfl, by decide +kernel, by decide +kernel⟩
abbrev N_number_members : List Str := ["name", "tests", "ends", "field", "operator", "value"]
abbrev P_number_members : List Str := ["name", "tests"]
theorem sc_number_members : FnScope N_number_members P_number_members (defScope s_number_members) := ⟨rfl, rfl, rfl, by decide +kernel, rfl, by decide +kernel, by decide +kernel⟩
def allTests (rs : List Rul) : List Tst := rs.flatMap (·.1)
def sp_tests_of (K : PySem.W.Frag) : Sp := fun vs H Q _ => ∃ q xs rs, vs = [.ref q] ∧ SqL K H q xs ∧ Paired (RuA K H) xs rs ∧ rs.length ≤ 24 ∧ (∀ r ∈ rs, r.1.length ≤ 2) ∧
  ∀ a ys H', Same H H' → H a = none → H' a = some (.lst ys) → Paired (TsA K H) ys (allTests rs) → Q (.ref a) H'
/-- the words of a field's tests, and one that is in none -/
structure WordMem (ts : List Tst) (n : Str) (ws : List Str) (w0 : Str) : Prop where
  nd : ws.Nodup
  mem : ∀ x, x ∈ ws ↔ ∃ t ∈ ts, t.1 = n ∧ t.2.2 = .str x
  out : w0 ∉ ws
  ok : WordOk w0
/-- the end of a group that a test makes -/
def NumOf (n : Str) (t : Tst) (x : Int) : Prop := t.1 = n ∧ ∃ j, t.2.2 = .int j ∧ ((t.2.1 = "most" ∧ x = j) ∨ (t.2.1 = "least" ∧ -9999 < j ∧ x = j - 1))
structure NumMem (ts : List Tst) (n : Str) (ns : List Int) : Prop where
  nd : ns.Nodup
  mem : ∀ i, i ∈ ns ↔ i = 9999 ∨ ∃ t ∈ ts, NumOf n t i
/-- how many tests a field has -/
def nTests (ts : List Tst) (n : Str) : Nat := (ts.filter fun t => decide (t.1 = n)).length
def sp_word_members (K : PySem.W.Frag) : Sp := fun vs H Q _ => ∃ n q xs ts, vs = [.str n, .ref q] ∧ SqL K H q xs ∧ Paired (TsA K H) xs ts ∧ nTests ts n ≤ 25 ∧ (∀ t ∈ ts, t.1 = n → ∃ x, t.2.2 = .str x ∧ WordOk x) ∧
  ∀ a ws w0 H', Same H H' → H a = none → H' a = some (.lst ((ws ++ [w0]).map V.str)) → WordMem ts n ws w0 → Q (.ref a) H'
def sp_number_members (K : PySem.W.Frag) : Sp := fun vs H Q _ => ∃ n q xs ts, vs = [.str n, .ref q] ∧ SqL K H q xs ∧ Paired (TsA K H) xs ts ∧ ts.length ≤ 50 ∧ (∀ t ∈ ts, t.1 = n → (∃ i, t.2.2 = .int i) ∧ (t.2.1 = "most" ∨ t.2.1 = "least")) ∧
  ∀ a ns H', Same H H' → H a = none → H' a = some (.lst (ns.map V.int)) → NumMem ts n ns → Q (.ref a) H'
theorem nTests_yes {t : Tst} {n : Str} (l : List Tst) (e : t.1 = n) : nTests (l ++ [t]) n = nTests l n + 1 := by
  simp [nTests, List.filter_append, e]
theorem nTests_no {t : Tst} {n : Str} (l : List Tst) (e : ¬ t.1 = n) : nTests (l ++ [t]) n = nTests l n := by
  simp [nTests, List.filter_append, e]
theorem nTests_take (l : List Tst) (n : Str) (i : Nat) : nTests (l.take i) n ≤ nTests l n := by
  have h : l = l.take i ++ l.drop i := (List.take_append_drop i l).symm
  have h2 : nTests l n = nTests (l.take i) n + nTests (l.drop i) n := by
    unfold nTests
    rw [← List.length_append, ← List.filter_append, List.take_append_drop]
  omega
theorem putK_ints {kvs : List (Key × V)} {ns : List Int} (v : V) (k : Int) (hk : kvs.map (·.1) = ns.map Sum.inl) (nd : ns.Nodup) :
    ∃ ms : List Int, (putK kvs (.inl k : Key) v).map (·.1) = ms.map Sum.inl ∧ ms.Nodup ∧ ms.length ≤ ns.length + 1 ∧ ∀ x, x ∈ ms ↔ x ∈ ns ∨ x = k := by
  unfold putK
  by_cases h : (kvs.any fun kv => decide (kv.1 = (.inl k : Key))) = true
  · rw [if_pos h]
    obtain ⟨p, hp, e⟩ := List.any_eq_true.mp h
    have hm : (.inl k : Key) ∈ ns.map Sum.inl := by
      rw [← hk, ← of_decide_eq_true e]
      exact List.mem_map_of_mem hp
    obtain ⟨k', hk', e'⟩ := List.mem_map.mp hm
    have e2 : k' = k := Sum.inl.inj e'
    rw [e2] at hk'
    refine ⟨ns, ?_, nd, Nat.le_succ _, fun x => ⟨.inl, fun z => ?_⟩⟩
    · rw [← hk, List.map_map]
      refine List.map_congr_left fun q _ => ?_
      show (if q.1 = _ then (q.1, v) else q).1 = q.1
      split <;> rfl
    · rcases z with z | z
      · exact z
      · rw [z]
        exact hk'
  · rw [if_neg h]
    have hn : k ∉ ns := fun z => by
      have hm : (.inl k : Key) ∈ kvs.map (·.1) := by
        rw [hk]
        exact List.mem_map_of_mem z
      obtain ⟨p, hp, e⟩ := List.mem_map.mp hm
      exact h (List.any_eq_true.mpr ⟨p, hp, decide_eq_true e⟩)
    refine ⟨ns ++ [k], ?_, ?_, by simp, by simp⟩
    · rw [List.map_append, hk, List.map_append]
      rfl
    · rw [List.nodup_append]
      refine ⟨nd, by simp, fun a ha b hb => ?_⟩
      rw [List.mem_singleton] at hb
      rw [hb]
      exact fun e => hn (e ▸ ha)
theorem roomU {k : Nat} {A : Around} (r : Room k A) : A.units + 1 < cLine := by
  have := r.un
  omega
theorem flat_take_succ {rs : List Rul} {i : Nat} {r : Rul} (h : rs[i]? = some r) : allTests (rs.take (i + 1)) = allTests (rs.take i) ++ r.1 := by
  rw [take_succ_of h, allTests, List.flatMap_append]
  simp [allTests]
theorem allTests_len {rs : List Rul} (h : ∀ r ∈ rs, r.1.length ≤ 2) : (allTests rs).length ≤ 2 * rs.length := by
  induction rs with
  | nil => simp [allTests]
  | cons r rs ih =>
    have h1 := h r (List.mem_cons_self ..)
    have h2 := ih fun q hq => h q (List.mem_cons_of_mem _ hq)
    show (r.1 ++ allTests rs).length ≤ 2 * (rs.length + 1)
    rw [List.length_append]
    omega
section
variable {P : Program} {w : World} {K : PySem.W.Frag} {mg : Str → Option Value} {base : Heap}
theorem ok_tests_of (T : Top K mg) : Cal P w K mg base CX0 1 "tests_of" (sp_tests_of K) := by
  have nd := sc_tests_of.nd
  refine cal_of (ps := P_tests_of) T.d_tests_of (fun _ _ _ _ _ _ us hl => match us, hl with | [_], _ => rfl) sc_tests_of (fun vs H Q E h => ?_) (fun f cdv A outer s H vs Q E hr h => ?_)
  · obtain ⟨v, xs, rs, rfl, _⟩ := h
    rfl
  · obtain ⟨q, xs, rs, rfl, hq, hP, h24, h2, k⟩ := h
    refine ⟨_, (pss_one (ps_ret (pe_lc2 (own := [("tests", 1), ("answer", 2), ("test", 3)]) (g := (gTup K 2 (gCons (gName 1) (gCons (gName 2) gNil)))) (vs1 := [3]) (g1 := (gName 3)) rfl nd (pi_list (pv 0)) (blkOk_by (own := [("tests", 1), ("answer", 2), ("test", 3)]) (N := N_tests_of) (sc := defScope s_tests_of) (by decide +kernel)) (by decide) (fun _ _ _ _ _ => (pg_tup rfl (pgs_cons (pg_name (i := 1) nd rfl (by first | exact Or.inl rfl | exact Or.inr rfl)) (pgs_cons (pg_name (i := 2) nd rfl (by first | exact Or.inl rfl | exact Or.inr rfl)) pgs_nil)))) (fun _ _ _ _ _ => pts_nil) (fun _ _ _ _ _ => (pi_listK (K := K) (pi_list (pv 1)))) (fun _ _ _ _ _ => (pg_name (i := 3) nd rfl (by first | exact Or.inl rfl | exact Or.inr rfl))) (fun _ _ _ _ _ => pts_nil) (fun _ _ _ _ _ => (pv 3))))), ?_⟩
    have hl := hP.length
    refine ⟨_, rfl, q, rfl, ⟨_, hq⟩, fun D hD => ?_⟩
    refine lc2_it (walk_list (xs := xs)) (fun i H' => Same H H' ∧ ∃ ys, H' D = some (.lst ys) ∧ Paired (TsA K H) ys (allTests (rs.take i))) ⟨same_new hD, [], upd_same, .nil⟩ (fun i H' _ p => p.1.seq hq) ?_ ?_
    · rintro i z H3 H4 hi ⟨s3, ys, hd, hY⟩ ⟨rfl, hv⟩
      obtain ⟨r0, hf, ra, u, rfl, hT, ta, ts, rfl, hU, hUP⟩ := paired_at hP hv
      refine ⟨ra, _, rfl, same_tup s3 hT, rfl, _, _, rfl, _, _, rfl, rfl, rfl, yesT (iteT ?_)⟩
      refine ⟨_, rfl, ta, rfl, ⟨_, s3.seq hU⟩, ?_⟩
      have hl2 := hUP.length
      have hi' : i < rs.length := by omega
      refine lc2_in (walk_list (xs := ts)) (fun j H' => Same H H' ∧ ∃ ys, H' D = some (.lst ys) ∧ Paired (TsA K H) ys (allTests (rs.take i) ++ r0.1.take j)) ⟨s3, ys, hd, by simpa using hY⟩ (fun j H' _ p => p.1.seq hU) ?_ ?_
      · rintro j x H5 H6 hj ⟨s5, ys5, hd5, hY5⟩ ⟨rfl, hv5⟩
        obtain ⟨t, ht, hTt⟩ := paired_at hUP hv5
        refine ⟨rfl, yesT (iteT ⟨_, rfl, ys5, hd5, ?_, grow_same hD s5, _, upd_same, ?_⟩)⟩
        · rw [hY5.length, List.length_append, List.length_take]
          have h1 := allTests_len (rs := rs.take i) fun r hr => h2 r (List.mem_of_mem_take hr)
          have h2 := h2 r0 (List.mem_of_getElem? hf)
          rw [List.length_take] at h1
          have : 60 < sizeLine := by decide
          omega
        · rw [take_succ_of ht, ← List.append_assoc]
          exact paired_app hY5 (.cons hTt .nil)
      · rintro H5 ⟨s5, ys5, hd5, hY5⟩
        rw [hl2, List.take_length, ← flat_take_succ hf] at hY5
        exact ⟨s5, ys5, hd5, hY5⟩
    · rintro H3 ⟨s3, ys, hd, hY⟩
      rw [hl, List.take_length] at hY
      exact k D ys H3 s3 hD hd hY
theorem ok_word_members (T : Top K mg) (c_first_other : Cal P w K mg base CX0 2 "first_other" (sp_first_other K)) : Cal P w K mg base CX0 3 "word_members" (sp_word_members K) := by
  have nd := sc_word_members.nd
  refine cal_of (ps := P_word_members) T.d_word_members (fun _ _ _ _ _ _ us hl => match us, hl with | [_, _], _ => rfl) sc_word_members (fun vs H Q E h => ?_) (fun f cdv A outer s H vs Q E hr h => ?_)
  · obtain ⟨v, q, xs, ts, rfl, _⟩ := h
    rfl
  · obtain ⟨n, q, xs, ts, rfl, hq, hP, h50, hv, k⟩ := h
    refine ⟨_, (pss_cons (ps_set (i := 2) nd rfl (by first | exact Or.inl rfl | exact Or.inr rfl) (pe_callB (cr_sortM rfl) (by rfl) T.f_sorted (by decide +kernel) (pa_cons (pe_scM (own := [("field", 3), ("operator", 4), ("value", 5)]) (g := (gTup K 3 (gCons (gName 3) (gCons (gName 4) (gCons (gName 5) gNil))))) rfl nd (pi_list (pv 1)) (blkOk_by (own := [("field", 3), ("operator", 4), ("value", 5)]) (N := N_word_members) (sc := defScope s_word_members) (by decide +kernel)) (fun _ _ _ _ _ => (pg_tup rfl (pgs_cons (pg_name (i := 3) nd rfl (by first | exact Or.inl rfl | exact Or.inr rfl)) (pgs_cons (pg_name (i := 4) nd rfl (by first | exact Or.inl rfl | exact Or.inr rfl)) (pgs_cons (pg_name (i := 5) nd rfl (by first | exact Or.inl rfl | exact Or.inr rfl)) pgs_nil))))) (fun _ _ _ _ _ => (pts_one (pt_cmpR op_eq (pv 3) (pv 0) (nomark _)))) (fun _ _ _ _ _ => (pv 5))) pa_nil)))
    (pss_one (ps_ret (pe_op op_cat (pv 2) (pe_lst (pa_cons (pcal c_first_other hr (by decide) (by rfl) (pa_cons (pv 2) pa_nil)) pa_nil)))))), ?_⟩
    have hl := hP.length
    refine ⟨_, rfl, q, rfl, ⟨_, hq⟩, fun D hD => ?_⟩
    refine scM_it (walk_list (xs := xs)) (fun i H' => Same H H' ∧ ∃ S m, H' D = some (SetMO w D S m) ∧ m ≤ nTests (ts.take i) n ∧ (∀ x, S (.inr x) = true ↔ ∃ t ∈ ts.take i, t.1 = n ∧ t.2.2 = .str x) ∧ ∀ j, S (.inl j) = false)
      ⟨same_new hD, _, _, upd_same, Nat.zero_le _, by simp, by simp⟩ (fun i H' _ p => p.1.seq hq) ?_ ?_
    · rintro i z H1 H2 hi ⟨s1, S, m, hd, hm, hS, hI⟩ ⟨rfl, hv0⟩
      obtain ⟨t, hf, a, rfl, hT⟩ := paired_at hP hv0
      refine ⟨a, _, rfl, same_tup s1 hT, rfl, _, _, rfl, _, _, rfl, _, _, rfl, rfl, rfl, _, rfl, _, rfl, rfl, _, rfl, ?_⟩
      by_cases e : t.1 = n
      · obtain ⟨x, hx, hw⟩ := hv t (List.mem_of_getElem? hf) e
        rw [decide_eq_true (show V.str t.1 = V.str n by rw [e])]
        refine iteT ⟨_, rfl, .inr x, S, m, hx, hd, ?_, grow_same hD s1, _, _, upd_same, ?_, ?_, ?_⟩
        · have : 62 < scanBound := by decide +kernel
          have := nTests_take ts n i
          omega
        · rw [take_succ_of hf, nTests_yes _ e]
          split <;> omega
        · intro y
          rw [take_succ_of hf]
          simp only [Bool.or_eq_true, decide_eq_true_eq, hS, List.mem_append, List.mem_singleton]
          constructor
          · rintro (⟨t', h1, h2⟩ | h)
            · exact ⟨t', .inl h1, h2⟩
            · exact ⟨t, .inr rfl, e, by rw [hx, Sum.inr.inj h]⟩
          · rintro ⟨t', h1 | rfl, h2, h3⟩
            · exact .inl ⟨t', h1, h2, h3⟩
            · refine .inr ?_
              rw [hx] at h3
              rw [V.str.inj h3]
        · intro j
          simp [hI j]
      · rw [decide_eq_false (show ¬ V.str t.1 = V.str n from fun z => e (V.str.inj z))]
        refine iteF ⟨s1, S, m, hd, by rw [take_succ_of hf, nTests_no _ e]; exact hm, fun y => ?_, hI⟩
        rw [hS, take_succ_of hf]
        simp only [List.mem_append, List.mem_singleton]
        constructor
        · rintro ⟨t', h1, h2⟩
          exact ⟨t', .inl h1, h2⟩
        · rintro ⟨t', h1 | rfl, h2, h3⟩
          · exact ⟨t', h1, h2, h3⟩
          · exact absurd h2 e
    · rintro H1 ⟨s1, S, m, hd, hm, hS, hI⟩
      rw [hl, List.take_length] at hS hm
      refine ⟨D, S, m, rfl, hd, by omega, .inl ⟨fun j hj => ?_, fun ys p nd hmem hlen hp => ?_⟩⟩
      · cases j with
        | inl j => rw [hI j] at hj; cases hj
        | inr x => exact ⟨x, rfl⟩
      have s2 := s1.trans (same_new (o := .lst (ys.map V.str)) hp)
      have hm2 : ∀ x, x ∈ ys ↔ ∃ t ∈ ts, t.1 = n ∧ t.2.2 = .str x := fun x => (hmem x).trans (hS x)
      have hw : ∀ x ∈ ys, WordOk x := fun x hx => by
        obtain ⟨t, ht, h1, h2⟩ := (hm2 x).mp hx
        obtain ⟨y, hy, hw⟩ := hv t ht h1
        rw [hy] at h2
        rw [← V.str.inj h2]
        exact hw
      refine ⟨_, rfl, _, rfl, p, ys, rfl, SqL.of upd_same, hw, by omega, fun x H3 hx hn s3 => ?_⟩
      refine ⟨(by show 1 ≤ sizeLine; decide), fun b hb => ?_⟩
      have hp3 : H3 p = some (.lst (ys.map V.str)) := s3 _ _ upd_same
      have pb : p ≠ b := ne_of_none hp3 hb
      refine ⟨p, b, ys.map V.str, [.str x], rfl, rfl, by rw [upd_ne pb]; exact hp3, upd_same, ?_, fun d hd2 => ?_⟩
      · rw [List.length_map]
        have : 62 < sizeLine := by decide
        show _ + 1 ≤ _
        omega
      · have s4 := ((s2.trans s3).trans (same_new (o := .lst [.str x]) hb)).trans (same_new (o := .lst (ys.map V.str ++ [.str x])) hd2)
        refine k d ys x _ s4 ?_ ?_ ⟨nd, hm2, hn, hx⟩
        · cases e : H d with
          | none => rfl
          | some o => rw [((s2.trans s3).trans (same_new (o := .lst [.str x]) hb)) _ _ e] at hd2; cases hd2
        · rw [upd_same, List.map_append]
          rfl
theorem ok_number_members (T : Top K mg) : Cal P w K mg base CX0 1 "number_members" (sp_number_members K) := by
  have nd := sc_number_members.nd
  refine cal_of (ps := P_number_members) T.d_number_members (fun _ _ _ _ _ _ us hl => match us, hl with | [_, _], _ => rfl) sc_number_members (fun vs H Q E h => ?_) (fun f cdv A outer s H vs Q E hr h => ?_)
  · obtain ⟨v, q, xs, ts, rfl, _⟩ := h
    rfl
  · obtain ⟨n, q, xs, ts, rfl, hq, hP, h50, hv, k⟩ := h
    have hu := roomU hr
    refine ⟨_, (pss_cons (ps_set (i := 2) nd rfl (by first | exact Or.inl rfl | exact Or.inr rfl) (pe_disp (pps_cons (gc rfl T.c_MOST_NUMBER) pe_bl pps_nil) rfl rfl (fun h => nomatch h) (by decide)))
    (pss_cons (ps_for PassesOwn.never rfl (pi_list (pv 1)) (pg_tup rfl (pgs_cons (pg_name (i := 3) nd rfl (by first | exact Or.inl rfl | exact Or.inr rfl)) (pgs_cons (pg_name (i := 4) nd rfl (by first | exact Or.inl rfl | exact Or.inr rfl)) (pgs_cons (pg_name (i := 5) nd rfl (by first | exact Or.inl rfl | exact Or.inr rfl)) pgs_nil)))) (pss_cons (ps_if (PW.pt (pw_and (pt_cmpR op_eq (pv 3) (pv 0) (nomark _)) (pw_and1 (pt_cmpR op_eq (pv 4) pe_str (nomark _))))) (pss_one (ps_asg pe_bl (pg_sub (pv 2) (pv 5) (set_dict hu)))) pss_nil)
    (pss_one (ps_if (PW.pt (pw_and (pt_cmpR op_eq (pv 3) (pv 0) (nomark _)) (pw_and (pt_cmpR op_eq (pv 4) pe_str (nomark _)) (pw_and1 (pt_cmpR op_gt (pv 5) (pe_un un_neg (gc rfl T.c_MOST_NUMBER)) (nomark _)))))) (pss_one (ps_asg pe_bl (pg_sub (pv 2) (pe_op op_sub (pv 5) pe_int) (set_dict hu)))) pss_nil))))
    (pss_one (ps_ret (pe_callB (call_sortedDI rfl) (by rfl) T.f_sorted (by decide +kernel) (pa_cons (pv 2) pa_nil)))))), ?_⟩
    have hl := hP.length
    intro D hD
    refine ⟨upd_same, [(.inl 9999, .bl true)], rfl, by decide, ?_⟩
    have e0 : upd (upd H D (.dK [])) D (.dK (mergeK [] [((.inl 9999 : Key), V.bl true)])) = upd H D (.dK [(.inl 9999, .bl true)]) := by
      funext b
      by_cases e : b = D
      · rw [e, upd_same, upd_same]
        rfl
      · rw [upd_ne e, upd_ne e, upd_ne e]
    rw [e0]
    have s0 : Same H (upd H D (.dK [(.inl 9999, .bl true)])) := same_new hD
    refine ⟨_, rfl, q, rfl, ⟨_, s0.seq hq⟩, ?_⟩
    refine for_it (walk_list (xs := xs)) (fun i σ H' => (∃ v1 v2 v3, σ = [some (.str n), some (.ref q), some (.ref D), v1, v2, v3]) ∧ Same H H' ∧ ∃ kvs ns, H' D = some (.dK kvs) ∧ kvs.map (·.1) = ns.map Sum.inl ∧ ns.Nodup ∧ ns.length ≤ i + 1 ∧
      ∀ x, x ∈ ns ↔ x = 9999 ∨ ∃ t ∈ ts.take i, NumOf n t x)
      ⟨⟨_, _, _, rfl⟩, s0, _, [9999], upd_same, rfl, by simp, Nat.le_refl _, by simp⟩ (fun i σ H' _ p => p.2.1.seq hq) ?_ ?_
    · rintro i z σ H1 H2 hi ⟨⟨v1, v2, v3, rfl⟩, s1, kvs, ns, hd, hk, hnd, hlen, hmem⟩ ⟨rfl, hv0⟩
      obtain ⟨⟨m, op, va⟩, hf, a, rfl, hT⟩ := paired_at hP hv0
      refine ⟨a, _, rfl, same_tup s1 hT, rfl, _, _, rfl, _, _, rfl, _, _, rfl, rfl, ?_⟩
      have hlk : kvs.length < sizeLine := by
        have e := congrArg List.length hk
        rw [List.length_map, List.length_map] at e
        have : 62 < sizeLine := by decide
        omega
      obtain ⟨hmn, ⟨va0, hva⟩, hop⟩ | hne : (m = n ∧ (∃ i, va = .int i) ∧ (op = "most" ∨ op = "least")) ∨ ¬ m = n := by
        by_cases e : m = n
        · exact .inl ⟨e, hv _ (List.mem_of_getElem? hf) e⟩
        · exact .inr e
      · subst hmn
        subst hva
        clear hv hT hv0
        have grew : ∀ x0, (∀ x, NumOf m (m, op, .int va0) x ↔ x = x0) → Same H (upd H2 D (.dK (putK kvs (.inl x0 : Key) (.bl true)))) ∧ ∃ (kvs' : List (Key × V)) (ns' : List Int), (upd H2 D (.dK (putK kvs (.inl x0 : Key) (.bl true)))) D = some (.dK kvs') ∧ kvs'.map (·.1) = ns'.map Sum.inl ∧ ns'.Nodup ∧ ns'.length ≤ i + 1 + 1 ∧
            ∀ x, x ∈ ns' ↔ x = 9999 ∨ ∃ t ∈ ts.take (i + 1), NumOf m t x := fun x0 hx0 => by
          obtain ⟨ms, h1, h2, h3, h4⟩ := putK_ints (.bl true) x0 hk hnd
          refine ⟨grow_same hD s1, _, ms, upd_same, h1, h2, by omega, fun x => ?_⟩
          rw [h4, hmem, take_succ_of hf]
          simp only [List.mem_append, List.mem_singleton]
          constructor
          · rintro ((h | ⟨t, h1, h2⟩) | h)
            · exact .inl h
            · exact .inr ⟨t, .inl h1, h2⟩
            · exact .inr ⟨_, .inr rfl, (hx0 x).mpr h⟩
          · rintro (h | ⟨t, h1 | rfl, h2⟩)
            · exact .inl (.inl h)
            · exact .inl (.inr ⟨t, h1, h2⟩)
            · exact .inr ((hx0 x).mp h2)
        refine ⟨_, rfl, _, rfl, rfl, _, rfl, ?_⟩
        rw [decide_eq_true rfl]
        rcases hop with rfl | rfl
        · refine iteT ⟨_, rfl, rfl, _, rfl, iteT ⟨_, rfl, _, rfl, D, _, rfl, DPut.k (k := .inl va0) hd hlk, ?_⟩⟩
          refine ⟨_, rfl, _, rfl, rfl, _, rfl, ?_⟩
          rw [decide_eq_true rfl]
          refine iteT ⟨_, rfl, rfl, _, rfl, iteF ⟨⟨_, _, _, rfl⟩, grew va0 fun x => ?_⟩⟩
          constructor
          · rintro ⟨_, j, hj, ⟨_, h⟩ | ⟨h, _⟩⟩
            · rw [h, V.int.inj hj]
            · exact absurd (show ("most" : Str) = "least" from h) (by decide +kernel)
          · rintro rfl
            exact ⟨rfl, _, rfl, .inl ⟨rfl, rfl⟩⟩
        · refine iteT ⟨_, rfl, rfl, _, rfl, iteF ?_⟩
          refine ⟨_, rfl, _, rfl, rfl, _, rfl, ?_⟩
          rw [decide_eq_true rfl]
          refine iteT ⟨_, rfl, rfl, _, rfl, iteT ⟨_, rfl, _, rfl, _, _, rfl, rfl, _, rfl, ?_⟩⟩
          by_cases hlo : -9999 < va0
          · rw [decide_eq_true hlo]
            refine iteT ⟨_, rfl, _, rfl, _, _, rfl, rfl, D, _, rfl, DPut.k (k := .inl (va0 - 1)) hd hlk, ⟨_, _, _, rfl⟩, grew (va0 - 1) fun x => ?_⟩
            constructor
            · rintro ⟨_, j, hj, ⟨h, _⟩ | ⟨_, _, h⟩⟩
              · exact absurd (show ("least" : Str) = "most" from h) (by decide +kernel)
              · rw [h, V.int.inj hj]
            · rintro rfl
              exact ⟨rfl, _, rfl, .inr ⟨rfl, hlo, rfl⟩⟩
          · rw [decide_eq_false hlo]
            refine iteF ⟨⟨_, _, _, rfl⟩, s1, kvs, ns, hd, hk, hnd, by omega, fun x => ?_⟩
            rw [hmem, take_succ_of hf]
            simp only [List.mem_append, List.mem_singleton]
            constructor
            · rintro (h | ⟨t, h1, h2⟩)
              · exact .inl h
              · exact .inr ⟨t, .inl h1, h2⟩
            · rintro (h | ⟨t, h1 | rfl, h2⟩)
              · exact .inl h
              · exact .inr ⟨t, h1, h2⟩
              · obtain ⟨_, j, hj, ⟨h, _⟩ | ⟨_, h, _⟩⟩ := h2
                · exact absurd (show ("least" : Str) = "most" from h) (by decide +kernel)
                · rw [← V.int.inj hj] at h
                  exact absurd h hlo
      · refine ⟨_, rfl, _, rfl, rfl, _, rfl, ?_⟩
        have ed : decide (V.str m = V.str n) = false := decide_eq_false fun z => hne (V.str.inj z)
        rw [ed]
        refine iteF ⟨_, rfl, _, rfl, rfl, _, rfl, ?_⟩
        rw [ed]
        refine iteF ⟨⟨_, _, _, rfl⟩, s1, kvs, ns, hd, hk, hnd, by omega, fun x => ?_⟩
        rw [hmem, take_succ_of hf]
        simp only [List.mem_append, List.mem_singleton]
        constructor
        · rintro (h | ⟨t, h1, h2⟩)
          · exact .inl h
          · exact .inr ⟨t, .inl h1, h2⟩
        · rintro (h | ⟨t, h1 | rfl, h2⟩)
          · exact .inl h
          · exact .inr ⟨t, h1, h2⟩
          · exact absurd h2.1 hne
    · rintro σ H1 ⟨⟨v1, v2, v3, rfl⟩, s1, kvs, ns, hd, hk, hnd, hlen, hmem⟩
      rw [hl, List.take_length] at hmem
      refine ⟨_, rfl, D, kvs, ns, rfl, .of hd, hk, by omega, fun ys p hp hs hq => ?_⟩
      refine k p ys _ (s1.trans (same_new hq)) ?_ upd_same ⟨hp.nodup_iff.mpr hnd, fun i => ?_⟩
      · cases e : H p with
        | none => rfl
        | some o => rw [s1 _ _ e] at hq; cases hq
      · rw [hp.mem_iff]
        exact hmem i
end
end K5
set_option Elab.async false
set_option linter.all false
set_option maxRecDepth 100000
set_option maxHeartbeats 2000000
namespace K5
open PySem PySem.Spec PyProof.Rows L2
abbrev N_members : List Str := ["kind", "tests", "found", "name", "sort"]
abbrev P_members : List Str := ["kind", "tests"]
theorem sc_members : FnScope N_members P_members (defScope s_members) := ⟨rfl, rfl, rfl, by decide +kernel, rfl, by decide +kernel, by decide +kernel⟩
abbrev N_first_difference : List Str := ["one", "other", "cases", "case"]
abbrev P_first_difference : List Str := ["one", "other", "cases"]
theorem sc_first_difference : FnScope N_first_difference P_first_difference (defScope s_first_difference) := ⟨rfl, rfl, rfl, by decide +kernel, rfl, by decide +kernel, by decide +kernel⟩
/-- a list of values -/
def LvA (K : PySem.W.Frag) (B : Hp) (v : V) (m : List V) : Prop := ∃ b, v = .ref b ∧ SqL K B b m
theorem LvA.mono : Mono LvA := fun _ _ _ _ _ s ⟨b, e, h⟩ => ⟨b, e, s.seq h⟩
def MemOk (ts : List Tst) (m : List V) (f : Str × Str) : Prop :=
  (f.2 = "word" ∧ ∃ ws w0, m = (ws ++ [w0]).map V.str ∧ WordMem ts f.1 ws w0) ∨ (f.2 = "number" ∧ ∃ ns, m = ns.map V.int ∧ NumMem ts f.1 ns)
/-- the tests of rules of a kind -/
structure TestsOk (k : Knd) (ts : List Tst) : Prop where
  len : ts.length ≤ 50
  few : ∀ f ∈ k.fields, nTests ts f.1 ≤ 25
  ok : ∀ t ∈ ts, TstOk k t
def sp_members (K : PySem.W.Frag) : Sp := fun vs H Q _ => ∃ B v k q xs ts, vs = [v, .ref q] ∧ Same B H ∧ KdA K B v k ∧ KndOk k ∧ SqL K H q xs ∧ Paired (TsA K H) xs ts ∧ TestsOk k ts ∧
  ∀ a ys ms B' H', Step B H B' H' → H a = none → H' a = some (.lst ys) → Paired (LvA K B') ys ms → Paired (MemOk ts) ms k.fields → Q (.ref a) H'
def sp_first_difference (K : PySem.W.Frag) : Sp := fun vs H Q _ => ∃ v1 v2 k rs1 rs2 q xs cs, vs = [v1, v2, .ref q] ∧ RlA K H v1 k rs1 ∧ RlA K H v2 k rs2 ∧ KndOk k ∧ RulsOk k rs1 ∧ RulsOk k rs2 ∧ SqL K H q xs ∧ Paired (CaA K H) xs cs ∧ (∀ c ∈ cs, CaseOk k.fields c) ∧
  ∀ H', Same H H' → ((∀ c ∈ cs, answ k.fields c rs1 = answ k.fields c rs2) → Q .non H') ∧ ((¬ ∀ c ∈ cs, answ k.fields c rs1 = answ k.fields c rs2) → ∀ a, Q (.ref a) H')
theorem tst_word {k : Knd} (kok : KndOk k) {t : Tst} {n : Str} (ht : TstOk k t) (e : t.1 = n) (hm : (n, ("word" : Str)) ∈ k.fields) : (∃ x, t.2.2 = .str x ∧ WordOk x) ∧ (t.2.1 = "is" ∨ t.2.1 = "not") := by
  obtain ⟨s, h1, h2, h3⟩ := ht
  rw [e] at h1
  have es : s = "word" := nodup_key kok.fs.2.2 h1 hm
  subst es
  refine ⟨?_, ?_⟩
  · rcases h2 with ⟨_, h⟩ | ⟨h, _⟩
    · exact h
    · exact absurd h (by decide +kernel)
  · rcases h3 with ⟨_, h⟩ | ⟨h, _⟩
    · exact h
    · exact absurd h (by decide +kernel)
theorem tst_number {k : Knd} (kok : KndOk k) {t : Tst} {n : Str} (ht : TstOk k t) (e : t.1 = n) (hm : (n, ("number" : Str)) ∈ k.fields) : (∃ i, t.2.2 = .int i ∧ NumOk i) ∧ (t.2.1 = "most" ∨ t.2.1 = "least") := by
  obtain ⟨s, h1, h2, h3⟩ := ht
  rw [e] at h1
  have es : s = "number" := nodup_key kok.fs.2.2 h1 hm
  subst es
  refine ⟨?_, ?_⟩
  · rcases h2 with ⟨h, _⟩ | ⟨_, h⟩
    · exact absurd h (by decide +kernel)
    · exact h
  · rcases h3 with ⟨h, _⟩ | ⟨_, h⟩
    · exact absurd h (by decide +kernel)
    · exact h
section
variable {P : Program} {w : World} {K : PySem.W.Frag} {mg : Str → Option Value} {base : Heap}
theorem ok_members (T : Top K mg) (c_fields : Met P w K mg base CX0 1 (cK K) "fields" (sp_fields K)) (c_word_members : Cal P w K mg base CX0 3 "word_members" (sp_word_members K)) (c_number_members : Cal P w K mg base CX0 1 "number_members" (sp_number_members K)) :
    Cal P w K mg base CX0 4 "members" (sp_members K) := by
  have nd := sc_members.nd
  refine cal_of (ps := P_members) T.d_members (fun _ _ _ _ _ _ us hl => match us, hl with | [_, _], _ => rfl) sc_members (fun vs H Q E h => ?_) (fun f cdv A outer s H vs Q E hr h => ?_)
  · obtain ⟨B, v, k, q, xs, ts, rfl, _⟩ := h
    rfl
  · obtain ⟨B, v, kn, q, xs, ts, rfl, sB, hK, kok, hq, hP, tok, k⟩ := h
    obtain ⟨p, dx, t1, t2, zs, rfl, hp, h1, h2, h3⟩ := id hK
    refine ⟨_, (pss_cons (ps_set (i := 2) nd rfl (by first | exact Or.inl rfl | exact Or.inr rfl) (pe_lst pa_nil))
    (pss_cons (ps_for PassesOwn.never rfl (pi_list (pmet0 c_fields hr (by decide) T.k_Kind (pv 0))) (pg_tup rfl (pgs_cons (pg_name (i := 3) nd rfl (by first | exact Or.inl rfl | exact Or.inr rfl)) (pgs_cons (pg_name (i := 4) nd rfl (by first | exact Or.inl rfl | exact Or.inr rfl)) pgs_nil))) (pss_one (ps_expr (pe_bm PySem.F.plainAttrs_list PySem.F.slot_list_append PySem.F.type_list_append mt_append (pv 2) (pa_cons (pe_ifExp (pt_cmpR op_eq (pv 4) pe_str (nomark _)) (pcal c_word_members hr (by decide) (by rfl) (pa_cons (pv 3) (pa_cons (pv 1) pa_nil))) (pcal c_number_members hr (by decide) (by rfl) (pa_cons (pv 3) (pa_cons (pv 1) pa_nil)))) pa_nil)))))
    (pss_one (ps_ret (pv 2))))), ?_⟩
    refine ⟨by decide, fun D hD => ?_⟩
    have s1 := same_new (o := .lst []) hD
    refine ⟨_, rfl, p, dx, _, rfl, s1 _ _ (sB _ _ hp), kfs_no _ _ _ (by decide +kernel), B, _, kn, rfl, sB.trans s1, hK, fun fq fxs H2 s2 hfq hfl hfP => ?_⟩
    refine ⟨fq, rfl, ⟨_, SqL.of hfl⟩, ?_⟩
    have hD2 : H2 D = some (.lst []) := s2 _ _ upd_same
    have fD : fq ≠ D := fun e => by rw [e, upd_same] at hfq; cases hfq
    have hfH : H fq = none := by
      rw [upd_ne fD] at hfq
      exact hfq
    have hl := hfP.length
    refine for_it (walk_list (xs := fxs)) (fun i σ H' => (∃ v1 v2, σ = [some (.ref p), some (.ref q), some (.ref D), v1, v2]) ∧ ∃ B' ys ms, Step B H B' H' ∧ B' D = none ∧ H' D = some (.lst ys) ∧ H' fq = some (.lst fxs) ∧ Paired (LvA K B') ys ms ∧ Paired (MemOk ts) ms (kn.fields.take i))
      ⟨⟨_, _, rfl⟩, B, [], [], Step.same sB (s1.trans s2), sB.free hD, hD2, hfl, .nil, .nil⟩ (fun i σ H' _ ⟨_, _, _, _, _, _, _, h, _⟩ => SqL.of h) ?_ ?_
    · rintro i z σ H3 H4 hi ⟨⟨v1, v2, rfl⟩, B3, ys, ms, st, nD, hd, hfq3, hY, hM⟩ ⟨rfl, hv0⟩
      obtain ⟨⟨n, so⟩, hf, a, rfl, hT⟩ := paired_at hfP hv0
      refine ⟨a, _, rfl, same_tup (sB.trans st.hh) hT, rfl, _, _, rfl, _, _, rfl, rfl, ?_⟩
      have hfm := List.mem_of_getElem? hf
      have small : ys.length < sizeLine := by
        rw [hY.length, hM.length, List.length_take]
        have := kok.fs.1
        have : 62 < sizeLine := by decide
        omega
      have eD : fq ≠ D := fD
      have fin : ∀ (a2 : Addr) (m : List V) (H5 : Hp), Same H4 H5 → H4 a2 = none → H5 a2 = some (.lst m) → MemOk ts m (n, so) →
          ∃ B' ys' ms', Step B H B' (upd H5 D (.lst (ys ++ [.ref a2]))) ∧ B' D = none ∧ (upd H5 D (.lst (ys ++ [.ref a2]))) D = some (.lst ys') ∧ (upd H5 D (.lst (ys ++ [.ref a2]))) fq = some (.lst fxs) ∧ Paired (LvA K B') ys' ms' ∧ Paired (MemOk ts) ms' (kn.fields.take (i + 1)) := fun a2 m H5 s5 ha2 hl2 mok => by
        have st5 := (st.trans (Step.same st.bh s5)).frz (p := a2) (o := .lst m) (st.hh.free ha2) hl2
        have n2 : D ≠ a2 := ne_of_none hd ha2
        have nD5 : upd B3 a2 (.lst m) D = none := by
          rw [upd_ne n2]
          exact nD
        refine ⟨_, ys ++ [.ref a2], ms ++ [m], st5.own hD nD5, nD5, upd_same, ?_, ?_, ?_⟩
        · rw [upd_ne eD]
          exact s5 _ _ hfq3
        · refine paired_app (paired_mono LvA.mono (fun b o e => ?_) hY) (.cons ⟨a2, rfl, SqL.of upd_same⟩ .nil)
          rw [upd_ne (ne_of_none (st.bh _ _ e) ha2)]
          exact e
        · rw [take_succ_of hf]
          exact paired_app hM (.cons mok .nil)
      have hP4 := paired_mono TsA.mono st.hh hP
      rcases (kok.fs.2.1 _ hfm).2 with e | e
      · obtain rfl : so = "word" := e
        refine ⟨_, rfl, .inl ⟨rfl, _, SqL.of hd⟩, _, rfl, rfl, _, rfl, iteT ⟨_, rfl, _, rfl, n, q, xs, ts, rfl, st.hh.seq hq, hP4, tok.few _ hfm, fun t ht e => (tst_word kok (tok.ok t ht) e hfm).1, fun a2 ws w0 H5 s5 ha2 hl2 wm => ?_⟩⟩
        exact ⟨D, ys, _, rfl, rfl, s5 _ _ hd, small, ⟨_, _, rfl⟩, fin a2 _ H5 s5 ha2 hl2 (.inl ⟨rfl, ws, w0, rfl, wm⟩)⟩
      · obtain rfl : so = "number" := e
        refine ⟨_, rfl, .inl ⟨rfl, _, SqL.of hd⟩, _, rfl, rfl, _, rfl, iteF ⟨_, rfl, _, rfl, n, q, xs, ts, rfl, st.hh.seq hq, hP4, tok.len, fun t ht e => ?_, fun a2 ns H5 s5 ha2 hl2 wm => ?_⟩⟩
        · obtain ⟨⟨j, hj, _⟩, h⟩ := tst_number kok (tok.ok t ht) e hfm
          exact ⟨⟨j, hj⟩, h⟩
        · exact ⟨D, ys, _, rfl, rfl, s5 _ _ hd, small, ⟨_, _, rfl⟩, fin a2 _ H5 s5 ha2 hl2 (.inr ⟨rfl, ns, rfl, wm⟩)⟩
    · rintro σ H3 ⟨⟨v1, v2, rfl⟩, B3, ys, ms, st, nD, hd, hfq3, hY, hM⟩
      rw [hl, List.take_length] at hM
      exact ⟨_, rfl, k D ys ms B3 H3 st hD hd hY hM⟩
theorem ok_first_difference (T : Top K mg) (c_answer_for : Met P w K mg base CX0 6 (cR K) "answer_for" (sp_answer_for K)) : Cal P w K mg base CX0 7 "first_difference" (sp_first_difference K) := by
  have nd := sc_first_difference.nd
  refine cal_of (ps := P_first_difference) T.d_first_difference (fun _ _ _ _ _ _ us hl => match us, hl with | [_, _, _], _ => rfl) sc_first_difference (fun vs H Q E h => ?_) (fun f cdv A outer s H vs Q E hr h => ?_)
  · obtain ⟨v1, v2, k, rs1, rs2, q, xs, cs, rfl, _⟩ := h
    rfl
  · obtain ⟨v1, v2, kn, rs1, rs2, q, xs, cs, rfl, hR1, hR2, kok, ok1, ok2, hq, hP, hC, k⟩ := h
    obtain ⟨p1, dx1, kv1, r1, xs1, rfl, hp1, hK1, hr1, hP1⟩ := id hR1
    obtain ⟨p2, dx2, kv2, r2, xs2, rfl, hp2, hK2, hr2, hP2⟩ := id hR2
    have hl := hP.length
    refine ⟨_, (pss_cons (ps_for PassesOwn.never rfl (pi_list (pv 2)) (pg_name (i := 3) nd rfl (by first | exact Or.inl rfl | exact Or.inr rfl)) (pss_one (ps_if (pt_cmpR op_ne (pmet c_answer_for hr (by decide) T.k_RuleList (pv 0) (pa_cons (pv 3) pa_nil)) (pmet c_answer_for hr (by decide) T.k_RuleList (pv 1) (pa_cons (pv 3) pa_nil)) (nomark _)) (pss_one (ps_ret (pv 3))) pss_nil)))
    (pss_one (ps_ret pe_non))), ?_⟩
    refine ⟨_, rfl, q, rfl, ⟨_, hq⟩, ?_⟩
    refine for_it (walk_list (xs := xs)) (fun i σ H' => (∃ v, σ = [some (.ref p1), some (.ref p2), some (.ref q), v]) ∧ Same H H' ∧ ∀ c ∈ cs.take i, answ kn.fields c rs1 = answ kn.fields c rs2) ⟨⟨_, rfl⟩, Same.refl H, by simp⟩ (fun i σ H' _ p => p.2.1.seq hq) ?_ ?_
    · rintro i z σ H3 H4 hi ⟨⟨v0, rfl⟩, s3, all⟩ ⟨rfl, hv0⟩
      obtain ⟨c, hf, ua, rfl, hU⟩ := paired_at hP hv0
      have hcm := List.mem_of_getElem? hf
      refine ⟨_, rfl, p1, dx1, _, rfl, s3 _ _ hp1, rfs_no _ _ (by decide +kernel), _, rfl, _, kn, rs1, _, c, rfl, hR1.mono s3, kok, ok1, ⟨ua, rfl, same_tup s3 hU⟩, hC c hcm, fun H5 s5 => ?_⟩
      have s35 := s3.trans s5
      refine ⟨_, rfl, p2, dx2, _, rfl, s35 _ _ hp2, rfs_no _ _ (by decide +kernel), _, rfl, _, kn, rs2, _, c, rfl, hR2.mono s35, kok, ok2, ⟨ua, rfl, same_tup s35 hU⟩, hC c hcm, fun H6 s6 => ?_⟩
      have s36 := s35.trans s6
      refine ⟨rfl, _, rfl, ?_⟩
      by_cases e : answ kn.fields c rs1 = answ kn.fields c rs2
      · rw [show (!decide (V.str (answ kn.fields c rs1) = V.str (answ kn.fields c rs2))) = false by simp [e]]
        refine iteF ⟨⟨_, rfl⟩, s36, fun c' hc' => ?_⟩
        rw [take_succ_of hf, List.mem_append, List.mem_singleton] at hc'
        rcases hc' with z | z
        · exact all c' z
        · rw [z]
          exact e
      · rw [show (!decide (V.str (answ kn.fields c rs1) = V.str (answ kn.fields c rs2))) = true by simp [e]]
        exact iteT ⟨_, rfl, (k _ s36).2 (fun z => e (z c hcm)) ua⟩
    · rintro σ H3 ⟨⟨v0, rfl⟩, s3, all⟩
      rw [hl, List.take_length] at all
      exact (k _ s3).1 all
end
end K5
set_option Elab.async false
set_option linter.all false
set_option maxRecDepth 100000
set_option maxHeartbeats 2000000
/-! One case for each choice, in plain. -/
namespace K5
open PySem PySem.Spec PyProof.Rows L2
def ext (cs : List Cse) (m : List V) : List Cse := cs.flatMap fun c => m.map fun v => c ++ [v]
def grdFrom (cs : List Cse) (ms : List (List V)) : List Cse := ms.foldl ext cs
abbrev grd (ms : List (List V)) : List Cse := grdFrom [[]] ms
def prodFrom (n : Nat) (ms : List (List V)) : Nat := ms.foldl (fun n m => n * m.length) n
abbrev prodL (ms : List (List V)) : Nat := prodFrom 1 ms
theorem grd_snoc (ms : List (List V)) (m : List V) : grd (ms ++ [m]) = ext (grd ms) m := by
  simp [grd, grdFrom, List.foldl_append]
theorem prod_snoc (ms : List (List V)) (m : List V) : prodL (ms ++ [m]) = prodL ms * m.length := by
  simp [prodL, prodFrom, List.foldl_append]
theorem ext_len (m : List V) : ∀ cs : List Cse, (ext cs m).length = cs.length * m.length
  | [] => by simp [ext]
  | c :: cs => by
    have ih := ext_len m cs
    show ((m.map fun v => c ++ [v]) ++ ext cs m).length = _
    rw [List.length_append, List.length_map, ih, List.length_cons, Nat.succ_mul]
    omega
theorem ext_take {cs : List Cse} {j : Nat} {c : Cse} (m : List V) (h : cs[j]? = some c) : ext (cs.take (j + 1)) m = ext (cs.take j) m ++ m.map fun v => c ++ [v] := by
  rw [take_succ_of h, ext, List.flatMap_append]
  simp [ext]
theorem ext_take_len (cs : List Cse) (m : List V) (j : Nat) : (ext (cs.take j) m).length ≤ (ext cs m).length := by
  rw [ext_len, ext_len, List.length_take]
  exact Nat.mul_le_mul_right _ (Nat.min_le_right _ _)
theorem grdFrom_len : ∀ (ms : List (List V)) (cs : List Cse), (grdFrom cs ms).length = prodFrom cs.length ms
  | [], _ => rfl
  | m :: ms, cs => by
    show (grdFrom (ext cs m) ms).length = prodFrom (cs.length * m.length) ms
    rw [grdFrom_len ms, ext_len]
theorem grd_len (ms : List (List V)) : (grd ms).length = prodL ms := grdFrom_len ms [[]]
theorem prodFrom_le : ∀ (ms : List (List V)) (n : Nat), (∀ m ∈ ms, 1 ≤ m.length) → n ≤ prodFrom n ms
  | [], n, _ => Nat.le_refl n
  | m :: ms, n, h => by
    have h1 := h m (List.mem_cons_self ..)
    have h2 := prodFrom_le ms (n * m.length) fun q hq => h q (List.mem_cons_of_mem _ hq)
    exact Nat.le_trans (Nat.le_mul_of_pos_right n h1) h2
theorem prod_take_le (ms : List (List V)) (i : Nat) (h : ∀ m ∈ ms, 1 ≤ m.length) : prodL (ms.take i) ≤ prodL ms := by
  have e : prodL ms = prodFrom (prodL (ms.take i)) (ms.drop i) := by
    unfold prodL prodFrom
    rw [← List.foldl_append, List.take_append_drop]
  rw [e]
  exact prodFrom_le _ _ fun m hm => h m (List.mem_of_mem_drop hm)
/-- the cases of a grid: one member of each -/
theorem grdFrom_mem : ∀ (ms : List (List V)) (cs : List Cse) (c : Cse), c ∈ grdFrom cs ms ↔ ∃ c0 ∈ cs, ∃ d, Paired (fun v m => v ∈ m) d ms ∧ c = c0 ++ d
  | [], cs, c => by
    constructor
    · intro h
      exact ⟨c, h, [], .nil, (List.append_nil c).symm⟩
    · rintro ⟨c0, h0, d, hd, rfl⟩
      cases hd
      rw [List.append_nil]
      exact h0
  | m :: ms, cs, c => by
    show c ∈ grdFrom (ext cs m) ms ↔ _
    rw [grdFrom_mem ms]
    constructor
    · rintro ⟨c0, h0, d, hd, rfl⟩
      obtain ⟨c1, h1, h2⟩ := List.mem_flatMap.mp h0
      obtain ⟨v, hv, rfl⟩ := List.mem_map.mp h2
      exact ⟨c1, h1, v :: d, .cons hv hd, by simp⟩
    · rintro ⟨c0, h0, d, hd, rfl⟩
      cases hd with
      | @cons v _ d' _ hv hd' =>
        exact ⟨c0 ++ [v], List.mem_flatMap.mpr ⟨c0, h0, List.mem_map.mpr ⟨v, hv, rfl⟩⟩, d', hd', by simp⟩
theorem grd_size {ms : List (List V)} {c : Cse} (h : c ∈ grd ms) : c.length = ms.length := by
  obtain ⟨c0, h0, d, hd, rfl⟩ := (grdFrom_mem ms [[]] c).mp h
  rw [List.mem_singleton] at h0
  subst h0
  exact hd.length
theorem grd_mem (ms : List (List V)) (c : Cse) : c ∈ grd ms ↔ Paired (fun v m => v ∈ m) c ms := by
  rw [grd, grdFrom_mem]
  constructor
  · rintro ⟨c0, h0, d, hd, rfl⟩
    rw [List.mem_singleton] at h0
    subst h0
    exact hd
  · intro h
    exact ⟨[], List.mem_singleton.mpr rfl, c, h, rfl⟩
/-! ### how many members -/
def strOf (v : V) : Str := match v with
  | .str x => x
  | _ => ""
def endOf (t : Tst) : Int := match t.2.2 with
  | .int j => if t.2.1 = "most" then j else j - 1
  | _ => 0
theorem endOf_of {n : Str} {t : Tst} {x : Int} (h : NumOf n t x) : endOf t = x := by
  obtain ⟨_, j, hj, ⟨h1, h2⟩ | ⟨h1, _, h2⟩⟩ := h
  · rw [endOf, hj]
    show (if t.2.1 = "most" then j else j - 1) = x
    rw [if_pos h1, h2]
  · rw [endOf, hj]
    show (if t.2.1 = "most" then j else j - 1) = x
    rw [if_neg (by rw [h1]; decide +kernel), h2]
theorem mem_len {ts : List Tst} {m : List V} {f : Str × Str} (h : MemOk ts m f) : m.length ≤ nTests ts f.1 + 1 := by
  rcases h with ⟨_, ws, w0, rfl, h⟩ | ⟨_, ns, rfl, h⟩
  · rw [List.length_map, List.length_append]
    have := nodup_len ws ((ts.filter fun t => decide (t.1 = f.1)).map fun t => strOf t.2.2) h.nd fun x hx => by
      obtain ⟨t, ht, h1, h2⟩ := (h.mem x).mp hx
      refine List.mem_map.mpr ⟨t, List.mem_filter.mpr ⟨ht, decide_eq_true h1⟩, ?_⟩
      rw [h2]
      rfl
    rw [List.length_map] at this
    exact Nat.succ_le_succ this
  · rw [List.length_map]
    have := nodup_len ns (9999 :: (ts.filter fun t => decide (t.1 = f.1)).map endOf) h.nd fun x hx => by
      rcases (h.mem x).mp hx with e | ⟨t, ht, h1⟩
      · rw [e]
        exact List.mem_cons_self ..
      · exact List.mem_cons_of_mem _ (List.mem_map.mpr ⟨t, List.mem_filter.mpr ⟨ht, decide_eq_true h1.1⟩, endOf_of h1⟩)
    rw [List.length_cons, List.length_map] at this
    exact this
theorem nTests_le (ts : List Tst) (n : Str) : nTests ts n ≤ ts.length := List.length_filter_le ..
end K5
set_option Elab.async false
set_option linter.all false
set_option maxRecDepth 100000
set_option maxHeartbeats 2000000
namespace K5
open PySem PySem.Spec PyProof.Rows L2
abbrev N_grid : List Str := ["kind", "tests", "rows", "count", "row", "cases", "case", "value"]
abbrev P_grid : List Str := ["kind", "tests"]
theorem sc_grid : FnScope N_grid P_grid (defScope s_grid) := ⟨rfl, rfl, rfl, by decide +kernel, rfl, by decide +kernel, by decide +kernel⟩
theorem ip_mul {X : Cx} : PIp X .Mult (rI CMul fun i j => .int (i * j)) := fun pins s σ H x y v u Q I r1 r2 h => iop_mul pins s σ H x y v u Q I r1 r2 h
theorem mem_one {ts : List Tst} {m : List V} {f : Str × Str} (h : MemOk ts m f) : 1 ≤ m.length := by
  rcases h with ⟨_, ws, w0, rfl, _⟩ | ⟨_, ns, rfl, h⟩
  · simp
  · rw [List.length_map]
    exact List.length_pos_of_mem ((h.mem 9999).mpr (.inl rfl))
theorem mems_one {ts : List Tst} : ∀ {ms : List (List V)} {fs : Flds}, Paired (MemOk ts) ms fs → ∀ m ∈ ms, 1 ≤ m.length
  | _, _, .nil, _, h => by cases h
  | _, _, .cons r t, m, h => by
    rcases List.mem_cons.mp h with e | h
    · rw [e]
      exact mem_one r
    · exact mems_one t m h
def sp_grid (K : PySem.W.Frag) : Sp := fun vs H Q E => ∃ B v k q xs ts, vs = [v, .ref q] ∧ Same B H ∧ KdA K B v k ∧ KndOk k ∧ SqL K H q xs ∧ Paired (TsA K H) xs ts ∧ TestsOk k ts ∧ ∀ ms, Paired (MemOk ts) ms k.fields →
  (prodL ms ≤ 2000 ∧ ∀ a ys B' H', Step B H B' H' → H a = none → H' a = some (.lst ys) → Paired (CaA K B') ys (grd ms) → Q (.ref a) H') ∨
  (2000 < prodL ms ∧ ∀ H' d, Same H H' → H' d = none → E (.ref (cTM K)) (some d) (upd H' d (.xd [("count", .int (prodL ms : Nat))])))
section
variable {P : Program} {w : World} {K : PySem.W.Frag} {mg : Str → Option Value} {base : Heap}
theorem ok_grid (T : Top K mg) (Y : TopX K mg) (c_TooMany : IniOk P w K mg base (cTM K) "count") (c_members : Cal P w K mg base CX0 4 "members" (sp_members K)) : Cal P w K mg base (L2.CX P w) 5 "grid" (sp_grid K) := by
  have nd := sc_grid.nd
  refine cal_ofX (ps := P_grid) T.d_grid (fun _ _ _ _ _ _ us hl => match us, hl with | [_, _], _ => rfl) sc_grid (fun vs H Q E h => ?_) (fun f cdv A outer s H vs Q E hr h => ?_)
  · obtain ⟨B, v, k, q, xs, ts, rfl, _⟩ := h
    rfl
  · obtain ⟨B, v, kn, q, xs, ts, rfl, sB, hK, kok, hq, hP, tok, k⟩ := h
    refine ⟨_, (pss_cons (ps_set (i := 2) nd rfl (by first | exact Or.inl rfl | exact Or.inr rfl) (pcal c_members hr (by decide) (by rfl) (pa_cons (pv 0) (pa_cons (pv 1) pa_nil))))
    (pss_cons (ps_set (i := 3) nd rfl (by first | exact Or.inl rfl | exact Or.inr rfl) pe_int)
    (pss_cons (ps_for (passes_of rfl) rfl (pi_list (pv 2)) (pg_name (i := 4) nd rfl (by first | exact Or.inl rfl | exact Or.inr rfl)) (pss_one (ps_aug (i := 3) nd rfl (by first | exact Or.inl rfl | exact Or.inr rfl) (pe_callB call_len_seq (by rfl) T.f_len (by decide +kernel) (pa_cons (pv 4) pa_nil)) ip_mul)))
    (pss_cons (ps_if (pt_cmpR op_gt (pv 3) (gc rfl T.c_MOST_GROUPS) (nomark _)) (pss_one (ps_raise rfl (takes_of rfl rfl rfl rfl) (pmk_TooMany Y c_TooMany hr (by decide) rfl (pa_cons (pv 3) pa_nil)))) pss_nil)
    (pss_cons (ps_set (i := 5) nd rfl (by first | exact Or.inl rfl | exact Or.inr rfl) (pe_lst (pa_cons (pe_tup pa_nil) pa_nil)))
    (pss_cons (ps_for (passes_of rfl) rfl (pi_list (pv 2)) (pg_name (i := 4) nd rfl (by first | exact Or.inl rfl | exact Or.inr rfl)) (pss_one (ps_setLc2 (i := 5) (own := [("case", 6), ("value", 7)]) (g := (gName 6)) (vs1 := [7]) (g1 := (gName 7)) rfl nd rfl rfl (sw_true rfl rfl rfl (by decide +kernel)) (pi_list (pv 5)) (blkOk_by (own := [("case", 6), ("value", 7)]) (N := N_grid) (sc := defScope s_grid) (by decide +kernel)) (by decide) (fun _ _ _ _ _ => (pg_name (i := 6) nd rfl (by first | exact Or.inl rfl | exact Or.inr rfl))) (fun _ _ _ _ _ => pts_nil) (fun _ _ _ _ _ => (pi_listK (K := K) (pi_list (pv 4)))) (fun _ _ _ _ _ => (pg_name (i := 7) nd rfl (by first | exact Or.inl rfl | exact Or.inr rfl))) (fun _ _ _ _ _ => pts_nil) (fun _ _ _ _ _ => (pe_op (op_catAK (K := K)) (pv 6) (pe_tup (pa_cons (pv 7) pa_nil)))))))
    (pss_one (ps_ret (pv 5))))))))), ?_⟩
    refine ⟨_, rfl, _, rfl, B, v, kn, q, xs, ts, rfl, sB, hK, kok, hq, hP, tok, fun rq ys ms B1 H1 st hrq hrl hY hM => ?_⟩
    have km := k ms hM
    have hone : ∀ m ∈ ms, 1 ≤ m.length := mems_one hM
    have hl := hY.length
    refine ⟨_, rfl, rq, rfl, ⟨_, SqL.of hrl⟩, ?_⟩
    refine for_it (walk_list (xs := ys)) (fun i σ H' => (∃ v4 v5 v6 v7, σ = [some v, some (.ref q), some (.ref rq), some (.int (prodL (ms.take i) : Nat)), v4, v5, v6, v7]) ∧ H' = H1) ⟨⟨_, _, _, _, rfl⟩, rfl⟩ (fun i σ H' _ p => p.2 ▸ SqL.of hrl) ?_ ?_
    · rintro i z σ H2 H3 hi ⟨⟨v4, v5, v6, v7, rfl⟩, rfl⟩ ⟨rfl, hv0⟩
      obtain ⟨m, hf, b, rfl, hm⟩ := paired_at hY hv0
      have hmz : (m.length : Int) < 2 ^ 64 := by
        obtain ⟨fd, _, hmok⟩ := paired_at hM hf
        have h1 := mem_len hmok
        have h2 := nTests_le ts fd.1
        have h3 := tok.len
        omega
      rw [take_succ_of hf, prod_snoc]
      exact ⟨_, rfl, _, rfl, b, m, rfl, .inl (st.bh.seq hm), _, _, rfl, rfl, .inr ⟨by omega, hmz⟩, ⟨_, _, _, _, rfl⟩, rfl⟩
    · rintro σ H2 ⟨⟨v4, v5, v6, v7, rfl⟩, rfl⟩
      rw [hl, List.take_length]
      rcases km with ⟨hle, km⟩ | ⟨hgt, km⟩
      · refine ⟨_, rfl, _, _, rfl, rfl, _, rfl, ?_⟩
        rw [decide_eq_false (show ¬ (2000 : Int) < (prodL ms : Nat) by omega)]
        refine iteF ?_
        refine ⟨by decide, fun e0 he0 => ⟨(show 1 ≤ sizeLine by decide), fun c0 hc0 => ?_⟩⟩
        have a1 := Step.new (o := .tup []) st.bh he0
        have a2 := a1.trans (Step.tmp (o := .lst [.ref e0]) a1.bh hc0)
        have a3 := st.trans a2
        have n0 : rq ≠ c0 := ne_of_none (a1.hh _ _ hrl) hc0
        have hrq3 := a2.hh _ _ hrl
        have hce : c0 ≠ e0 := fun e => by rw [e, upd_same] at hc0; cases hc0
        have hc0' : H2 c0 = none := by rw [upd_ne hce] at hc0; exact hc0
        have hcH : H c0 = none := st.hh.free hc0'
        have h0c : (upd (upd H2 e0 (.tup [])) c0 (.lst [V.ref e0])) c0 = some (.lst [V.ref e0]) := upd_same
        have hmB : ∀ {b : Addr} {m : List V}, SqL K B1 b m → SqL K (upd B1 e0 (.tup [])) b m := fun h => a1.bb.seq h
        have h0B : Paired (CaA K (upd B1 e0 (.tup []))) [V.ref e0] (grd (ms.take 0)) := .cons ⟨e0, rfl, .inl (.inl upd_same)⟩ .nil
        generalize upd (upd H2 e0 (.tup [])) c0 (.lst [V.ref e0]) = Hz at a2 a3 hrq3 h0c ⊢
        generalize upd B1 e0 (.tup []) = Bz at a1 a2 a3 hmB h0B
        have sz := a3.bh
        refine ⟨_, rfl, rq, rfl, ⟨_, SqL.of hrq3⟩, ?_⟩
        refine for_it (walk_list (xs := ys)) (fun i σ H' => ∃ cq v4 v6 v7, σ = [some v, some (.ref q), some (.ref rq), some (.int (prodL ms : Nat)), v4, some (.ref cq), v6, v7] ∧ ∃ B' zs, Step Bz Hz B' H' ∧ H cq = none ∧ H' cq = some (.lst zs) ∧ Paired (CaA K B') zs (grd (ms.take i)))
          ⟨c0, _, _, _, rfl, Bz, _, Step.refl sz, hcH, h0c, h0B⟩ (fun i σ H' _ ⟨_, _, _, _, _, _, _, st', _⟩ => SqL.of (st'.hh _ _ hrq3)) ?_ ?_
        · rintro i z σ H3 H4 hi ⟨cq, v4, v6, v7, rfl, B3, zs, st3, hcq, hzs, hZ⟩ ⟨rfl, hv0⟩
          obtain ⟨m, hf, b, rfl, hm⟩ := paired_at hY hv0
          have hm := hmB hm
          have hzl := hZ.length
          have hlen : (ext (grd (ms.take i)) m).length ≤ 2000 := by
            rw [← grd_snoc, ← take_succ_of hf, grd_len]
            exact Nat.le_trans (prod_take_le ms (i + 1) hone) hle
          refine ⟨_, rfl, cq, rfl, ⟨_, SqL.of hzs⟩, fun D hD => ?_⟩
          have DH : H D = none := a3.hh.free (st3.hh.free hD)
          have nD3 := st3.bh.free hD
          refine lc2_it (walk_list (xs := zs)) (fun j H' => ∃ B' ws, Step B3 H4 B' H' ∧ B' D = none ∧ H' D = some (.lst ws) ∧ Paired (CaA K B') ws (ext ((grd (ms.take i)).take j) m))
            ⟨B3, [], Step.tmp st3.bh hD, nD3, upd_same, .nil⟩ (fun j H' _ ⟨_, _, st', _⟩ => SqL.of (st'.hh _ _ hzs)) ?_ ?_
          · rintro j u H5 H6 hj ⟨B5, ws, st5, nD5, hws, hW⟩ ⟨rfl, hv5⟩
            obtain ⟨c, hcf, ua, rfl, hU⟩ := paired_at hZ hv5
            have hcs : c.length ≤ 4 := by
              rw [grd_size (List.mem_of_getElem? hcf), List.length_take]
              have := kok.fs.1
              have := hM.length
              omega
            refine ⟨rfl, yesT (iteT ?_)⟩
            refine ⟨_, rfl, b, rfl, ⟨_, (st3.bb.trans st5.bb |>.trans st5.bh).seq hm⟩, ?_⟩
            refine lc2_in (walk_list (xs := m)) (fun l H' => ∃ B' ws, Step B3 H4 B' H' ∧ B' D = none ∧ H' D = some (.lst ws) ∧ Paired (CaA K B') ws (ext ((grd (ms.take i)).take j) m ++ (m.take l).map fun v => c ++ [v]))
              ⟨B5, ws, st5, nD5, hws, by simpa using hW⟩ (fun l H' _ ⟨_, _, st', _⟩ => (st3.bb.trans st'.bb |>.trans st'.bh).seq hm) ?_ ?_
            · rintro l x H7 H8 hl7 ⟨B7, ws7, st7, nD7, hws7, hW7⟩ ⟨rfl, hv7⟩
              refine ⟨rfl, yesT (iteT ?_)⟩
              have hsm : ws7.length < sizeLine := by
                rw [hW7.length, List.length_append, List.length_map, List.length_take]
                have e1 : (ext ((grd (ms.take i)).take (j + 1)) m).length = (ext ((grd (ms.take i)).take j) m).length + m.length := by
                  rw [ext_take m hcf, List.length_append, List.length_map]
                have e2 := ext_take_len (grd (ms.take i)) m (j + 1)
                have : 2000 < sizeLine := by decide
                omega
              have hU7 := same_tup (st7.bb.trans st7.bh) hU
              refine ⟨_, rfl, _, rfl, (show 1 ≤ sizeLine by decide), fun tp htp => ⟨ua, tp, c, [x], rfl, rfl, ?_, .inl (.inl upd_same), ?_, fun hnil => ?_, fun _ h => ?_, fun _ _ p hp => ?_⟩⟩
              · exact same_tup (same_new htp) hU7
              · have : 60 < sizeLine := by decide
                show c.length + 1 ≤ _
                omega
              · subst hnil
                have b1 := Step.new (o := .tup [x]) st7.bh htp
                have dt : D ≠ tp := ne_of_none hws7 htp
                have nd2 : upd B7 tp (.tup [x]) D = none := by rw [upd_ne dt]; exact nD7
                refine ⟨ws7, by rw [upd_ne dt]; exact hws7, hsm, _, _, (st7.trans b1).own hD nd2, nd2, upd_same, ?_⟩
                rw [take_succ_of hv7, List.map_append, ← List.append_assoc]
                exact paired_app (paired_mono CaA.mono b1.bb hW7) (.cons ⟨tp, rfl, .inl (.inl upd_same)⟩ .nil)
              · cases h
              · have b1 := Step.tmp (o := .tup [x]) st7.bh htp
                have b2 := Step.new (o := .tup (c ++ [x])) b1.bh hp
                have dt : D ≠ tp := ne_of_none hws7 htp
                have hws8 : (upd H8 tp (.tup [x])) D = some (.lst ws7) := by rw [upd_ne dt]; exact hws7
                have dp : D ≠ p := ne_of_none hws8 hp
                have nd2 : upd B7 p (.tup (c ++ [x])) D = none := by rw [upd_ne dp]; exact nD7
                refine ⟨ws7, by rw [upd_ne dp]; exact hws8, hsm, _, _, ((st7.trans b1).trans b2).own hD nd2, nd2, upd_same, ?_⟩
                rw [take_succ_of hv7, List.map_append, ← List.append_assoc]
                exact paired_app (paired_mono CaA.mono b2.bb hW7) (.cons ⟨p, rfl, .inl (.inl upd_same)⟩ .nil)
            · rintro H7 ⟨B7, ws7, st7, nD7, hws7, hW7⟩
              rw [List.take_length, ← ext_take m hcf] at hW7
              exact ⟨B7, ws7, st7, nD7, hws7, hW7⟩
          · rintro H5 ⟨B5, ws, st5, nD5, hws, hW⟩
            rw [hzl, List.take_length, ← grd_snoc, ← take_succ_of hf] at hW
            refine ⟨D, _, _, _, rfl, B5, ws, st3.trans st5, DH, hws, hW⟩
        · rintro σ H3 ⟨cq, v4, v6, v7, rfl, B3, zs, st3, hcq, hzs, hZ⟩
          rw [hl, List.take_length] at hZ
          exact ⟨_, rfl, km cq zs B3 H3 (a3.trans st3) hcq hzs hZ⟩
      · refine ⟨_, rfl, _, _, rfl, rfl, _, rfl, ?_⟩
        rw [decide_eq_true (show (2000 : Int) < (prodL ms : Nat) by omega)]
        refine iteT ⟨_, rfl, mk_exc fun d hd => km _ d st.hh hd⟩
end
end K5
set_option Elab.async false
set_option linter.all false
set_option maxRecDepth 100000
set_option maxHeartbeats 2000000
/-! A grid stands for all cases, in plain. -/
namespace K5
open PySem PySem.Spec PyProof.Rows L2
/-- members of a field that stand for all its values -/
structure FullMem (ts : List Tst) (m : List V) (f : Str × Str) : Prop where
  ok : ∀ v ∈ m, ValOk f.2 v
  full : ∀ x, ValOk f.2 x → ∃ x' ∈ m, ∀ t ∈ ts, t.1 = f.1 → mt t.2.1 x' t.2.2 = mt t.2.1 x t.2.2
theorem full_word {k : Knd} (kok : KndOk k) {ts : List Tst} (tok : ∀ t ∈ ts, TstOk k t) {n : Str} (hf : (n, ("word" : Str)) ∈ k.fields) {m : List V} {ws : List Str} {w0 : Str} (hm : ∀ v, v ∈ m ↔ ∃ x, v = .str x ∧ (x ∈ ws ∨ x = w0))
    (hw : ∀ x, x ∈ ws ↔ ∃ t ∈ ts, t.1 = n ∧ t.2.2 = .str x) (h0 : w0 ∉ ws) (ok0 : WordOk w0) : FullMem ts m (n, "word") := by
  refine ⟨fun v hv => ?_, fun x hx => ?_⟩
  · obtain ⟨x, rfl, h | h⟩ := (hm v).mp hv
    · obtain ⟨t, ht, h1, h2⟩ := (hw x).mp h
      obtain ⟨⟨y, hy, hok⟩, _⟩ := tst_word kok (tok t ht) h1 hf
      rw [hy] at h2
      exact .inl ⟨rfl, x, rfl, V.str.inj h2 ▸ hok⟩
    · exact .inl ⟨rfl, x, rfl, h ▸ ok0⟩
  · obtain ⟨_, x, rfl, hok⟩ | ⟨h, _⟩ := hx
    · by_cases h : x ∈ ws
      · exact ⟨.str x, (hm _).mpr ⟨x, rfl, .inl h⟩, fun t _ _ => rfl⟩
      · refine ⟨.str w0, (hm _).mpr ⟨w0, rfl, .inr rfl⟩, fun t ht e => ?_⟩
        obtain ⟨⟨y, hy, _⟩, ho⟩ := tst_word kok (tok t ht) e hf
        have hyw : y ∈ ws := (hw y).mpr ⟨t, ht, e, hy⟩
        have n1 : ¬ w0 = y := fun z => h0 (z ▸ hyw)
        have n2 : ¬ x = y := fun z => h (z ▸ hyw)
        rw [hy]
        show (if t.2.1 = "is" then decide (w0 = y) else !decide (w0 = y)) = (if t.2.1 = "is" then decide (x = y) else !decide (x = y))
        rw [decide_eq_false n1, decide_eq_false n2]
    · exact absurd (show ("word" : Str) = "number" from h) (by decide +kernel)
theorem least_ge (ns : List Int) (x : Int) (h : ∃ e ∈ ns, x ≤ e) : ∃ e ∈ ns, x ≤ e ∧ ∀ e' ∈ ns, x ≤ e' → e ≤ e' := by
  induction ns with
  | nil => obtain ⟨e, he, _⟩ := h; cases he
  | cons a ns ih =>
    by_cases h2 : ∃ e ∈ ns, x ≤ e
    · obtain ⟨e, he, h3, h4⟩ := ih h2
      by_cases ha : x ≤ a ∧ a ≤ e
      · refine ⟨a, List.mem_cons_self .., ha.1, fun e' he' hx => ?_⟩
        rcases List.mem_cons.mp he' with z | z
        · omega
        · have := h4 e' z hx
          omega
      · refine ⟨e, List.mem_cons_of_mem _ he, h3, fun e' he' hx => ?_⟩
        rcases List.mem_cons.mp he' with z | z
        · subst z
          omega
        · exact h4 e' z hx
    · obtain ⟨e, he, hx⟩ := h
      rcases List.mem_cons.mp he with z | z
      · refine ⟨a, List.mem_cons_self .., z ▸ hx, fun e' he' hx' => ?_⟩
        rcases List.mem_cons.mp he' with z' | z'
        · omega
        · exact absurd ⟨e', z', hx'⟩ h2
      · exact absurd ⟨e, z, hx⟩ h2
theorem full_number {k : Knd} (kok : KndOk k) {ts : List Tst} (tok : ∀ t ∈ ts, TstOk k t) {n : Str} (hf : (n, ("number" : Str)) ∈ k.fields) {m : List V} {ns : List Int} (hm : ∀ v, v ∈ m ↔ ∃ x, v = .int x ∧ x ∈ ns)
    (hok : ∀ x ∈ ns, NumOk x) (h9 : (9999 : Int) ∈ ns) (hall : ∀ t ∈ ts, ∀ x, NumOf n t x → x ∈ ns) : FullMem ts m (n, "number") := by
  refine ⟨fun v hv => ?_, fun x hx => ?_⟩
  · obtain ⟨x, rfl, h⟩ := (hm v).mp hv
    exact .inr ⟨rfl, x, rfl, hok x h⟩
  · obtain ⟨h, _⟩ | ⟨_, x, rfl, hx⟩ := hx
    · exact absurd (show ("number" : Str) = "word" from h) (by decide +kernel)
    · obtain ⟨e, he, h1, h2⟩ := least_ge ns x ⟨9999, h9, hx.2⟩
      refine ⟨.int e, (hm _).mpr ⟨e, rfl, he⟩, fun t ht et => ?_⟩
      obtain ⟨⟨j, hj, hjn⟩, ho⟩ := tst_number kok (tok t ht) et hf
      rw [hj]
      show (if t.2.1 = "most" then decide (e ≤ j) else decide (j ≤ e)) = (if t.2.1 = "most" then decide (x ≤ j) else decide (j ≤ x))
      rcases ho with ho | ho
      · rw [if_pos ho, if_pos ho]
        have hjm := hall t ht j ⟨et, j, hj, .inl ⟨ho, rfl⟩⟩
        refine decide_eq_decide.mpr ⟨fun z => Int.le_trans h1 z, fun z => h2 j hjm z⟩
      · have nm : ¬ t.2.1 = "most" := fun z => absurd (z.symm.trans ho) (by decide +kernel)
        rw [if_neg nm, if_neg nm]
        refine decide_eq_decide.mpr ⟨fun z => ?_, fun z => Int.le_trans z h1⟩
        by_cases hx2 : j ≤ x
        · exact hx2
        · have hlo : -9999 < j := by have := hx.1; omega
          have hjm := hall t ht (j - 1) ⟨et, j, hj, .inr ⟨ho, hlo, rfl⟩⟩
          have := h2 (j - 1) hjm (by omega)
          omega
theorem full_mem {k : Knd} (kok : KndOk k) {ts : List Tst} (tok : ∀ t ∈ ts, TstOk k t) {m : List V} {f : Str × Str} (hf : f ∈ k.fields) (h : MemOk ts m f) : FullMem ts m f := by
  obtain ⟨n, so⟩ := f
  rcases h with ⟨e, ws, w0, rfl, h⟩ | ⟨e, ns, rfl, h⟩
  · obtain rfl : so = "word" := e
    refine full_word kok tok hf (ws := ws) (w0 := w0) (fun v => ?_) h.mem h.out h.ok
    rw [List.mem_map]
    constructor
    · rintro ⟨x, hx, rfl⟩
      rw [List.mem_append, List.mem_singleton] at hx
      exact ⟨x, rfl, hx⟩
    · rintro ⟨x, rfl, hx⟩
      exact ⟨x, by rw [List.mem_append, List.mem_singleton]; exact hx, rfl⟩
  · obtain rfl : so = "number" := e
    refine full_number kok tok hf (ns := ns) (fun v => ?_) (fun x hx => ?_) ((h.mem _).mpr (.inl rfl)) (fun t ht x hx => (h.mem x).mpr (.inr ⟨t, ht, hx⟩))
    · rw [List.mem_map]
      constructor
      · rintro ⟨x, hx, rfl⟩
        exact ⟨x, rfl, hx⟩
      · rintro ⟨x, rfl, hx⟩
        exact ⟨x, hx, rfl⟩
    · rcases (h.mem x).mp hx with z | ⟨t, ht, et, j, hj, hz⟩
      · rw [z]
        exact ⟨by decide, by decide⟩
      · obtain ⟨⟨j', hj', h1, h2⟩, _⟩ := tst_number kok (tok t ht) et hf
        rw [hj] at hj'
        obtain rfl := V.int.inj hj'
        rcases hz with ⟨_, rfl⟩ | ⟨_, h3, rfl⟩
        · exact ⟨h1, h2⟩
        · exact ⟨by omega, by omega⟩
theorem fulls {k : Knd} (kok : KndOk k) {ts : List Tst} (tok : ∀ t ∈ ts, TstOk k t) : ∀ {ms : List (List V)} {fs : Flds}, (∀ f ∈ fs, f ∈ k.fields) → Paired (MemOk ts) ms fs → Paired (FullMem ts) ms fs
  | _, _, _, .nil => .nil
  | _, _, h, .cons r t => .cons (full_mem kok tok (h _ (List.mem_cons_self ..)) r) (fulls kok tok (fun f hf => h f (List.mem_cons_of_mem _ hf)) t)
/-- the cases of such a grid are cases -/
theorem grid_ok {ts : List Tst} {ms : List (List V)} {fs : Flds} (h : Paired (FullMem ts) ms fs) {c : Cse} (hc : c ∈ grd ms) : CaseOk fs c := by
  have hp := (grd_mem ms c).mp hc
  refine ⟨hp.length.trans h.length, fun i f x hf hx => ?_⟩
  obtain ⟨m, hm, hxm⟩ := paired_at hp hx
  obtain ⟨f', hf', hM⟩ := paired_at h hm
  rw [hf] at hf'
  obtain rfl := Option.some.inj hf'
  exact hM.ok x hxm
theorem pick {ts : List Tst} : ∀ {ms : List (List V)} {fs : Flds} {c : Cse}, Paired (FullMem ts) ms fs → c.length = fs.length → (∀ (i : Nat) (f : Str × Str) (x : V), fs[i]? = some f → c[i]? = some x → ValOk f.2 x) →
    ∃ c' : Cse, Paired (fun v m => v ∈ m) c' ms ∧ ∀ (i : Nat) (f : Str × Str) (x x' : V), fs[i]? = some f → c[i]? = some x → c'[i]? = some x' → ∀ t ∈ ts, t.1 = f.1 → mt t.2.1 x' t.2.2 = mt t.2.1 x t.2.2
  | _, _, [], .nil, _, _ => ⟨[], .nil, fun i f x x' h => by simp at h⟩
  | _, _, _ :: _, .nil, h, _ => by simp at h
  | _, _, [], .cons _ _, h, _ => by simp at h
  | _, _, x :: c, .cons (a := m) (b := f) r t, hl, ok => by
    obtain ⟨x', hx', h1⟩ := r.full x (ok 0 f x rfl rfl)
    obtain ⟨c', hc', h2⟩ := pick t (by simpa using hl) fun i f y hf hy => ok (i + 1) f y (by simpa using hf) (by simpa using hy)
    refine ⟨x' :: c', .cons hx' hc', fun i g y y' hg hy hy' => ?_⟩
    cases i with
    | zero =>
      simp at hg hy hy'
      subst hg hy hy'
      exact h1
    | succ i => exact h2 i g y y' (by simpa using hg) (by simpa using hy) (by simpa using hy')
/-- each case answers as one of the grid -/
theorem grid_full {k : Knd} (kok : KndOk k) {ts : List Tst} (tok : ∀ t ∈ ts, TstOk k t) {ms : List (List V)} (h : Paired (FullMem ts) ms k.fields) {c : Cse} (hc : CaseOk k.fields c) :
    ∃ c' ∈ grd ms, ∀ t ∈ ts, meets k.fields c' t = meets k.fields c t := by
  obtain ⟨c', h1, h2⟩ := pick h hc.len hc.ok
  refine ⟨c', (grd_mem ms c').mpr h1, fun t ht => ?_⟩
  obtain ⟨s, hs, _⟩ := tok t ht
  obtain ⟨j, hj⟩ := List.getElem?_of_mem hs
  obtain ⟨x, hx, _⟩ := hc.at hj
  have hjl : j < c'.length := by
    rw [h1.length, h.length]
    exact (List.getElem?_eq_some_iff.mp hj).1
  have hx' : c'[j]? = some c'[j] := List.getElem?_eq_getElem hjl
  rw [meets, meets, val_at kok.fs.2.2 hj hx, val_at kok.fs.2.2 hj hx']
  exact h2 j _ x _ hj hx hx' t ht rfl
theorem answ_congr {fs : Flds} {c c' : Cse} : ∀ {rs : List Rul}, (∀ r ∈ rs, ∀ t ∈ r.1, meets fs c' t = meets fs c t) → answ fs c' rs = answ fs c rs
  | [], _ => rfl
  | r :: rs, h => by
    have e : allm fs c' r.1 = allm fs c r.1 := by
      have h0 := h r (List.mem_cons_self ..)
      unfold allm
      rw [Bool.eq_iff_iff, List.all_eq_true, List.all_eq_true]
      exact ⟨fun z t ht => (h0 t ht) ▸ z t ht, fun z t ht => (h0 t ht).symm ▸ z t ht⟩
    rw [answ, answ, e, answ_congr fun q hq => h q (List.mem_cons_of_mem _ hq)]
/-- two lists of the same tests answer alike on all cases just when they do on the grid -/
theorem grid_all {k : Knd} (kok : KndOk k) {ts : List Tst} (tok : ∀ t ∈ ts, TstOk k t) {ms : List (List V)} (h : Paired (FullMem ts) ms k.fields) {r1 r2 : List Rul} (h1 : ∀ r ∈ r1, ∀ t ∈ r.1, t ∈ ts) (h2 : ∀ r ∈ r2, ∀ t ∈ r.1, t ∈ ts) :
    (∀ c ∈ grd ms, answ k.fields c r1 = answ k.fields c r2) ↔ ∀ c, CaseOk k.fields c → answ k.fields c r1 = answ k.fields c r2 := by
  constructor
  · intro z c hc
    obtain ⟨c', hc', e⟩ := grid_full kok tok h hc
    rw [← answ_congr (rs := r1) fun r hr t ht => e t (h1 r hr t ht), ← answ_congr (rs := r2) fun r hr t ht => e t (h2 r hr t ht)]
    exact z c' hc'
  · intro z c hc
    exact z c (grid_ok h hc)
/-! ### two neighbours exchanged -/
def swp (rs : List Rul) (i : Nat) : List Rul := match rs[i]?, rs[i + 1]? with
  | some a, some b => (rs.set i b).set (i + 1) a
  | _, _ => rs
/-- the exchange changes no answer -/
def Swp (fs : Flds) (rs : List Rul) (i : Nat) : Prop := ∀ c, CaseOk fs c → answ fs c rs = answ fs c (swp rs i)
theorem swp_split {rs : List Rul} {i : Nat} (h : i + 2 ≤ rs.length) : ∃ a b, rs[i]? = some a ∧ rs[i + 1]? = some b ∧ rs = rs.take i ++ a :: b :: rs.drop (i + 2) ∧ swp rs i = rs.take i ++ b :: a :: rs.drop (i + 2) := by
  have h1 : i < rs.length := by omega
  have h2 : i + 1 < rs.length := by omega
  have e1 : rs[i]? = some rs[i] := List.getElem?_eq_getElem h1
  have e2 : rs[i + 1]? = some rs[i + 1] := List.getElem?_eq_getElem h2
  have e3 : rs = rs.take i ++ rs[i] :: rs[i + 1] :: rs.drop (i + 2) := by
    rw [List.getElem_cons_drop, List.getElem_cons_drop, List.take_append_drop]
  refine ⟨_, _, e1, e2, e3, ?_⟩
  have hl : (rs.take i).length = i := by
    rw [List.length_take]
    omega
  rw [swp, e1, e2]
  show (rs.set i rs[i + 1]).set (i + 1) rs[i] = _
  refine List.ext_getElem? fun j => ?_
  rw [List.getElem?_set, List.getElem?_set, List.length_set]
  by_cases hj1 : i + 1 = j
  · subst hj1
    rw [if_pos rfl, if_pos h2, List.getElem?_append_right (by omega), hl]
    simp
  · rw [if_neg hj1]
    by_cases hj : i = j
    · subst hj
      rw [if_pos rfl, if_pos h1, List.getElem?_append_right (by omega), hl]
      simp
    · rw [if_neg hj]
      by_cases hlt : j < i
      · rw [List.getElem?_append_left (by omega), List.getElem?_take_of_lt hlt]
      · rw [List.getElem?_append_right (by omega), hl]
        obtain ⟨d, rfl⟩ : ∃ d, j = i + 2 + d := ⟨j - (i + 2), by omega⟩
        rw [show i + 2 + d - i = d + 1 + 1 by omega, List.getElem?_cons_succ, List.getElem?_cons_succ, List.getElem?_drop]
theorem swp_mem {rs : List Rul} {i : Nat} (h : i + 2 ≤ rs.length) (r : Rul) : r ∈ swp rs i ↔ r ∈ rs := by
  obtain ⟨a, b, _, _, e1, e2⟩ := swp_split h
  rw [e2]
  conv => rhs; rw [e1]
  simp only [List.mem_append, List.mem_cons]
  constructor
  · rintro (h | h | h | h)
    · exact .inl h
    · exact .inr (.inr (.inl h))
    · exact .inr (.inl h)
    · exact .inr (.inr (.inr h))
  · rintro (h | h | h | h)
    · exact .inl h
    · exact .inr (.inr (.inl h))
    · exact .inr (.inl h)
    · exact .inr (.inr (.inr h))
theorem swp_len (rs : List Rul) (i : Nat) : (swp rs i).length = rs.length := by
  unfold swp
  split <;> simp
theorem swp_ok {k : Knd} {rs : List Rul} {i : Nat} (h : i + 3 ≤ rs.length) (ok : RulsOk k rs) : RulsOk k (swp rs i) := by
  have h2 : i + 2 ≤ rs.length := by omega
  refine ⟨fun r hr => ok.tst r ((swp_mem h2 r).mp hr), fun r hr => ok.wid r ((swp_mem h2 r).mp hr), fun r hr => ok.ans r ((swp_mem h2 r).mp hr), by rw [swp_len]; exact ok.len, ?_⟩
  obtain ⟨a, e⟩ := ok.last
  refine ⟨a, ?_⟩
  obtain ⟨x, y, _, _, e1, e2⟩ := swp_split h2
  have hd : rs.drop (i + 2) ≠ [] := fun z => by
    have := congrArg List.length z
    rw [List.length_drop] at this
    simp at this
    omega
  rw [e1, List.getLast?_append, List.getLast?_cons, List.getLast?_cons] at e
  rw [e2, List.getLast?_append, List.getLast?_cons, List.getLast?_cons]
  cases hz : (rs.drop (i + 2)).getLast? with
  | none => exact absurd (List.getLast?_eq_none_iff.mp hz) hd
  | some z =>
    rw [hz] at e
    exact e
/-- what the tests of a list are -/
theorem tests_mem {rs : List Rul} {r : Rul} (hr : r ∈ rs) {t : Tst} (ht : t ∈ r.1) : t ∈ allTests rs := List.mem_flatMap.mpr ⟨r, hr, ht⟩
theorem tests_ok {k : Knd} {rs : List Rul} (ok : RulsOk k rs) : ∀ t ∈ allTests rs, TstOk k t := fun t ht => by
  obtain ⟨r, hr, h⟩ := List.mem_flatMap.mp ht
  exact ok.tst r hr t h
theorem grid_swp {k : Knd} (kok : KndOk k) {rs : List Rul} (ok : RulsOk k rs) {i : Nat} (hi : i + 2 ≤ rs.length) {ms : List (List V)} (h : Paired (FullMem (allTests rs)) ms k.fields) :
    (∀ c ∈ grd ms, answ k.fields c rs = answ k.fields c (swp rs i)) ↔ Swp k.fields rs i :=
  grid_all kok (tests_ok ok) h (fun r hr t ht => tests_mem hr ht) (fun r hr t ht => tests_mem ((swp_mem hi r).mp hr) ht)
end K5
set_option Elab.async false
set_option linter.all false
set_option maxRecDepth 100000
set_option maxHeartbeats 2000000
namespace K5
open PySem PySem.Spec PyProof.Rows L2
abbrev N_need_list : List Str := ["value"]
abbrev P_need_list : List Str := ["value"]
theorem sc_need_list : FnScope N_need_list P_need_list (defScope s_need_list) := ⟨rfl, rfl, rfl, by decide +kernel, rfl, by decide +kernel, by decide +kernel⟩
abbrev N_may_swap : List Str := ["rule_list", "index", "rules", "cases"]
abbrev P_may_swap : List Str := ["rule_list", "index"]
theorem sc_may_swap : FnScope N_may_swap P_may_swap (defScope s_may_swap) := ⟨rfl, rfl, rfl, by decide +kernel, rfl, by decide +kernel, by decide +kernel⟩
def sp_need_list (K : PySem.W.Frag) : Sp := fun vs H Q E => ∃ v t b, vs = [v] ∧ TyX K H v t ∧ PySem.W.kitOne K t (.ref (cR K)) = some b ∧ (b = true → ∀ H', Same H H' → Q .non H') ∧
  (b = false → ∀ d, H d = none → E (.ref (cIL K)) (some d) (upd H d (.xd [("value", v)])))
def sp_may_swap (K : PySem.W.Frag) : Sp := fun vs H Q E => ∃ v x, vs = [v, x] ∧
  ((∃ t, TyX K H v t ∧ PySem.W.kitOne K t (.ref (cR K)) = some false ∧ ∀ d, H d = none → E (.ref (cIL K)) (some d) (upd H d (.xd [("value", v)]))) ∨
  ∃ k rs, RlA K H v k rs ∧ KndOk k ∧ RulsOk k rs ∧
    ((PlainT K H x ∧ inB x 0 ((rs.length : Int) - 3) = false ∧ ∀ H' d, Same H H' → H' d = none → E (.ref (cNR K)) (some d) (upd H' d (.xd [("value", x)]))) ∨
    ∃ i : Nat, x = .int i ∧ i + 3 ≤ rs.length ∧ TestsOk k (allTests rs) ∧ ∀ ms, Paired (MemOk (allTests rs)) ms k.fields →
      (prodL ms ≤ 2000 ∧ ∀ b H', Same H H' → (b = true ↔ Swp k.fields rs i) → Q (.bl b) H') ∨
      (2000 < prodL ms ∧ ∀ H' d, Same H H' → H' d = none → E (.ref (cTM K)) (some d) (upd H' d (.xd [("count", .int (prodL ms : Nat))])))))
theorem plain_mono {K : PySem.W.Frag} {H H' : Hp} (s : Same H H') {x : V} (h : PlainT K H x) : PlainT K H' x := by
  cases h with
  | non => exact .non
  | bl b => exact .bl b
  | int i => exact .int i
  | str x => exact .str x
  | tup h => exact .tup (s _ _ h)
/-- the heap without the thing at q -/
def wo (q : Addr) (H : Hp) : Hp := fun b => if b = q then none else H b
theorem wo_ne {q b : Addr} {H : Hp} (h : b ≠ q) : wo q H b = H b := if_neg h
theorem wo_same {q : Addr} {H : Hp} : wo q H q = none := if_pos rfl
theorem wo_sub (q : Addr) (H : Hp) : Same (wo q H) H := fun b o e => by
  by_cases h : b = q
  · rw [h, wo_same] at e
    cases e
  · rw [wo_ne h] at e
    exact e
theorem into_wo {B H : Hp} {q : Addr} (s : Same B H) (n : B q = none) : Same B (wo q H) := fun b o e => by
  rw [wo_ne (ne_of_none e n)]
  exact s b o e
theorem paired_set {α β : Type} {F : α → β → Prop} : ∀ {xs : List α} {l : List β} (i : Nat) {x : α} {y : β}, Paired F xs l → F x y → Paired F (xs.set i x) (l.set i y)
  | _, _, _, _, _, .nil, _ => .nil
  | _, _, 0, _, _, .cons _ t, h => .cons h t
  | _, _, i + 1, _, _, .cons r t, h => .cons r (paired_set i t h)
theorem paired_swp {F : V → Rul → Prop} {xs : List V} {rs : List Rul} {i : Nat} {a b : V} (h : Paired F xs rs) (h1 : xs[i]? = some a) (h2 : xs[i + 1]? = some b) : Paired F ((xs.set i b).set (i + 1) a) (swp rs i) := by
  obtain ⟨r1, e1, f1⟩ := paired_at h h1
  obtain ⟨r2, e2, f2⟩ := paired_at h h2
  rw [swp, e1, e2]
  exact paired_set _ (paired_set _ h f2) f1
theorem ixN_nat {n i : Nat} (h : i < n) : ixN n (i : Int) = some i := by
  unfold ixN
  rw [if_pos (by omega), if_pos (by omega)]
  simp
section
variable {X : Cx} {k j : Nat} {x : Str} {sp : Sp} {p pos : Pos} {e : Expr} {es : List Expr} {t : TA} {E : XK}
theorem pcalX (hx : Passes (L2.CX X.prog X.w) X E) (c : Cal X.prog X.w X.K X.mg X.base (L2.CX X.prog X.w) k x sp) (hr : Room j X.A) (hk : k ≤ j) (hg : Gl X x) (ha : PA X (e :: es) t)
    (hdb : (x == ("__debug__" : Str)) = false := by decide) (he : starEach (e :: es) X.env = (false, eval e X.env) :: starEach es X.env := by rfl) (hpl : (backTo pos (starEach es X.env)).any (·.1) = false := by rfl) :
    PE X (.Call (.Name x p) (e :: es) [] pos) (tCall sp [] E t) := by
  obtain ⟨f, fd, ps, F, hm, kp, b⟩ := c.ex
  exact pe_call F (hr.mono hk) hg hm kp b .nil hx ha hdb he hpl
end
section
variable {P : Program} {w : World} {K : PySem.W.Frag} {mg : Str → Option Value} {base : Heap}
theorem ok_need_list (T : Top K mg) (Y : TopX K mg) (c_InvalidList : IniOk P w K mg base (cIL K) "value") : Cal P w K mg base (L2.CX P w) 3 "need_list" (sp_need_list K) := by
  have nd := sc_need_list.nd
  refine cal_ofX (ps := P_need_list) T.d_need_list (fun _ _ _ _ _ _ us hl => match us, hl with | [_], _ => rfl) sc_need_list (fun vs H Q E h => ?_) (fun f cdv A outer s H vs Q E hr h => ?_)
  · obtain ⟨v, t, b, rfl, _⟩ := h
    rfl
  · obtain ⟨v, t, b, rfl, ty, hb, k1, k2⟩ := h
    refine ⟨_, (pss_one (ps_if (pt_not (pt_val (pe_callB call_isi (by rfl) T.f_isinstance (by decide +kernel) (pa_cons (pv 0) (pa_cons (gc (v := .ref (cR K)) rfl ⟨_, T.g_RuleList, rfl⟩) pa_nil))))) (pss_one (ps_raise rfl (takes_of rfl rfl rfl rfl) (pmk_InvalidList Y c_InvalidList hr (by decide) rfl (pa_cons (pv 0) pa_nil)))) pss_nil)), ?_⟩
    refine ⟨_, rfl, _, _, _, _, b, rfl, .own _, ty, hb, _, rfl, ?_⟩
    cases b with
    | true => exact iteF (k1 rfl _ (Same.refl H))
    | false => exact iteT ⟨_, rfl, mk_exc fun d hd => k2 rfl d hd⟩
theorem ok_may_swap (T : Top K mg) (Y : TopX K mg) (c_NoRule : IniOk P w K mg base (cNR K) "value") (c_need_list : Cal P w K mg base (L2.CX P w) 3 "need_list" (sp_need_list K)) (c_rules : Met P w K mg base CX0 1 (cR K) "rules" (sp_rules K))
    (c_kind : Prp P w K mg base CX0 1 (cR K) "kind" (sp_kind K)) (c_is_integer : Cal P w K mg base CX0 1 "is_integer" (sp_is_integer K)) (c_tests_of : Cal P w K mg base CX0 1 "tests_of" (sp_tests_of K)) (c_grid : Cal P w K mg base (L2.CX P w) 5 "grid" (sp_grid K))
    (c_first_difference : Cal P w K mg base CX0 7 "first_difference" (sp_first_difference K)) {fR : Addr} {fdR : FuncData} (mR : Mk K (cR K) fR) (FR : FnOk P w K mg base CX0 7 fR fdR P_RuleList___init__ (sp_rules_init K)) (bR : Binds K fdR P_RuleList___init__ []) :
    Cal P w K mg base (L2.CX P w) 9 "may_swap" (sp_may_swap K) := by
  have nd := sc_may_swap.nd
  refine cal_ofX (ps := P_may_swap) T.d_may_swap (fun _ _ _ _ _ _ us hl => match us, hl with | [_, _], _ => rfl) sc_may_swap (fun vs H Q E h => ?_) (fun f cdv A outer s H vs Q E hr h => ?_)
  · obtain ⟨v, x, rfl, _⟩ := h
    rfl
  · obtain ⟨v, x, rfl, h⟩ := h
    refine ⟨_, (pss_cons (ps_expr (pcalX (passes_call (E := E) (takes_of rfl rfl rfl rfl) (fun _ _ _ _ h => h)) c_need_list hr (by decide) (by rfl) (pa_cons (pv 0) pa_nil)))
    (pss_cons (ps_set (i := 2) nd rfl (by first | exact Or.inl rfl | exact Or.inr rfl) (pmet0 c_rules hr (by decide) T.k_RuleList (pv 0)))
    (pss_cons (ps_if (pt_not (pt_val (pcal c_is_integer hr (by decide) (by rfl) (pa_cons (pv 1) (pa_cons pe_int (pa_cons (pe_op op_sub (pe_callB call_len_seq (by rfl) T.f_len (by decide +kernel) (pa_cons (pv 2) pa_nil)) pe_int) pa_nil)))))) (pss_one (ps_raise rfl (takes_of rfl rfl rfl rfl) (pmk_NoRule Y c_NoRule hr (by decide) rfl (pa_cons (pv 1) pa_nil)))) pss_nil)
    (pss_cons (ps_set (i := 3) nd rfl (by first | exact Or.inl rfl | exact Or.inr rfl) (pcalX (passes_call (E := E) (takes_of rfl rfl rfl rfl) (fun _ _ _ _ h => h)) c_grid hr (by decide) (by rfl) (pa_cons (pprp c_kind hr (by decide) T.k_RuleList (pv 0)) (pa_cons (pcal c_tests_of hr (by decide) (by rfl) (pa_cons (pv 2) pa_nil)) pa_nil))))
    (pss_cons (ps_asg (pe_tup (pa_cons (pe_ix ix_list (pv 2) (pe_op op_add (pv 1) pe_int) (fun _ _ => rfl)) (pa_cons (pe_ix ix_list (pv 2) (pv 1) (fun _ _ => rfl)) pa_nil))) (pg_tup rfl (pgs_cons (pg_sub (pv 2) (pv 1) set_list) (pgs_cons (pg_sub (pv 2) (pe_op op_add (pv 1) pe_int) set_list) pgs_nil))))
    (pss_one (ps_ret (pe_cmpR op_isN (pcal c_first_difference hr (by decide) (by rfl) (pa_cons (pv 0) (pa_cons (pe_make mR FR (hr.mono (by decide)) rfl T.g_RuleList bR .nil pass0 (pa_cons (pprp c_kind hr (by decide) T.k_RuleList (pv 0)) (pa_cons (pv 2) pa_nil))) (pa_cons (pv 3) pa_nil)))) pe_non (nomark _))))))))), ?_⟩
    rcases h with ⟨t, ty, hq, k⟩ | ⟨kn, rs, hR, kok, rok, h⟩
    · exact ⟨_, rfl, v, t, false, rfl, ty, hq, fun z => (by cases z), fun _ => k⟩
    obtain ⟨p, dx, kv, r, xs0, rfl, hp, hK0, hr0, hP0⟩ := id hR
    refine ⟨_, rfl, _, _, true, rfl, T.y_RuleList _ _ _ _ hp, T.q_RuleList_RuleList, fun _ H1 s1 => ?_, fun z => (by cases z)⟩
    refine ⟨_, rfl, p, dx, _, rfl, s1 _ _ hp, rfs_no _ _ (by decide +kernel), H1, _, kn, rs, rfl, Same.refl H1, hR.mono s1, rok, kok, fun q xs B2 H2 st hq nq hxs hP => ?_⟩
    have hl := hP.length
    have s02 := s1.trans st.hh
    refine ⟨_, rfl, _, rfl, q, xs, rfl, .inl (SqL.of hxs), _, _, rfl, rfl, _, _, _, rfl, ?_⟩
    rcases h with ⟨pl, hb, k⟩ | ⟨i, rfl, hi, tok, k⟩
    · refine ⟨plain_mono s02 pl, fun H3 s3 => ?_⟩
      rw [hl, hb]
      exact ⟨_, rfl, iteT ⟨_, rfl, mk_exc fun d hd => k H3 d (s02.trans s3) hd⟩⟩
    · refine ⟨.int _, fun H3 s3 => ?_⟩
      have hb : inB (.int (i : Nat)) 0 ((xs.length : Int) - 3) = true := by
        simp only [inB, Bool.and_eq_true, decide_eq_true_eq]
        omega
      rw [hb]
      refine ⟨_, rfl, iteF ?_⟩
      have s03 := s02.trans s3
      have s23 : Same B2 H3 := st.bh.trans s3
      have hq3 := s3 _ _ hxs
      refine ⟨_, rfl, p, dx, _, rfl, s03 _ _ hp, H, _, kn, rs, rfl, s03, hR, fun kv' H4 hkv s4 => ?_⟩
      have s04 := s03.trans s4
      refine ⟨_, rfl, q, xs, rs, rfl, SqL.of (s4 _ _ hq3), paired_mono RuA.mono (s23.trans s4) hP, rok.len, fun r hr => (rok.rul hr).small kok, fun a tys H5 s5 ha hty htP => ?_⟩
      have s05 := s04.trans s5
      have nqH : H q = none := s1.free hq
      have hq5 : H5 q = some (.lst xs) := s5 _ _ (s4 _ _ hq3)
      have sw := into_wo s05 nqH
      refine ⟨wo q H5, kv', kn, a, tys, allTests rs, rfl, wo_sub q H5, KdA.mono _ _ _ _ _ sw hkv, kok, SqL.of hty, paired_mono TsA.mono s5 htP, tok, fun ms hM => ?_⟩
      rcases k ms hM with ⟨hle, k⟩ | ⟨hgt, k⟩
      · refine .inl ⟨hle, fun ca cys B6 H6 st6 hca hcl hC => ?_⟩
        have nq6 : B6 q = none := st6.none hq5 wo_same
        have hq6 := st6.hh _ _ hq5
        have hi1 : i < xs.length := by omega
        have hi2 : i + 1 < xs.length := by omega
        have e1 : xs[i]? = some xs[i] := List.getElem?_eq_getElem hi1
        have e2 : xs[i + 1]? = some xs[i + 1] := List.getElem?_eq_getElem hi2
        have sB26 : Same B2 B6 := (into_wo ((st.bh.trans s3).trans (s4.trans s5)) nq).trans st6.bb
        have sH6 : Same H B6 := sw.trans st6.bb
        have qca : ca ≠ q := fun e => by rw [e, hq5] at hca; cases hca
        refine ⟨_, rfl, _, rfl, _, _, rfl, rfl, q, xs, _, _, rfl, rfl, SqL.of hq6, atI_nat (j := i + 1) e2, _, rfl, _, rfl, q, xs, _, _, rfl, rfl, SqL.of hq6, atI_nat e1, (show 2 ≤ sizeLine by decide), fun T1 hT1 => ?_⟩
        have qT : q ≠ T1 := ne_of_none hq6 hT1
        refine ⟨T1, _, rfl, SqT.of upd_same, rfl, _, _, rfl, _, rfl, _, rfl, q, xs, _, i, rfl, rfl, by rw [upd_ne qT]; exact hq6, ixN_nat hi1, _, _, rfl, _, rfl, _, rfl, _, _, rfl, rfl, q, _, _, i + 1, rfl, rfl, upd_same, ?_, rfl, ?_⟩
        · rw [List.length_set]
          exact ixN_nat (i := i + 1) hi2
        have hP7 := paired_swp hP e1 e2
        have sB7 : Same B6 (upd (upd (upd H6 T1 (.tup [xs[i + 1], xs[i]])) q (.lst (xs.set i xs[i + 1]))) q (.lst ((xs.set i xs[i + 1]).set (i + 1) xs[i]))) := fun b o e => by
          rw [upd_ne (ne_of_none e nq6), upd_ne (ne_of_none e nq6), upd_ne (ne_of_none (st6.bh _ _ e) hT1)]
          exact st6.bh _ _ e
        have hca7 : (upd (upd (upd H6 T1 (.tup [xs[i + 1], xs[i]])) q (.lst (xs.set i xs[i + 1]))) q (.lst ((xs.set i xs[i + 1]).set (i + 1) xs[i]))) ca = some (.lst cys) := by
          rw [upd_ne qca, upd_ne qca, upd_ne (ne_of_none hcl hT1)]
          exact hcl
        have hq7 : (upd (upd (upd H6 T1 (.tup [xs[i + 1], xs[i]])) q (.lst (xs.set i xs[i + 1]))) q (.lst ((xs.set i xs[i + 1]).set (i + 1) xs[i]))) q = some (.lst ((xs.set i xs[i + 1]).set (i + 1) xs[i])) := upd_same
        generalize (upd (upd (upd H6 T1 (.tup [xs[i + 1], xs[i]])) q (.lst (xs.set i xs[i + 1]))) q (.lst ((xs.set i xs[i + 1]).set (i + 1) xs[i]))) = H7 at sB7 hca7 hq7 ⊢
        have sH7 : Same H H7 := sH6.trans sB7
        refine ⟨_, rfl, _, rfl, p, dx, _, rfl, sH7 _ _ hp, H, _, kn, rs, rfl, sH7, hR, fun kv2 H8 hkv2 s8 => ?_⟩
        refine ⟨_, rfl, fun x d2 hx hd2 ne => ?_⟩
        have sB8 : Same B6 H8 := sB7.trans s8
        have sn : Same H8 (upd (upd H8 d2 (.own x)) x (.ins (cR K) d2 [])) := fun b o e => by
          rw [upd_ne (ne_of_none e hx), upd_ne (ne_of_none e hd2)]
          exact e
        refine ⟨B6, x, d2, kv2, kn, q, _, swp rs i, rfl, sB8.trans sn, sB8.free hx, upd_same, KdA.mono _ _ _ _ _ sH6 hkv2, kok, SqL.of (sn _ _ (s8 _ _ hq7)), paired_mono RuA.mono sB26 hP7, swp_ok hi rok, fun B9 H9 ini hR9 => ⟨rfl, ?_⟩⟩
        have st9 := Ini.step sB8 hx hd2 ini
        have s09 : Same H H9 := (sH7.trans s8).trans st9.hh
        have full := fulls kok (tests_ok rok) (fun f hf => hf) hM
        refine ⟨_, rfl, _, _, kn, rs, swp rs i, ca, cys, grd ms, rfl, hR.mono s09, hR9.mono st9.bh, kok, rok, swp_ok hi rok, SqL.of (st9.hh _ _ (s8 _ _ hca7)), paired_mono CaA.mono (sB8.trans st9.hh) hC, fun c hc => grid_ok full hc, fun H10 s10 => ⟨fun heq => ?_, fun hne a2 => ?_⟩⟩
        · exact ⟨rfl, k _ H10 (s09.trans s10) ⟨fun _ => (grid_swp kok rok (by omega) full).mp heq, fun _ => rfl⟩⟩
        · refine ⟨rfl, k _ H10 (s09.trans s10) ⟨fun z => ?_, fun z => absurd ((grid_swp kok rok (by omega) full).mpr z) hne⟩⟩
          cases z
      · exact .inr ⟨hgt, fun H6 d s6 hd => k H6 d (s05.trans s6) hd⟩
end
end K5
set_option Elab.async false
set_option linter.all false
set_option maxRecDepth 100000
set_option maxHeartbeats 2000000
/-! zip(a list, a tuple). -/
namespace K5
open PySem PySem.Spec PyProof.Rows L2
def ItzM (K : PySem.W.Frag) (a b : Addr) : It :=
  ⟨fun i H => ∃ (xs ys : List V) (x y : V), SqL K H a xs ∧ SqT K H b ys ∧ xs[i]? = some x ∧ ys[i]? = some y,
    fun i H v H' => ∃ T x y, v = .ref T ∧ H T = none ∧ H' = upd H T (.tup [x, y]) ∧ (∀ xs, SqL K H a xs → xs[i]? = some x) ∧ ∀ ys, SqT K H b ys → ys[i]? = some y,
    fun i H => ∃ xs ys : List V, SqL K H a xs ∧ SqT K H b ys ∧ i = min xs.length ys.length⟩
theorem zip_sep {z TI TO i1 i2 a b : Addr} (D : ZipApart z TI TO i1 i2 a b) : ZipSep2 z TI TO i1 i2 [i1, a] [i2, b] where
  TIz := D.TIz
  TOz := D.TOz
  TITO := D.TITO
  TIi1 := D.TIi1
  mem1 := by simp
  zf1 := by simp [Ne.symm D.i1z, Ne.symm D.l1z]
  Tf1 := by simp [D.TOi1, Ne.symm D.l1TO]
  TIi2 := D.TIi2
  mem2 := by simp
  zf2 := by simp [Ne.symm D.i2z, Ne.symm D.l2z]
  Tf2 := by simp [D.TOi2, Ne.symm D.l2TO]
  sep1_2 := by simp [D.i12, Ne.symm D.l2i1]
  sep2_1 := by simp [Ne.symm D.i12, Ne.symm D.l1i2]
section
variable {P : Program} {w : World} {K : PySem.W.Frag} {elts : List Expr} {kk : Nat} {tpos : Pos} {a b z TI TO i1 i2 : Addr}
theorem turn_zipM (D : ZipApart z TI TO i1 i2 a b) :
    Turn P w K (.Tuple elts kk tpos) (ItzM K a b) [z, TI, TO, i1, i2] z (fun i h => IsZip h z TI TO .none ∧ IsTupOf2 h TI (.ref i1) (.ref i2) ∧ (∃ x y, IsTupOf2 h TO x y) ∧ h.IsListIter i1 a i ∧ h.IsTupleIter i2 b i) where
  mem := by simp
  obj := fun i h st c hc => by
    obtain ⟨hz, hTI, ⟨x, y, hTO⟩, ⟨o1, e1, _, d1⟩, ⟨o2, e2, _, d2⟩⟩ := st
    simp only [List.mem_cons, List.not_mem_nil, or_false] at hc
    rcases hc with q | q | q | q | q <;> rw [q]
    · exact ⟨_, hz, fun v q => nomatch q⟩
    · exact ⟨_, hTI, fun v q => nomatch q⟩
    · exact ⟨_, hTO, fun v q => nomatch q⟩
    · exact ⟨o1, e1, fun v q => by rw [d1] at q; cases q⟩
    · exact ⟨o2, e2, fun v q => by rw [d2] at q; cases q⟩
  keep := fun i h h' st k => by
    obtain ⟨hz, hTI, ⟨x, y, hTO⟩, h1, h2⟩ := st
    exact ⟨k z (by simp) _ hz, k TI (by simp) _ hTI, ⟨x, y, k TO (by simp) _ hTO⟩, h1.at fun o q => k i1 (by simp) o q, h2.at fun o q => k i2 (by simp) o q⟩
  item := by
    rintro X rfl rfl rfl hc i pins s σ H E I hf ⟨hz, hTI, hTO, h1, h2⟩ ⟨xs, ys, x, y, hqx, hqy, hx, hy⟩
    obtain ⟨its, rv, p1, _⟩ := I.list hqx
    obtain ⟨its2, rv2, p2, _⟩ := I.tuple hqy
    obtain ⟨u1, hu1, ru1⟩ := rv.get hx
    obtain ⟨u2, hu2, ru2⟩ := rv2.get hy
    have l1 : i < its.toArray.size := by
      have := (List.getElem?_eq_some_iff.mp hu1).1
      simpa using this
    have l2 : i < its2.toArray.size := by
      have := (List.getElem?_eq_some_iff.mp hu2).1
      simpa using this
    have G := GoesN.zip2 (prog := X.prog) (w := X.w) (A := X.A) (elts := elts) (x1 := kk) (pos := tpos) (zip_sep D) (Draws.list (A := X.A.in1) (I.ok.hd hc) i1 a D.l1i1 its.toArray) (Draws.tuple (A := X.A.in1) (I.ok.hd hc) i2 b D.l2i2 its2.toArray)
    refine wpAny_mono (G.goes i s (fun u s2 => ∃ x' H', Inv X pins σ H' s2 ∧ RelV x' u ∧ (ItzM X.K a b).yld i H x' H' ∧ (IsZip s2.heap z TI TO .none ∧ IsTupOf2 s2.heap TI (.ref i1) (.ref i2) ∧ (∃ x y, IsTupOf2 s2.heap TO x y) ∧ s2.heap.IsListIter i1 a (i + 1) ∧ s2.heap.IsTupleIter i2 b (i + 1)) ∧ ∀ c ∈ [z, TI, TO, i1, i2], H' c = none) E
      (by omega) ⟨hz, hTI, hTO, ⟨h1, p1.isList⟩, ⟨h2, p2⟩⟩ fun v h' tk hY st' hk htk => ?_) (fun r s1 hr => ?_) fun _ _ e => e
    · obtain ⟨T, v1, v2, rfl, hT, e1, e2, hTup⟩ := hY
      obtain ⟨hz', hTI', hTO', ⟨h1', _⟩, ⟨h2', _⟩⟩ := st'
      have f1 : v1 = u1 := by
        have : some u1 = some v1 := by rw [← e1]; simpa using hu1.symm
        exact (Option.some.inj this).symm
      have f2 : v2 = u2 := by
        have : some u2 = some v2 := by rw [← e2]; simpa using hu2.symm
        exact (Option.some.inj this).symm
      subst f1 f2
      have hHT : H T = none := I.hok.fresh hT
      obtain ⟨oT, hoT, hcT, nT, hdT⟩ := hTup
      have new : ObjOk X.prog X.w (upd H T (.tup [x, y])) h' T (.tup [x, y]) := ⟨by show 2 ≤ sizeLine; decide, [v1, v2], .cons ru1 (.cons ru2 .nil), ⟨oT, hoT, hcT, nT, hdT⟩⟩
      have I1 : Inv X pins σ (upd H T (.tup [x, y])) { s with heap := h', toks := tk } :=
        I.turnedNew (t' := tk) (ch := [z, TI, TO, i1, i2]) (fun c o hb q => hk c o (fun q' => hb (by simp at q' ⊢; rcases q' with q' | q' | q' | q' <;> simp [q'])) q) hf hT new
      refine ⟨.ref T, _, I1, rfl, ⟨T, x, y, rfl, hHT, rfl, fun l hl => by rw [I.list_inj hl hqx]; exact hx, fun l hl => by rw [I.tuple_inj hl hqy]; exact hy⟩, ⟨hz', hTI', hTO', h1', h2'⟩, fun c hcm => ?_⟩
      have hlt : c < s.heap.objs.size := by
        simp only [List.mem_cons, List.not_mem_nil, or_false] at hcm
        obtain ⟨_, _, hTO2⟩ := hTO
        obtain ⟨_, d1, _⟩ := h1
        obtain ⟨_, d2, _⟩ := h2
        rcases hcm with q | q | q | q | q <;> rw [q]
        · exact Heap.lt_size hz
        · exact Heap.lt_size hTI
        · exact Heap.lt_size hTO2
        · exact Heap.lt_size d1
        · exact Heap.lt_size d2
      rw [upd_ne (Nat.ne_of_lt (Nat.lt_of_lt_of_le hlt hT))]
      exact (hf c hcm).1
    · exact hr
  done := by
    rintro X rfl rfl rfl hc i pins s σ H E I hf ⟨hz, hTI, hTO, h1, h2⟩ ⟨xs, ys, hqx, hqy, hend⟩
    obtain ⟨its, rv, p1, _⟩ := I.list hqx
    obtain ⟨its2, rv2, p2, _⟩ := I.tuple hqy
    have G := GoesN.zip2 (prog := X.prog) (w := X.w) (A := X.A) (elts := elts) (x1 := kk) (pos := tpos) (zip_sep D) (Draws.list (A := X.A.in1) (I.ok.hd hc) i1 a D.l1i1 its.toArray) (Draws.tuple (A := X.A.in1) (I.ok.hd hc) i2 b D.l2i2 its2.toArray)
    have ei : i = min its.toArray.size its2.toArray.size := by
      rw [hend, List.size_toArray, List.size_toArray, ← rv.length, ← rv2.length]
    subst ei
    exact G.stops s _ E ⟨hz, hTI, hTO, ⟨h1, p1.isList⟩, ⟨h2, p2⟩⟩ fun h' tk hk htk => I.turnedL (t' := tk) (ch := [z, TI, TO, i1, i2]) (fun c o hb q => hk c o (fun q' => hb (by simp at q' ⊢; rcases q' with q' | q' | q' | q' <;> simp [q'])) q) hf
  self := fun A i s Q E st h => wpAny_pyIter_zip st.1 h
end
def iZipM (K : PySem.W.Frag) (ta : TA) : TI := fun σ H R => ta σ H fun vs H1 => ∃ a b xs ys, vs = [.ref a, .ref b] ∧ SqL K H1 a xs ∧ SqT K H1 b ys ∧ R (ItzM K a b) H1
theorem pi_zipM {X : Cx} {e e2 : Expr} {ta : TA} {p pos tpos : Pos} {elts : List Expr} {kk : Nat} (hg : Gl X "zip") (hm : X.mg "zip" = none) (ha : PA X [e, e2] ta)
    (hs : starEach [e, e2] X.env = (false, eval e X.env) :: starEach [e2] X.env := by rfl) (hpl : (backTo pos (starEach [e2] X.env)).any (·.1) = false := by rfl) :
    PI X (.Tuple elts kk tpos) (.Call (.Name "zip" p) [e, e2] [] pos) (iZipM X.K ta) := by
  refine ⟨fun pins s σ H R I h => Call_ (ld_blt I hg hm PyProof.Rows.boot_zip (PyProof.Rows.callWith_type1 (thn (ha.run pos pins s σ H _ I h) fun us s1 ⟨vs, H1, I1, r1, q1⟩ => ?_) hs hpl))⟩
  obtain ⟨a, b, xs, ys, rfl, hqx, hqy, q⟩ := q1
  obtain ⟨v1, v2, rfl, ra, rb⟩ := vals2 r1
  cases ra
  cases rb
  obtain ⟨its, rv, p1, _⟩ := I1.list hqx
  obtain ⟨its2, rv2, p2, _⟩ := I1.tuple hqy
  obtain ⟨o2, ho2, _⟩ := id p2
  refine zip_begins2 (begins_list a its.toArray) (begins_tuple b its2.toArray) p1.isList p2 fun h' hz hTI hTO h1 h2 hsz hk => wpAny_pyIter_zip hz ?_
  have I2 : Inv X pins σ H1 { s1 with heap := h' } := I1.kept (t' := s1.toks) hk
  refine ⟨s1.heap.objs.size + 4, [s1.heap.objs.size + 4, s1.heap.objs.size + 2, s1.heap.objs.size + 3, s1.heap.objs.size, s1.heap.objs.size + 1], _, _, H1, rfl, I2, turn_zipM (PySem.W.ktu_apart s1.heap.objs.size a b p1.lt (Heap.lt_size ho2)), ⟨hz, hTI, ⟨_, _, hTO⟩, ⟨_, h1, rfl, rfl⟩, ⟨_, h2, rfl, rfl⟩⟩, fun c hcm => ?_, q⟩
  have hle : s1.heap.objs.size ≤ c := by
    simp only [List.mem_cons, List.not_mem_nil, or_false] at hcm
    rcases hcm with z | z | z | z | z <;> rw [z]
    · exact Nat.le_add_right _ _
    · exact Nat.le_add_right _ _
    · exact Nat.le_add_right _ _
    · exact Nat.le_refl _
    · exact Nat.le_add_right _ _
  exact I1.fpOk hle (I1.hok.fresh hle)
theorem walk_zipM {K : PySem.W.Frag} {a b : Addr} {xs ys : List V} {n : Nat} (hn : n = min xs.length ys.length) : Walk (ItzM K a b) n (fun H => SqL K H a xs ∧ SqT K H b ys) (YPair (fun i => xs[i]?) (fun i => ys[i]?)) := by
  subst hn
  refine ⟨fun i _ hi q => ⟨xs, ys, xs[i]'(by omega), ys[i]'(by omega), q.1, q.2, by simp, by simp⟩, fun _ q => ⟨xs, ys, q.1, q.2, rfl⟩, ?_⟩
  rintro i H v H' _ q ⟨T, x, z, h1, h2, h3, h4, h5⟩
  exact ⟨T, x, z, h1, h2, h3, h4 xs q.1, h5 ys q.2⟩
end K5
set_option Elab.async false
set_option linter.all false
set_option maxRecDepth 100000
set_option maxHeartbeats 2000000
/-! The data as the model's plain data (for == and repr). -/
namespace K5
open PySem PySem.Spec PyProof.Rows L2
def dV : V → PyData
  | .str x => .str x
  | .int i => .int i
  | .bl b => .bool b
  | _ => .none
def dT (t : Tst) : PyData := .tuple [.str t.1, .str t.2.1, dV t.2.2]
def dR (r : Rul) : PyData := .tuple [.list (r.1.map dT), .str r.2]
def dC (c : Cse) : PyData := .tuple (c.map dV)
def dF (f : Str × Str) : PyData := .tuple [.str f.1, .str f.2]
/-- a scalar whose text can be laid -/
def ScOk (v : V) : Prop := (∃ x, v = .str x ∧ PyData.strOk x = true) ∨ ∃ i, v = .int i
theorem dp_val {K : PySem.W.Frag} {H : Hp} {v : V} (h : ScOk v) : Dp K H v (dV v) := by
  rcases h with ⟨x, rfl, _⟩ | ⟨i, rfl⟩
  · exact .str x
  · exact .int i
theorem lay_val {v : V} (h : ScOk v) : (dV v).canLay0 = true := by
  rcases h with ⟨x, rfl, h⟩ | ⟨i, rfl⟩
  · exact h
  · rfl
theorem dp_vals {K : PySem.W.Frag} {H : Hp} : ∀ {l : List V}, (∀ v ∈ l, ScOk v) → DpAll K H l (l.map dV)
  | [], _ => .nil
  | v :: l, h => .cons (dp_val (h v (List.mem_cons_self ..))) (dp_vals fun u hu => h u (List.mem_cons_of_mem _ hu))
theorem dp_paired {α : Type} {K : PySem.W.Frag} {H : Hp} {F : V → α → Prop} {d : α → PyData} (hd : ∀ v x, F v x → Dp K H v (d x)) : ∀ {xs : List V} {l : List α}, Paired F xs l → DpAll K H xs (l.map d)
  | _, _, .nil => .nil
  | _, _, .cons r t => .cons (hd _ _ r) (dp_paired hd t)
theorem dp_pairedP {α : Type} {K : PySem.W.Frag} {H : Hp} {F : V → α → Prop} {d : α → PyData} {C : α → Prop} (hd : ∀ v x, F v x → C x → Dp K H v (d x)) : ∀ {xs : List V} {l : List α}, Paired F xs l → (∀ x ∈ l, C x) → DpAll K H xs (l.map d)
  | _, _, .nil, _ => .nil
  | _, _, .cons r t, h => .cons (hd _ _ r (h _ (List.mem_cons_self ..))) (dp_pairedP hd t fun x hx => h x (List.mem_cons_of_mem _ hx))
theorem layAll {α : Type} {d : α → PyData} : ∀ {l : List α}, (∀ x ∈ l, (d x).canLay0 = true) → PyData.canLayAll0 (l.map d) = true
  | [], _ => rfl
  | x :: l, h => by
    show ((d x).canLay0 && PyData.canLayAll0 (l.map d)) = true
    rw [h x (List.mem_cons_self ..), layAll fun y hy => h y (List.mem_cons_of_mem _ hy)]
    rfl
theorem depAll {α : Type} {d : α → PyData} {n : Nat} : ∀ {l : List α}, (∀ x ∈ l, (d x).depth ≤ n) → PyData.depthAll (l.map d) ≤ n
  | [], _ => Nat.zero_le _
  | x :: l, h => Nat.max_le.mpr ⟨h x (List.mem_cons_self ..), depAll fun y hy => h y (List.mem_cons_of_mem _ hy)⟩
theorem depV (v : V) : (dV v).depth = 0 := by
  cases v <;> rfl
/-! ### words can be laid -/
theorem word_lay {x : Str} (h : WordOk x) : PyData.strOk x = true := by
  unfold PyData.strOk
  rw [← Array.all_toList, List.all_eq_true]
  intro c hc
  have hl : (letters.cps.toList.all fun c => decide (c < 0x110000)) = true := by decide +kernel
  exact List.all_eq_true.mp hl c (h.2.2 c hc)
theorem val_sc {s : Str} {v : V} (h : ValOk s v) : ScOk v := by
  rcases h with ⟨_, x, rfl, h⟩ | ⟨_, i, rfl, _⟩
  · exact .inl ⟨x, rfl, word_lay h⟩
  · exact .inr ⟨i, rfl⟩
structure TstLay (t : Tst) : Prop where
  n : PyData.strOk t.1 = true
  o : PyData.strOk t.2.1 = true
  v : ScOk t.2.2
theorem tst_lay {k : Knd} (kok : KndOk k) {t : Tst} (h : TstOk k t) : TstLay t := by
  obtain ⟨s, h1, h2, h3⟩ := h
  refine ⟨word_lay (kok.fs.2.1 _ h1).1, ?_, val_sc h2⟩
  rcases h3 with ⟨_, h | h⟩ | ⟨_, h | h⟩ <;> rw [h] <;> decide +kernel
section
variable {K : PySem.W.Frag} {H : Hp}
theorem dp_test {v : V} {t : Tst} (h : TsA K H v t) (ok : TstLay t) : Dp K H v (dT t) := by
  obtain ⟨a, rfl, h⟩ := h
  exact .tup h (.cons (.str _) (.cons (.str _) (.cons (dp_val ok.v) .nil)))
theorem lay_test {t : Tst} (ok : TstLay t) : (dT t).canLay0 = true := by
  have h := lay_val ok.v
  show (PyData.strOk t.1 && (PyData.strOk t.2.1 && ((dV t.2.2).canLay0 && true))) = true
  rw [ok.n, ok.o, h]
  rfl
theorem dep_test (t : Tst) : (dT t).depth ≤ 1 := by
  show max 0 (max 0 (max (dV t.2.2).depth 0)) + 1 ≤ 1
  rw [depV]
  exact Nat.le_refl _
theorem dp_tests {xs : List V} {ts : List Tst} (h : Paired (TsA K H) xs ts) (ok : ∀ t ∈ ts, TstLay t) : DpAll K H xs (ts.map dT) := dp_pairedP (C := TstLay) (fun _ _ h c => dp_test h c) h ok
theorem dp_case {v : V} {c : Cse} (h : CaA K H v c) (ok : ∀ x ∈ c, ScOk x) : Dp K H v (dC c) := by
  obtain ⟨a, rfl, h⟩ := h
  exact .tup h (dp_vals ok)
theorem lay_case {c : Cse} (ok : ∀ x ∈ c, ScOk x) : (dC c).canLay0 = true := layAll fun x hx => lay_val (ok x hx)
theorem dep_case (c : Cse) : (dC c).depth ≤ 1 := Nat.succ_le_succ (depAll fun x _ => Nat.le_of_eq (depV x))
theorem dp_cases {xs : List V} {cs : List Cse} (h : Paired (CaA K H) xs cs) (ok : ∀ c ∈ cs, ∀ x ∈ c, ScOk x) : DpAll K H xs (cs.map dC) := dp_pairedP (C := fun c => ∀ x ∈ c, ScOk x) (fun _ _ h c => dp_case h c) h ok
theorem dp_strs (l : List Str) : DpAll K H (l.map V.str) (l.map PyData.str) := by
  induction l with
  | nil => exact .nil
  | cons x l ih => exact .cons (.str x) ih
theorem dp_field {v : V} {f : Str × Str} (h : FiA K H v f) : Dp K H v (dF f) := by
  obtain ⟨a, rfl, h⟩ := h
  exact .tup h (.cons (.str _) (.cons (.str _) .nil))
structure RulLay (r : Rul) : Prop where
  t : ∀ t ∈ r.1, TstLay t
  a : PyData.strOk r.2 = true
theorem dp_rule {v : V} {r : Rul} (h : RuA K H v r) (ok : RulLay r) : Dp K H v (dR r) := by
  obtain ⟨a, u, rfl, h, b, xs, rfl, hb, hp⟩ := h
  exact .tup h (.cons (.lst hb (dp_tests hp ok.t)) (.cons (.str _) .nil))
theorem dp_rules {xs : List V} {rs : List Rul} (h : Paired (RuA K H) xs rs) (ok : ∀ r ∈ rs, RulLay r) : DpAll K H xs (rs.map dR) := dp_pairedP (C := RulLay) (fun _ _ h c => dp_rule h c) h ok
theorem lay_rule {r : Rul} (ok : RulLay r) : (dR r).canLay0 = true := by
  show (PyData.canLayAll0 (r.1.map dT) && (PyData.strOk r.2 && true)) = true
  rw [layAll fun t ht => lay_test (ok.t t ht), ok.a]
  rfl
theorem dep_rule (r : Rul) : (dR r).depth ≤ 3 := by
  show max (PyData.depthAll (r.1.map dT) + 1) (max 0 0) + 1 ≤ 3
  have := depAll (l := r.1) (d := dT) fun t _ => dep_test t
  omega
theorem shaped_list {α : Type} {d : α → PyData} {l : List α} {n : Nat} (h : ∀ x ∈ l, (d x).canLay0 = true) (hd : ∀ x ∈ l, (d x).depth ≤ n) (hn : n ≤ 60) : SeqAt.shaped (.list (l.map d)) = true := by
  unfold SeqAt.shaped
  rw [Bool.and_eq_true, decide_eq_true_eq]
  refine ⟨layAll h, ?_⟩
  have := depAll hd
  show PyData.depthAll (l.map d) + 1 ≤ 64
  omega
theorem eqv_nil (ds : List PyData) : PyData.eqv (.list ds) (.list []) = ds.isEmpty := by
  cases ds <;> simp [PyData.eqv, PyData.eqvAll]
end
end K5
set_option Elab.async false
set_option linter.all false
set_option maxRecDepth 100000
set_option maxHeartbeats 2000000
namespace K5
open PySem PySem.Spec PyProof.Rows L2
abbrev N__law_meets : List Str := ["_law_fields", "_law_case_here", "_law_test_here", "_law_own", "_law_name", "_law_sort", "_law_value"]
abbrev P__law_meets : List Str := ["_law_fields", "_law_case_here", "_law_test_here"]
theorem sc__law_meets : FnScope N__law_meets P__law_meets (defScope s__law_meets) := ⟨rfl, rfl, rfl, by decide +kernel, rfl, by decide +kernel, by decide +kernel⟩
abbrev N__law_all : List Str := ["_law_fields", "_law_case_here", "_law_tests", "_law_test_here"]
abbrev P__law_all : List Str := ["_law_fields", "_law_case_here", "_law_tests"]
theorem sc__law_all : FnScope N__law_all P__law_all (defScope s__law_all) := ⟨rfl, rfl, rfl, by decide +kernel, rfl, by decide +kernel, by decide +kernel⟩
abbrev N__law_decides : List Str := ["_law_fields", "_law_rules_here", "_law_case_here", "_law_at", "_law_tests", "_law_answer_here"]
abbrev P__law_decides : List Str := ["_law_fields", "_law_rules_here", "_law_case_here"]
theorem sc__law_decides : FnScope N__law_decides P__law_decides (defScope s__law_decides) := ⟨rfl, rfl, rfl, by decide +kernel, rfl, by decide +kernel, by decide +kernel⟩
abbrev N__law_answer : List Str := ["_law_fields", "_law_rules_here", "_law_case_here"]
abbrev P__law_answer : List Str := ["_law_fields", "_law_rules_here", "_law_case_here"]
theorem sc__law_answer : FnScope N__law_answer P__law_answer (defScope s__law_answer) := ⟨rfl, rfl, rfl, by decide +kernel, rfl, by decide +kernel, by decide +kernel⟩
def sp_law_meets (K : PySem.W.Frag) : Sp := fun vs H Q _ => ∃ fv k u c y t, vs = [fv, u, y] ∧ LiA FiA K H fv k.fields ∧ KndOk k ∧ CaA K H u c ∧ CaseOk k.fields c ∧ TsA K H y t ∧ TstOk k t ∧ ∀ H', Same H H' → Q (.bl (meets k.fields c t)) H'
def sp_law_all (K : PySem.W.Frag) : Sp := fun vs H Q _ => ∃ fv k u c y ts, vs = [fv, u, y] ∧ LiA FiA K H fv k.fields ∧ KndOk k ∧ CaA K H u c ∧ CaseOk k.fields c ∧ LiA TsA K H y ts ∧ ts.length ≤ 60 ∧ (∀ t ∈ ts, TstOk k t) ∧ ∀ H', Same H H' → Q (.bl (allm k.fields c ts)) H'
def sp_law_decides (K : PySem.W.Frag) : Sp := fun vs H Q _ => ∃ fv k rv rs u c, vs = [fv, rv, u] ∧ LiA FiA K H fv k.fields ∧ KndOk k ∧ LiA RuA K H rv rs ∧ RulsOk k rs ∧ CaA K H u c ∧ CaseOk k.fields c ∧ ∀ H', Same H H' → Q (.int (deci k.fields c rs : Nat)) H'
def sp_law_answer (K : PySem.W.Frag) : Sp := fun vs H Q _ => ∃ fv k rv rs u c, vs = [fv, rv, u] ∧ LiA FiA K H fv k.fields ∧ KndOk k ∧ LiA RuA K H rv rs ∧ RulsOk k rs ∧ CaA K H u c ∧ CaseOk k.fields c ∧ ∀ H', Same H H' → Q (.str (answ k.fields c rs)) H'
theorem roomE {k : Nat} {A : Around} (r : Room k A) : A.units + 64 < cLine := by
  have := r.un
  omega
section
variable {P : Program} {w : World} {K : PySem.W.Frag} {mg : Str → Option Value} {base : Heap}
theorem ok_law_meets (T : Top K mg) : Cal P w K mg base CX0 1 "_law_meets" (sp_law_meets K) := by
  have nd := sc__law_meets.nd
  refine cal_of (ps := P__law_meets) T.d__law_meets (fun _ _ _ _ _ _ us hl => match us, hl with | [_, _, _], _ => rfl) sc__law_meets (fun vs H Q E h => ?_) (fun f cdv A outer s H vs Q E hr h => ?_)
  · obtain ⟨fv, k, u, c, y, t, rfl, _⟩ := h
    rfl
  · obtain ⟨fv, kn, u, c, y, t, rfl, ⟨lf, fxs, rfl, hF, hFP⟩, kok, ⟨ua, rfl, hU⟩, hC, ⟨ya, rfl, hY⟩, ht, k⟩ := h
    refine ⟨_, (pss_cons (ps_set (i := 3) nd rfl (by first | exact Or.inl rfl | exact Or.inr rfl) (pe_ix ix_list (pe_lc (own := [("_law_name", 4), ("_law_sort", 5), ("_law_value", 6)]) (g := (gTup K 2 (gCons (gTup K 2 (gCons (gName 4) (gCons (gName 5) gNil))) (gCons (gName 6) gNil)))) rfl nd (pi_zipM (by rfl) T.f_zip (pa_cons (pv 0) (pa_cons (pv 1) pa_nil))) (blkOk_by (own := [("_law_name", 4), ("_law_sort", 5), ("_law_value", 6)]) (N := N__law_meets) (sc := defScope s__law_meets) (by decide +kernel)) (fun _ _ _ _ _ => (pg_tup rfl (pgs_cons (pg_tup rfl (pgs_cons (pg_name (i := 4) nd rfl (by first | exact Or.inl rfl | exact Or.inr rfl)) (pgs_cons (pg_name (i := 5) nd rfl (by first | exact Or.inl rfl | exact Or.inr rfl)) pgs_nil))) (pgs_cons (pg_name (i := 6) nd rfl (by first | exact Or.inl rfl | exact Or.inr rfl)) pgs_nil)))) (fun _ _ _ _ _ => (pts_one (pt_cmpR op_eq (pv 4) (pe_ix (ix_tupK (K := K)) (pv 2) pe_int (fun _ _ => rfl)) (nomark _)))) (fun _ _ _ _ _ => (pv 6))) pe_int (fun _ _ => rfl)))
    (pss_cons (ps_if (pt_cmpR op_in_seq (pe_ix ix_tup (pv 2) pe_int (fun _ _ => rfl)) (pe_tup (pa_cons pe_str (pa_cons pe_str pa_nil))) (by rfl)) (pss_one (ps_ret (pe_cmpR op_eq (pe_cmpR op_eq (pv 3) (pe_ix ix_tup (pv 2) pe_int (fun _ _ => rfl)) (nomark _)) (pe_cmpR op_eq (pe_ix ix_tup (pv 2) pe_int (fun _ _ => rfl)) pe_str (nomark _)) (nomark _)))) pss_nil)
    (pss_one (ps_ret (pe_ifExp (pt_cmpR op_eq (pe_ix ix_tup (pv 2) pe_int (fun _ _ => rfl)) pe_str (nomark _)) (pe_cmpR op_le (pv 3) (pe_ix ix_tup (pv 2) pe_int (fun _ _ => rfl)) (nomark _)) (pe_cmpR op_ge (pv 3) (pe_ix ix_tup (pv 2) pe_int (fun _ _ => rfl)) (nomark _))))))), ?_⟩
    obtain ⟨n, op, va⟩ := t
    obtain ⟨so, hm, hv, ho⟩ := ht
    obtain ⟨j, hj⟩ := List.getElem?_of_mem hm
    obtain ⟨x, hx, hvx⟩ := hC.at hj
    have ev : val kn.fields c n = x := val_at kok.fs.2.2 hj hx
    have k : ∀ H', Same H H' → Q (.bl (mt op x va)) H' := fun H' s1 => by
      have := k H' s1
      rw [meets, ev] at this
      exact this
    have hjl : j < kn.fields.length := (List.getElem?_eq_some_iff.mp hj).1
    refine ⟨_, rfl, _, rfl, lf, ua, fxs, c, rfl, hF, hU, fun D hD => ?_⟩
    refine lc_it (walk_zipM (n := kn.fields.length) (by rw [hFP.length, hC.len]; simp)) (fun i H' => Same H H' ∧ H' D = some (.lst (if j < i then [x] else []))) ⟨same_new hD, upd_same⟩ (fun i H' _ p => ⟨p.1.seq hF, same_tup p.1 hU⟩) ?_ ?_
    · rintro i v H1 H2 hi ⟨s1, hd⟩ ⟨Tp, a1, b1, rfl, hTp, rfl, ea, eb⟩
      obtain ⟨⟨m, so2⟩, hf, a, rfl, hT⟩ := paired_at hFP ea
      have s2 := s1.trans (same_new (o := .tup [V.ref a, b1]) hTp)
      have DT : D ≠ Tp := ne_of_none hd hTp
      refine ⟨Tp, _, rfl, SqT.of upd_same, rfl, _, _, rfl, a, _, rfl, same_tup s2 hT, rfl, _, _, rfl, _, _, rfl, rfl, _, _, rfl, rfl, rfl, ?_⟩
      refine ⟨_, rfl, _, rfl, ya, _, _, _, rfl, rfl, same_tup s2 hY, rfl, rfl, _, rfl, ?_⟩
      by_cases e : m = n
      · have eij : i = j := nodup_at kok.fs.2.2 hj (by rw [hf, e])
        subst eij
        rw [decide_eq_true (show V.str m = V.str n by rw [e])]
        rw [if_neg (Nat.lt_irrefl i)] at hd
        have ebx : b1 = x := Option.some.inj (eb.symm.trans hx)
        refine iteT ⟨_, rfl, [], by rw [upd_ne DT]; exact hd, by decide, grow_same hD s2, ?_⟩
        rw [upd_same, ebx, if_pos (Nat.lt_succ_self i)]
        rfl
      · have nij : i ≠ j := fun z => by
          subst z
          have hf' : kn.fields[i]? = some (m, so2) := hf
          rw [hj] at hf'
          exact e (Prod.mk.inj (Option.some.inj hf')).1.symm
        rw [decide_eq_false (show ¬ V.str m = V.str n from fun z => e (V.str.inj z))]
        refine iteF ⟨s2, ?_⟩
        rw [upd_ne DT, hd]
        have : (j < i) = (j < i + 1) := by
          apply propext
          omega
        simp only [this]
    · rintro H1 ⟨s1, hd⟩
      rw [if_pos hjl] at hd
      refine ⟨D, [x], _, x, rfl, rfl, SqL.of hd, rfl, ?_⟩
      have tU : ∀ {H' : Hp}, Same H1 H' → SqT K H' ya [V.str n, V.str op, va] := fun s2 => same_tup (s1.trans s2) hY
      have hvx2 : ValOk so x := hvx
      have hv2 : ValOk so va := hv
      have ho2 : (so = "word" ∧ (op = "is" ∨ op = "not")) ∨ (so = "number" ∧ (op = "most" ∨ op = "least")) := ho
      clear hv hvx ho hm hj ev hY
      refine ⟨_, rfl, ya, _, _, _, rfl, rfl, tU (Same.refl _), rfl, (show 2 ≤ sizeLine by decide), fun T2 hT2 => ?_⟩
      have s2 := s1.trans (same_new (o := .tup [.str "is", .str "not"]) hT2)
      have tU2 := tU (same_new (o := .tup [V.str "is", V.str "not"]) hT2)
      refine ⟨T2, _, rfl, .inr (SqT.of upd_same), rfl, rfl, _, rfl, ?_⟩
      have k := k _ s2
      rcases ho2 with ⟨rfl, ho⟩ | ⟨rfl, ho⟩
      · rcases hv2 with ⟨_, b, rfl, _⟩ | ⟨e, _⟩
        · rcases hvx2 with ⟨_, a, rfl, _⟩ | ⟨e, _⟩
          · have k : Q (.bl (if op = "is" then decide (a = b) else !decide (a = b))) _ := k
            have hin : inV (.str op) [.str "is", .str "not"] = true := by
              rw [show ([.str "is", .str "not"] : List V) = (["is", "not"] : List Str).map V.str from rfl, inV_strs]
              rcases ho with rfl | rfl
              · exact decide_eq_true (by simp)
              · exact decide_eq_true (by simp)
            rw [show (if false = true then !inV (.str op) [.str "is", .str "not"] else inV (.str op) [.str "is", .str "not"]) = true from hin]
            refine iteT ⟨_, rfl, _, rfl, ya, _, _, _, rfl, rfl, tU2, rfl, rfl, _, rfl, ya, _, _, _, rfl, rfl, tU2, rfl, rfl, rfl, ?_⟩
            have e1 : decide (V.str a = V.str b) = decide (a = b) := by simp
            rw [e1]
            rcases ho with rfl | rfl
            · rw [if_pos rfl] at k
              rw [show decide (V.bl (decide (a = b)) = V.bl (decide (V.str ("is" : Str) = V.str "is"))) = decide (a = b) by by_cases z : a = b <;> simp [z]]
              exact k
            · rw [if_neg (by decide +kernel)] at k
              have e3 : decide (V.str ("not" : Str) = V.str "is") = false := by decide +kernel
              rw [e3, show decide (V.bl (decide (a = b)) = V.bl false) = !decide (a = b) by by_cases z : a = b <;> simp [z]]
              exact k
          · exact absurd e (by decide +kernel)
        · exact absurd e (by decide +kernel)
      · rcases hv2 with ⟨e, _⟩ | ⟨_, b, rfl, _⟩
        · exact absurd e (by decide +kernel)
        · rcases hvx2 with ⟨e, _⟩ | ⟨_, a, rfl, _⟩
          · exact absurd e (by decide +kernel)
          · have k : Q (.bl (if op = "most" then decide (a ≤ b) else decide (b ≤ a))) _ := k
            have hin : inV (.str op) [.str "is", .str "not"] = false := by
              rw [show ([.str "is", .str "not"] : List V) = (["is", "not"] : List Str).map V.str from rfl, inV_strs]
              rcases ho with rfl | rfl
              · exact decide_eq_false (by decide +kernel)
              · exact decide_eq_false (by decide +kernel)
            rw [show (if false = true then !inV (.str op) [.str "is", .str "not"] else inV (.str op) [.str "is", .str "not"]) = false from hin]
            refine iteF ⟨_, rfl, ya, _, _, _, rfl, rfl, tU2, rfl, rfl, _, rfl, ?_⟩
            rcases ho with rfl | rfl
            · rw [if_pos rfl] at k
              exact iteT ⟨_, rfl, _, rfl, ya, _, _, _, rfl, rfl, tU2, rfl, a, b, rfl, rfl, k⟩
            · rw [if_neg (by decide +kernel)] at k
              exact iteF ⟨_, rfl, _, rfl, ya, _, _, _, rfl, rfl, tU2, rfl, a, b, rfl, rfl, k⟩
theorem ok_law_all (T : Top K mg) (c__law_meets : Cal P w K mg base CX0 1 "_law_meets" (sp_law_meets K)) : Cal P w K mg base CX0 2 "_law_all" (sp_law_all K) := by
  have nd := sc__law_all.nd
  refine cal_of (ps := P__law_all) T.d__law_all (fun _ _ _ _ _ _ us hl => match us, hl with | [_, _, _], _ => rfl) sc__law_all (fun vs H Q E h => ?_) (fun f cdv A outer s H vs Q E hr h => ?_)
  · obtain ⟨fv, k, u, c, y, t, rfl, _⟩ := h
    rfl
  · obtain ⟨fv, kn, u, c, y, ts, rfl, hF, kok, hU, hC, ⟨ya, xs, rfl, hY, hP⟩, h60, ht, k⟩ := h
    refine ⟨_, (pss_one (ps_ret (pe_cmpR (op_eqD (roomE hr)) (pe_lc (own := [("_law_test_here", 3)]) (g := (gName 3)) rfl nd (pi_list (pv 2)) (blkOk_by (own := [("_law_test_here", 3)]) (N := N__law_all) (sc := defScope s__law_all) (by decide +kernel)) (fun _ _ _ _ _ => (pg_name (i := 3) nd rfl (by first | exact Or.inl rfl | exact Or.inr rfl))) (fun _ _ _ _ _ => (pts_one (pt_not (pt_val (pcal c__law_meets hr (by decide) (by rfl) (pa_cons (pv 0) (pa_cons (pv 1) (pa_cons (pv 3) pa_nil)))))))) (fun _ _ _ _ _ => (pv 3))) (pe_lst pa_nil) (nomark _)))), ?_⟩
    have hl := hP.length
    refine ⟨_, rfl, ya, rfl, ⟨_, hY⟩, fun D hD => ?_⟩
    refine lc_it (walk_list (xs := xs)) (fun i H' => Same H H' ∧ ∃ zs, H' D = some (.lst zs) ∧ Paired (TsA K H) zs ((ts.take i).filter fun t => !meets kn.fields c t)) ⟨same_new hD, [], upd_same, .nil⟩ (fun i H' _ p => p.1.seq hY) ?_ ?_
    · rintro i z H1 H2 hi ⟨s1, zs, hd, hZ⟩ ⟨rfl, hv⟩
      obtain ⟨t, hf, hT⟩ := paired_at hP hv
      have htm := List.mem_of_getElem? hf
      refine ⟨rfl, ?_⟩
      refine ⟨_, rfl, _, rfl, _, rfl, fv, kn, u, c, z, t, rfl, LiA.mono FiA.mono _ _ _ _ _ s1 hF, kok, CaA.mono _ _ _ _ _ s1 hU, hC, TsA.mono _ _ _ _ _ s1 hT, ht t htm, fun H3 s3 => ?_⟩
      refine ⟨_, rfl, ?_⟩
      have hd3 := s3 _ _ hd
      cases em : meets kn.fields c t with
      | true =>
        refine iteF ⟨s1.trans s3, zs, hd3, ?_⟩
        rw [take_succ_of hf, List.filter_append]
        simpa [em] using hZ
      | false =>
        refine iteT ⟨_, rfl, zs, hd3, ?_, grow_same hD (s1.trans s3), _, upd_same, ?_⟩
        · rw [hZ.length]
          have h1 := List.length_filter_le (fun t => !meets kn.fields c t) (ts.take i)
          have h2 : (ts.take i).length ≤ ts.length := List.length_take_le' ..
          have : 60 < sizeLine := by decide
          omega
        · rw [take_succ_of hf, List.filter_append]
          simp only [List.filter_cons, em, List.filter_nil]
          exact paired_app hZ (.cons hT .nil)
    · rintro H1 ⟨s1, zs, hd, hZ⟩
      rw [hl, List.take_length] at hZ
      refine ⟨by decide, fun D2 hD2 => ?_⟩
      have dd : D ≠ D2 := ne_of_none hd hD2
      have ok2 : ∀ t ∈ ts.filter (fun t => !meets kn.fields c t), TstLay t := fun t h => tst_lay kok (ht t (List.mem_filter.mp h).1)
      have s2 := s1.trans (same_new (o := .lst []) hD2)
      refine ⟨_, .list [], .lst (SqL.of (by rw [upd_ne dd]; exact hd)) (dp_tests (paired_mono TsA.mono s2 hZ) ok2), .lst (SqL.of upd_same) .nil, shaped_list (n := 1) (fun t h => lay_test (ok2 t h)) (fun t _ => dep_test t) (by decide), by decide +kernel, ?_⟩
      rw [eqv_nil]
      have e : ((ts.filter fun t => !meets kn.fields c t).map dT).isEmpty = allm kn.fields c ts := by
        rw [List.isEmpty_map, allm, Bool.eq_iff_iff, List.isEmpty_iff, List.filter_eq_nil_iff, List.all_eq_true]
        exact ⟨fun z t ht => by simpa using z t ht, fun z t ht => by simpa using z t ht⟩
      rw [e]
      exact k _ s2
end
end K5
set_option Elab.async false
set_option linter.all false
set_option maxRecDepth 100000
set_option maxHeartbeats 2000000
namespace K5
open PySem PySem.Spec PyProof.Rows L2
abbrev N__law_tests_of : List Str := ["_law_rules_here", "_law_name", "_law_found", "_law_tests", "_law_answer_here", "_law_test_here"]
abbrev P__law_tests_of : List Str := ["_law_rules_here", "_law_name"]
theorem sc__law_tests_of : FnScope N__law_tests_of P__law_tests_of (defScope s__law_tests_of) := ⟨rfl, rfl, rfl, by decide +kernel, rfl, by decide +kernel, by decide +kernel⟩
abbrev N__law_may : List Str := ["_law_fields", "_law_rules_here", "_law_at", "_law_cases", "_law_other", "_law_bad", "_law_case_here"]
abbrev P__law_may : List Str := ["_law_fields", "_law_rules_here", "_law_at", "_law_cases"]
theorem sc__law_may : FnScope N__law_may P__law_may (defScope s__law_may) := ⟨rfl, rfl, rfl, by decide +kernel, rfl, by decide +kernel, by decide +kernel⟩
theorem deci_before {fs : Flds} {c : Cse} : ∀ {rs : List Rul} {i : Nat} {r : Rul}, i < deci fs c rs → rs[i]? = some r → allm fs c r.1 = false
  | [], _, _, h, _ => by simp [deci] at h
  | q :: rs, i, r, h, e => by
    cases hq : allm fs c q.1 with
    | true => simp [deci, hq] at h
    | false =>
      cases i with
      | zero =>
        simp at e
        rw [← e]
        exact hq
      | succ i =>
        simp [deci, hq] at h
        exact deci_before h (by simpa using e)
theorem deci_here {fs : Flds} {c : Cse} : ∀ {rs : List Rul} {r : Rul}, rs[deci fs c rs]? = some r → allm fs c r.1 = true
  | [], _, e => by simp at e
  | q :: rs, r, e => by
    cases hq : allm fs c q.1 with
    | true =>
      simp [deci, hq] at e
      rw [← e]
      exact hq
    | false =>
      simp [deci, hq] at e
      exact deci_here e
section
variable {P : Program} {w : World} {K : PySem.W.Frag} {mg : Str → Option Value} {base : Heap}
theorem ok_law_decides (T : Top K mg) (c__law_all : Cal P w K mg base CX0 2 "_law_all" (sp_law_all K)) : Cal P w K mg base CX0 3 "_law_decides" (sp_law_decides K) := by
  have nd := sc__law_decides.nd
  refine cal_of (ps := P__law_decides) T.d__law_decides (fun _ _ _ _ _ _ us hl => match us, hl with | [_, _, _], _ => rfl) sc__law_decides (fun vs H Q E h => ?_) (fun f cdv A outer s H vs Q E hr h => ?_)
  · obtain ⟨fv, k, rv, rs, u, c, rfl, _⟩ := h
    rfl
  · obtain ⟨fv, kn, rv, rs, u, c, rfl, hF, kok, ⟨la, xs, rfl, hL, hP⟩, rok, hU, hC, k⟩ := h
    refine ⟨_, (pss_one (ps_ret (pe_ix ix_list (pe_lc (own := [("_law_at", 3), ("_law_tests", 4), ("_law_answer_here", 5)]) (g := (gTup K 2 (gCons (gName 3) (gCons (gTup K 2 (gCons (gName 4) (gCons (gName 5) gNil))) gNil)))) rfl nd (pi_enum (by rfl) T.f_enumerate (pa_cons (pv 1) pa_nil)) (blkOk_by (own := [("_law_at", 3), ("_law_tests", 4), ("_law_answer_here", 5)]) (N := N__law_decides) (sc := defScope s__law_decides) (by decide +kernel)) (fun _ _ _ _ _ => (pg_tup rfl (pgs_cons (pg_name (i := 3) nd rfl (by first | exact Or.inl rfl | exact Or.inr rfl)) (pgs_cons (pg_tup rfl (pgs_cons (pg_name (i := 4) nd rfl (by first | exact Or.inl rfl | exact Or.inr rfl)) (pgs_cons (pg_name (i := 5) nd rfl (by first | exact Or.inl rfl | exact Or.inr rfl)) pgs_nil))) pgs_nil)))) (fun _ _ _ _ _ => (pts_one (pt_val (pcal c__law_all hr (by decide) (by rfl) (pa_cons (pv 0) (pa_cons (pv 2) (pa_cons (pv 4) pa_nil))))))) (fun _ _ _ _ _ => (pv 3))) pe_int (fun _ _ => rfl)))), ?_⟩
    have hl := hP.length
    obtain ⟨an, hlast⟩ := rok.last
    have hdl := (deci_lt kn.fields c hlast).1
    refine ⟨_, rfl, la, xs, rfl, hL, fun D hD => ?_⟩
    refine lc_it (walk_enum (xs := xs)) (fun i H' => Same H H' ∧ ((deci kn.fields c rs < i ∧ ∃ rest, H' D = some (.lst (.int (deci kn.fields c rs : Nat) :: rest)) ∧ rest.length < i) ∨ (i ≤ deci kn.fields c rs ∧ H' D = some (.lst []))))
      ⟨same_new hD, .inr ⟨Nat.zero_le _, upd_same⟩⟩ (fun i H' _ p => p.1.seq hL) ?_ ?_
    · rintro i v H1 H2 hi ⟨s1, inv⟩ ⟨Tp, a1, b1, rfl, hTp, rfl, ea, eb⟩
      obtain rfl := Option.some.inj ea
      obtain ⟨r0, hf, ra, tu, rfl, hT, hU2⟩ := paired_at hP eb
      have hrm := List.mem_of_getElem? hf
      have s2 := s1.trans (same_new (o := .tup [V.int (i : Nat), V.ref ra]) hTp)
      have h60 : r0.1.length ≤ 60 := Nat.le_trans ((rok.rul hrm).small kok) (by decide)
      have DT : D ≠ Tp := by
        rcases inv with ⟨_, rest, hd, _⟩ | ⟨_, hd⟩
        · exact ne_of_none hd hTp
        · exact ne_of_none hd hTp
      refine ⟨Tp, _, rfl, SqT.of upd_same, rfl, _, _, rfl, _, _, rfl, ra, _, rfl, same_tup s2 hT, rfl, _, _, rfl, _, _, rfl, rfl, rfl, rfl, ?_⟩
      refine ⟨_, rfl, _, rfl, _, rfl, fv, kn, u, c, tu, r0.1, rfl, LiA.mono FiA.mono _ _ _ _ _ s2 hF, kok, CaA.mono _ _ _ _ _ s2 hU, hC, LiA.mono TsA.mono _ _ _ _ _ s2 hU2, h60, (rok.rul hrm).tst, fun H3 s3 => ⟨_, rfl, ?_⟩⟩
      have s03 := s2.trans s3
      have h24 := rok.len
      have hil : i < rs.length := by omega
      have hsz : 60 < sizeLine := by decide
      rcases inv with ⟨hlt, rest, hd, hrl⟩ | ⟨hge, hd⟩
      · have hd3 := s3 D _ (show (upd H1 Tp (.tup [V.int (i : Nat), V.ref ra])) D = _ by rw [upd_ne DT]; exact hd)
        cases em : allm kn.fields c r0.1 with
        | true => exact iteT ⟨_, rfl, _, hd3, by rw [List.length_cons]; omega, grow_same hD s03, .inl ⟨by omega, rest ++ [.int (i : Nat)], upd_same, by rw [List.length_append]; simp; omega⟩⟩
        | false => exact iteF ⟨s03, .inl ⟨by omega, rest, hd3, by omega⟩⟩
      · have hd3 := s3 D _ (show (upd H1 Tp (.tup [V.int (i : Nat), V.ref ra])) D = _ by rw [upd_ne DT]; exact hd)
        by_cases e : i = deci kn.fields c rs
        · have em : allm kn.fields c r0.1 = true := deci_here (rs := rs) (by rw [← e]; exact hf)
          rw [em]
          exact iteT ⟨_, rfl, _, hd3, by decide, grow_same hD s03, .inl ⟨by omega, [], by rw [upd_same, e]; rfl, by simp⟩⟩
        · have em : allm kn.fields c r0.1 = false := deci_before (by omega) hf
          rw [em]
          exact iteF ⟨s03, .inr ⟨by omega, hd3⟩⟩
    · rintro H1 ⟨s1, ⟨hlt, rest, hd, hrl⟩ | ⟨hge, hd⟩⟩
      · exact ⟨D, _, _, _, rfl, rfl, SqL.of hd, atI_nat (j := 0) rfl, k _ s1⟩
      · omega
theorem ok_law_answer (T : Top K mg) (c__law_decides : Cal P w K mg base CX0 3 "_law_decides" (sp_law_decides K)) : Cal P w K mg base CX0 4 "_law_answer" (sp_law_answer K) := by
  have nd := sc__law_answer.nd
  refine cal_of (ps := P__law_answer) T.d__law_answer (fun _ _ _ _ _ _ us hl => match us, hl with | [_, _, _], _ => rfl) sc__law_answer (fun vs H Q E h => ?_) (fun f cdv A outer s H vs Q E hr h => ?_)
  · obtain ⟨fv, k, rv, rs, u, c, rfl, _⟩ := h
    rfl
  · obtain ⟨fv, kn, rv, rs, u, c, rfl, hF, kok, ⟨la, xs, rfl, hL, hP⟩, rok, hU, hC, k⟩ := h
    refine ⟨_, (pss_one (ps_ret (pe_ix ix_tup (pe_ix ix_list (pv 1) (pcal c__law_decides hr (by decide) (by rfl) (pa_cons (pv 0) (pa_cons (pv 1) (pa_cons (pv 2) pa_nil)))) (fun _ _ => rfl)) pe_int (fun _ _ => rfl)))), ?_⟩
    obtain ⟨an, hlast⟩ := rok.last
    obtain ⟨h1, h2⟩ := deci_lt kn.fields c hlast
    refine ⟨_, rfl, _, rfl, _, rfl, _, rfl, fv, kn, _, rs, u, c, rfl, hF, kok, ⟨la, xs, rfl, hL, hP⟩, rok, hU, hC, fun H1 s1 => ?_⟩
    obtain ⟨rr, hrr⟩ : ∃ rr, rs[deci kn.fields c rs]? = some rr := ⟨_, List.getElem?_eq_getElem h1⟩
    obtain ⟨z, hz, ra, tu, rfl, hT, _⟩ := paired_ta hP hrr
    refine ⟨la, xs, _, _, rfl, rfl, s1.seq hL, atI_nat hz, ra, _, _, _, rfl, rfl, same_tup s1 hT, rfl, ?_⟩
    rw [hrr] at h2
    have k := k _ s1
    rw [← Option.some.inj h2] at k
    exact k
end
end K5
set_option Elab.async false
set_option linter.all false
set_option maxRecDepth 100000
set_option maxHeartbeats 2000000
/-! Words made of letters. -/
namespace K5
open PySem PySem.Spec PyProof.Rows L2
def rRepS : R2 := fun x y H Q => ∃ z n, x = .str z ∧ y = .int n ∧ MulOk z n ∧ Q (.str (Txt.mul z n)) H
theorem op_repStr {X : Cx} : OpR X (binaryOp .Mult) rRepS := by
  intro pins s σ H x y v u Q I rx ry h
  obtain ⟨z, n, rfl, rfl, ok, q⟩ := h
  obtain ⟨t, rfl⟩ := (show ∃ t, v = Value.str z t from rx)
  obtain ⟨t', rfl⟩ := (show ∃ t', u = Value.int n t' from ry)
  exact PySem.SB.mul ok fun t2 k => ⟨.str _, H, I.tok _, ⟨_, rfl⟩, q⟩
/-- a sign of the alphabet -/
def ltr (i : Nat) : Str := ⟨#[letters.cps.toList.getD (i % 26) 97]⟩
theorem letters_at (i : Nat) : atI letters.cps.toList (((i % 26 : Nat)) : Int) = some (letters.cps.toList.getD (i % 26) 97) := by
  have h : ∀ j : Nat, j < 26 → atI letters.cps.toList (j : Int) = some (letters.cps.toList.getD j 97) := by
    intro j hj
    have hl : letters.cps.toList.length = 26 := by decide +kernel
    refine atI_nat ?_
    rw [List.getD_eq_getElem?_getD, List.getElem?_eq_getElem (by omega)]
    rfl
  exact h _ (Nat.mod_lt _ (by decide))
theorem ltr_mem (i : Nat) : letters.cps.toList.getD (i % 26) 97 ∈ letters.cps.toList := by
  have hl : letters.cps.toList.length = 26 := by decide +kernel
  have h : i % 26 < letters.cps.toList.length := by
    rw [hl]
    exact Nat.mod_lt _ (by decide)
  rw [List.getD_eq_getElem?_getD, List.getElem?_eq_getElem h]
  exact List.getElem_mem h
theorem mulOk_one {c : Nat} {n : Int} (h1 : 1 ≤ n) (h2 : n ≤ 9) : MulOk (⟨#[c]⟩ : Str) n := by
  have hl : (⟨#[c]⟩ : Str).length = 1 := rfl
  have hn : n = 1 ∨ n = 2 ∨ n = 3 ∨ n = 4 ∨ n = 5 ∨ n = 6 ∨ n = 7 ∨ n = 8 ∨ n = 9 := by omega
  unfold MulOk
  rw [hl]
  rcases hn with h | h | h | h | h | h | h | h | h <;> subst h <;> decide +kernel
/-- a sign n times -/
def reps (c n : Nat) : Str := ⟨(List.replicate n c).toArray⟩
theorem mul_one_sign (c n : Nat) (h : 1 ≤ n) : Txt.mul (⟨#[c]⟩ : Str) (n : Int) = reps c n := by
  have key : ∀ m : Nat, ∀ a : Array Nat, (List.replicate m (#[c] : Array Nat)).foldl (· ++ ·) a = a ++ (List.replicate m c).toArray := by
    intro m
    induction m with
    | zero => intro a; simp
    | succ m ih =>
      intro a
      rw [List.replicate_succ, List.foldl_cons, ih, List.replicate_succ]
      apply Array.toList_inj.mp
      simp
  unfold Txt.mul
  rw [if_neg (by omega)]
  by_cases h1 : n = 1
  · subst h1
    rfl
  · rw [if_neg (by
      have : (⟨#[c]⟩ : Str).length = 1 := rfl
      rw [this]
      simp
      omega)]
    show (⟨(List.replicate n #[c]).foldl (· ++ ·) #[]⟩ : Str) = _
    rw [key]
    simp [reps]
theorem word_reps {c n : Nat} (hc : c ∈ letters.cps.toList) (h1 : 1 ≤ n) (h6 : n ≤ 6) : WordOk (reps c n) := by
  refine ⟨?_, ?_, fun d hd => ?_⟩
  · show 1 ≤ (List.replicate n c).toArray.size
    simpa using h1
  · show (List.replicate n c).toArray.size ≤ 6
    simpa using h6
  · have : d ∈ List.replicate n c := by simpa [reps] using hd
    rw [(List.mem_replicate.mp this).2]
    exact hc
theorem reps_len (c n : Nat) : (reps c n).length = n := by
  show (List.replicate n c).toArray.size = n
  simp
theorem app_cps (x y : Str) : (x ++ y).cps.toList = x.cps.toList ++ y.cps.toList := by
  show (x.cps ++ y.cps).toList = _
  simp
theorem app_len (x y : Str) : (x ++ y).length = x.length + y.length := by
  show (x.cps ++ y.cps).size = _
  rw [Array.size_append]
  rfl
/-- letters only -/
def Ltrs (x : Str) : Prop := ∀ c ∈ x.cps.toList, c ∈ letters.cps.toList
theorem Ltrs.app {x y : Str} (hx : Ltrs x) (hy : Ltrs y) : Ltrs (x ++ y) := fun c hc => by
  rw [app_cps, List.mem_append] at hc
  rcases hc with h | h
  · exact hx c h
  · exact hy c h
theorem Ltrs.one {c : Nat} (h : c ∈ letters.cps.toList) : Ltrs ⟨#[c]⟩ := fun d hd => by
  have : d = c := by simpa using hd
  rw [this]
  exact h
theorem Ltrs.cut {x : Str} (hx : Ltrs x) (lo hi : Option Int) : Ltrs (cutS x lo hi) := fun c hc => by
  have : c ∈ ((x.cps.toList.drop (HT.sIx x.length 0 lo)).take (HT.sIx x.length x.length hi - HT.sIx x.length 0 lo)) := by simpa [cutS] using hc
  exact hx c (List.mem_of_mem_drop (List.mem_of_mem_take this))
/-! ### the law's other words -/
def wq (k : Nat) : Str := ("q" : Str) ++ reps (letters.cps.toList.getD (k % 26) 97) (1 + k / 26)
theorem wq_ok {k : Nat} (h : k < 100) : WordOk (wq k) := by
  have hr : 1 + k / 26 ≤ 4 := by omega
  have hq : Ltrs ("q" : Str) := by
    have : (("q" : Str).cps.toList.all fun c => decide (c ∈ letters.cps.toList)) = true := by decide +kernel
    exact fun c hc => of_decide_eq_true (List.all_eq_true.mp this c hc)
  have hw := word_reps (ltr_mem k) (n := 1 + k / 26) (by omega) (by omega)
  refine ⟨?_, ?_, Ltrs.app hq hw.2.2⟩
  · rw [wq, app_len, reps_len]
    omega
  · rw [wq, app_len, reps_len, show ("q" : Str).length = 1 from rfl]
    omega
theorem wq_nodup : ((List.range 100).map wq).Nodup := by decide +kernel
end K5
set_option Elab.async false
set_option linter.all false
set_option maxRecDepth 100000
set_option maxHeartbeats 2000000
namespace K5
open PySem PySem.Spec PyProof.Rows L2
abbrev N__law_members : List Str := ["_law_rules_here", "_law_name", "_law_sort", "_law_tests", "_law_words_here", "_law_letters", "_law_some", "_law_found", "_law_field", "_law_sign", "_law_value", "_law_other", "_law_k", "_law_word"]
abbrev P__law_members : List Str := ["_law_rules_here", "_law_name", "_law_sort"]
theorem sc__law_members : FnScope N__law_members P__law_members (defScope s__law_members) := ⟨rfl, rfl, rfl, by decide +kernel, rfl, by decide +kernel, by decide +kernel⟩
def fTests (ts : List Tst) (n : Str) : List Tst := ts.filter fun t => decide (t.1 = n)
def sp_law_tests_of (K : PySem.W.Frag) : Sp := fun vs H Q _ => ∃ rv rs n, vs = [rv, .str n] ∧ LiA RuA K H rv rs ∧ rs.length ≤ 24 ∧ (∀ r ∈ rs, r.1.length ≤ 2) ∧ ∀ a ys H', Same H H' → H a = none → H' a = some (.lst ys) → Paired (TsA K H) ys (fTests (allTests rs) n) → Q (.ref a) H'
def sp_law_members (K : PySem.W.Frag) : Sp := fun vs H Q _ => ∃ rv k rs n so, vs = [rv, .str n, .str so] ∧ LiA RuA K H rv rs ∧ KndOk k ∧ RulsOk k rs ∧ (n, so) ∈ k.fields ∧ (allTests rs).length ≤ 24 ∧
  ∀ a m H', Same H H' → H a = none → H' a = some (.lst m) → FullMem (allTests rs) m (n, so) → m.length ≤ 2 * nTests (allTests rs) n + 1 → Q (.ref a) H'
section
variable {P : Program} {w : World} {K : PySem.W.Frag} {mg : Str → Option Value} {base : Heap}
theorem ok_law_tests_of (T : Top K mg) : Cal P w K mg base CX0 1 "_law_tests_of" (sp_law_tests_of K) := by
  have nd := sc__law_tests_of.nd
  refine cal_of (ps := P__law_tests_of) T.d__law_tests_of (fun _ _ _ _ _ _ us hl => match us, hl with | [_, _], _ => rfl) sc__law_tests_of (fun vs H Q E h => ?_) (fun f cdv A outer s H vs Q E hr h => ?_)
  · obtain ⟨rv, rs, n, rfl, _⟩ := h
    rfl
  · obtain ⟨rv, rs, n, rfl, ⟨la, xs, rfl, hL, hP⟩, h24, h2, k⟩ := h
    have hl := hP.length
    refine ⟨_, (pss_cons (ps_set (i := 2) nd rfl (by first | exact Or.inl rfl | exact Or.inr rfl) (pe_lst pa_nil))
    (pss_cons (ps_for PassesOwn.never rfl (pi_list (pv 0)) (pg_tup rfl (pgs_cons (pg_name (i := 3) nd rfl (by first | exact Or.inl rfl | exact Or.inr rfl)) (pgs_cons (pg_name (i := 4) nd rfl (by first | exact Or.inl rfl | exact Or.inr rfl)) pgs_nil))) (pss_one (ps_set (i := 2) nd rfl (by first | exact Or.inl rfl | exact Or.inr rfl) (pe_op op_cat (pv 2) (pe_lc (own := [("_law_test_here", 5)]) (g := (gName 5)) rfl nd (pi_list (pv 3)) (blkOk_by (own := [("_law_test_here", 5)]) (N := N__law_tests_of) (sc := defScope s__law_tests_of) (by decide +kernel)) (fun _ _ _ _ _ => (pg_name (i := 5) nd rfl (by first | exact Or.inl rfl | exact Or.inr rfl))) (fun _ _ _ _ _ => (pts_one (pt_cmpR op_eq (pe_ix (ix_tupK (K := K)) (pv 5) pe_int (fun _ _ => rfl)) (pv 1) (nomark _)))) (fun _ _ _ _ _ => (pv 5)))))))
    (pss_one (ps_ret (pv 2))))), ?_⟩
    refine ⟨by decide, fun D hD => ?_⟩
    have s1 := same_new (o := .lst []) hD
    refine ⟨_, rfl, la, rfl, ⟨_, s1.seq hL⟩, ?_⟩
    refine for_it (walk_list (xs := xs)) (fun i σ H' => ∃ q v3 v4 v5, σ = [some (.ref la), some (.str n), some (.ref q), v3, v4, v5] ∧ Same H H' ∧ H q = none ∧ ∃ ys, H' q = some (.lst ys) ∧ Paired (TsA K H) ys (fTests (allTests (rs.take i)) n))
      ⟨D, _, _, _, rfl, s1, hD, [], upd_same, .nil⟩ (fun i σ H' _ ⟨_, _, _, _, _, s, _⟩ => s.seq hL) ?_ ?_
    · rintro i z σ H1 H2 hi ⟨q, v3, v4, v5, rfl, s1, hq, ys, hys, hY⟩ ⟨rfl, hv⟩
      obtain ⟨r0, hf, ra, tu, rfl, hT, ta, ts, rfl, hU, hUP⟩ := paired_at hP hv
      have hl2 := hUP.length
      refine ⟨ra, _, rfl, same_tup s1 hT, rfl, _, _, rfl, _, _, rfl, rfl, ?_⟩
      refine ⟨_, rfl, _, rfl, ta, rfl, ⟨_, s1.seq hU⟩, fun D2 hD2 => ?_⟩
      refine lc_it (walk_list (xs := ts)) (fun j H' => Same H2 H' ∧ ∃ zs, H' D2 = some (.lst zs) ∧ Paired (TsA K H) zs (fTests (r0.1.take j) n)) ⟨same_new hD2, [], upd_same, .nil⟩ (fun j H' _ p => (s1.trans p.1).seq hU) ?_ ?_
      · rintro j x H3 H4 hj ⟨s3, zs, hzs, hZ⟩ ⟨rfl, hv3⟩
        obtain ⟨t, ht, a, rfl, hTt⟩ := paired_at hUP hv3
        refine ⟨rfl, ?_⟩
        refine ⟨_, rfl, a, _, _, _, rfl, rfl, same_tup (s1.trans s3) hTt, rfl, _, rfl, rfl, _, rfl, ?_⟩
        by_cases e : t.1 = n
        · rw [decide_eq_true (show V.str t.1 = V.str n by rw [e])]
          refine iteT ⟨_, rfl, zs, hzs, ?_, grow_same hD2 s3, _, upd_same, ?_⟩
          · rw [hZ.length]
            have h1 := List.length_filter_le (fun t : Tst => decide (t.1 = n)) (r0.1.take j)
            have h3 : (r0.1.take j).length ≤ r0.1.length := List.length_take_le' ..
            have h4 := h2 r0 (List.mem_of_getElem? hf)
            have : 60 < sizeLine := by decide
            show (List.filter (fun t : Tst => decide (t.1 = n)) (r0.1.take j)).length < _
            omega
          · rw [take_succ_of ht, fTests, List.filter_append]
            refine paired_app hZ ?_
            rw [List.filter_cons, if_pos (decide_eq_true e)]
            exact .cons ⟨a, rfl, hTt⟩ .nil
        · rw [decide_eq_false (show ¬ V.str t.1 = V.str n from fun z => e (V.str.inj z))]
          refine iteF ⟨s3, zs, hzs, ?_⟩
          rw [take_succ_of ht, fTests, List.filter_append, List.filter_cons, if_neg (by rw [decide_eq_false e]; decide)]
          simpa [fTests] using hZ
      · rintro H3 ⟨s3, zs, hzs, hZ⟩
        rw [hl2, List.take_length] at hZ
        refine ⟨q, D2, ys, zs, rfl, rfl, s3 _ _ hys, hzs, ?_, fun p hp => ?_⟩
        · have h5 := allTests_len (rs := rs.take i) fun r hr => h2 r (List.mem_of_mem_take hr)
          have h6 : (rs.take i).length ≤ rs.length := List.length_take_le' ..
          have h7 := List.length_filter_le (fun t : Tst => decide (t.1 = n)) (allTests (rs.take i))
          have h8 := List.length_filter_le (fun t : Tst => decide (t.1 = n)) r0.1
          have h9 := h2 r0 (List.mem_of_getElem? hf)
          rw [hY.length, hZ.length]
          have : 60 < sizeLine := by decide
          show (List.filter (fun t : Tst => decide (t.1 = n)) (allTests (rs.take i))).length + (List.filter (fun t : Tst => decide (t.1 = n)) r0.1).length ≤ _
          omega
        · have s4 := s1.trans s3
          refine ⟨p, _, _, _, rfl, s4.trans (same_new hp), ?_, ys ++ zs, upd_same, ?_⟩
          · exact s4.free hp
          · rw [flat_take_succ hf, fTests, List.filter_append]
            exact paired_app hY hZ
    · rintro σ H1 ⟨q, v3, v4, v5, rfl, s1, hq, ys, hys, hY⟩
      rw [hl, List.take_length] at hY
      exact ⟨_, rfl, k q ys H1 s1 hq hys hY⟩
end
end K5
set_option Elab.async false
set_option linter.all false
set_option maxRecDepth 100000
set_option maxHeartbeats 2000000
namespace K5
open PySem PySem.Spec PyProof.Rows L2
theorem mod26 (i : Nat) : (0 + (i : Int)).fmod 26 = ((i % 26 : Nat) : Int) := by
  rw [Int.zero_add]
  cases i <;> rfl
theorem div26 (i : Nat) : (1 : Int) + (0 + (i : Int)).fdiv 26 = ((1 + i / 26 : Nat) : Int) := by
  rw [Int.zero_add]
  have : (i : Int).fdiv 26 = ((i / 26 : Nat) : Int) := by
    cases i <;> rfl
  rw [this]
  omega
theorem cut_one (xs : List V) : cutV xs none (some 1) = xs.take 1 := by
  unfold cutV
  have e : HT.sIx xs.length xs.length (some 1) = min 1 xs.length := HT.sIx_nat xs.length xs.length 1
  have e0 : HT.sIx xs.length 0 none = 0 := rfl
  rw [e, e0, List.drop_zero, Nat.sub_zero]
  cases xs <;> simp
theorem two_new {H1 H2 : Hp} {p q : Addr} {o1 o2 : HO} (s : Same H1 H2) (hp : H2 p = none) (hq : upd H2 p o1 q = none) : Same H1 (upd (upd H2 p o1) q o2) ∧ (upd (upd H2 p o1) q o2) q = some o2 :=
  ⟨(s.trans (same_new hp)).trans (same_new hq), upd_same⟩
/-- the law's words of a field -/
theorem mem_fTests {ts : List Tst} {n : Str} {t : Tst} : t ∈ fTests ts n ↔ t ∈ ts ∧ t.1 = n := by
  simp [fTests, List.mem_filter]
section
variable {P : Program} {w : World} {K : PySem.W.Frag} {mg : Str → Option Value} {base : Heap}
theorem ok_law_members (T : Top K mg) (c__law_tests_of : Cal P w K mg base CX0 1 "_law_tests_of" (sp_law_tests_of K)) : Cal P w K mg base CX0 2 "_law_members" (sp_law_members K) := by
  have nd := sc__law_members.nd
  refine cal_of (ps := P__law_members) T.d__law_members (fun _ _ _ _ _ _ us hl => match us, hl with | [_, _, _], _ => rfl) sc__law_members (fun vs H Q E h => ?_) (fun f cdv A outer s H vs Q E hr h => ?_)
  · obtain ⟨rv, k, rs, n, so, rfl, _⟩ := h
    rfl
  · obtain ⟨rv, kn, rs, n, so, rfl, hL, kok, rok, hm, h24, k⟩ := h
    refine ⟨_, (pss_cons (ps_set (i := 3) nd rfl (by first | exact Or.inl rfl | exact Or.inr rfl) (pcal c__law_tests_of hr (by decide) (by rfl) (pa_cons (pv 0) (pa_cons (pv 1) pa_nil))))
    (pss_cons (ps_if (pt_cmpR op_eq (pv 2) pe_str (nomark _)) (pss_cons (ps_set (i := 4) nd rfl (by first | exact Or.inl rfl | exact Or.inr rfl) (pe_callB (cr_sortM rfl) (by rfl) T.f_sorted (by decide +kernel) (pa_cons (pe_callTy (cr_setM rfl) (by rfl) T.f_set (by decide +kernel) (pa_cons (pe_lc (own := [("_law_field", 8), ("_law_sign", 9), ("_law_value", 10)]) (g := (gTup K 3 (gCons (gName 8) (gCons (gName 9) (gCons (gName 10) gNil))))) (tt := tYes) rfl nd (pi_list (pv 3)) (blkOk_by (own := [("_law_field", 8), ("_law_sign", 9), ("_law_value", 10)]) (N := N__law_members) (sc := defScope s__law_members) (by decide +kernel)) (fun _ _ _ _ _ => (pg_tup rfl (pgs_cons (pg_name (i := 8) nd rfl (by first | exact Or.inl rfl | exact Or.inr rfl)) (pgs_cons (pg_name (i := 9) nd rfl (by first | exact Or.inl rfl | exact Or.inr rfl)) (pgs_cons (pg_name (i := 10) nd rfl (by first | exact Or.inl rfl | exact Or.inr rfl)) pgs_nil))))) (fun _ _ _ _ _ => pts_nil) (fun _ _ _ _ _ => (pv 10))) pa_nil)) pa_nil)))
    (pss_cons (ps_set (i := 5) nd rfl (by first | exact Or.inl rfl | exact Or.inr rfl) pe_str)
    (pss_cons (ps_setLc (i := 6) (own := [("_law_k", 12)]) (g := (gName 12)) (tt := tYes) rfl nd rfl rfl (sw_true rfl rfl rfl (by decide +kernel)) (pi_range1 (by rfl) T.f_range (pa_cons pe_int pa_nil)) (blkOk_by (own := [("_law_k", 12)]) (N := N__law_members) (sc := defScope s__law_members) (by decide +kernel)) (fun _ _ _ _ _ => (pg_name (i := 12) nd rfl (by first | exact Or.inl rfl | exact Or.inr rfl))) (fun _ _ _ _ _ => pts_nil) (fun _ _ _ _ _ => (pe_op op_add_str pe_str (pe_op op_repStr (pe_ix ix_str (pv 5) (pe_op op_modN (pv 12) pe_int) (fun _ _ => rfl)) (pe_op op_add pe_int (pe_op op_fdivN (pv 12) pe_int))))))
    (pss_one (ps_ret (pe_op op_cat (pv 4) (pe_slice sl_list (pe_lc (own := [("_law_word", 13)]) (g := (gName 13)) rfl nd (pi_list (pv 6)) (blkOk_by (own := [("_law_word", 13)]) (N := N__law_members) (sc := defScope s__law_members) (by decide +kernel)) (fun _ _ _ _ _ => (pg_name (i := 13) nd rfl (by first | exact Or.inl rfl | exact Or.inr rfl))) (fun _ _ _ _ _ => (pts_one (pt_cmpR (op_notIn_seqK (K := K)) (pv 13) (pv 4) (by rfl)))) (fun _ _ _ _ _ => (pv 13))) po_none (po_some pe_int)))))))) pss_nil)
    (pss_cons (ps_set (i := 7) nd rfl (by first | exact Or.inl rfl | exact Or.inr rfl) (pe_lst (pa_cons pe_int pa_nil)))
    (pss_cons (ps_for PassesOwn.never rfl (pi_list (pv 3)) (pg_tup rfl (pgs_cons (pg_name (i := 8) nd rfl (by first | exact Or.inl rfl | exact Or.inr rfl)) (pgs_cons (pg_name (i := 9) nd rfl (by first | exact Or.inl rfl | exact Or.inr rfl)) (pgs_cons (pg_name (i := 10) nd rfl (by first | exact Or.inl rfl | exact Or.inr rfl)) pgs_nil)))) (pss_cons (ps_set (i := 11) nd rfl (by first | exact Or.inl rfl | exact Or.inr rfl) (pe_ifExp (pt_cmpR op_eq (pv 9) pe_str (nomark _)) (pe_callB (call_min2 rfl) (by rfl) T.f_min (by decide +kernel) (pa_cons pe_int (pa_cons (pe_op op_add (pv 10) pe_int) pa_nil))) (pe_callB (call_max2 rfl) (by rfl) T.f_max (by decide +kernel) (pa_cons (pe_un un_neg pe_int) (pa_cons (pe_op op_sub (pv 10) pe_int) pa_nil)))))
    (pss_one (ps_set (i := 7) nd rfl (by first | exact Or.inl rfl | exact Or.inr rfl) (pe_op op_cat (pv 7) (pe_lst (pa_cons (pv 10) (pa_cons (pv 11) pa_nil))))))))
    (pss_one (ps_ret (pe_callB (cr_sortM rfl) (by rfl) T.f_sorted (by decide +kernel) (pa_cons (pe_callTy (cr_setM rfl) (by rfl) T.f_set (by decide +kernel) (pa_cons (pv 7) pa_nil)) pa_nil)))))))), ?_⟩
    have hft : ∀ t ∈ fTests (allTests rs) n, t ∈ allTests rs ∧ t.1 = n := fun t ht => mem_fTests.mp ht
    have hlf : (fTests (allTests rs) n).length = nTests (allTests rs) n := rfl
    have hl24 : (fTests (allTests rs) n).length ≤ 24 := Nat.le_trans (nTests_le _ _) h24
    have tok := tests_ok rok
    refine ⟨_, rfl, _, rfl, rv, rs, n, rfl, hL, rok.len, fun r hr => (rok.rul hr).small kok, fun a ys H1 s1 ha hys hY => ?_⟩
    have hl := hY.length
    refine ⟨_, rfl, rfl, _, rfl, ?_⟩
    rcases (kok.fs.2.1 _ hm).2 with e | e
    · obtain rfl : so = "word" := e
      refine iteT ?_
      refine ⟨_, rfl, a, rfl, ⟨_, SqL.of hys⟩, fun D hD => ?_⟩
      refine lc_it (walk_list (xs := ys)) (fun i H' => Same H1 H' ∧ H' D = some (.lst ((((fTests (allTests rs) n).take i).map fun t : Tst => (.inr (strOf t.2.2) : Key)).map kV))) ⟨same_new hD, upd_same⟩ (fun i H' _ p => SqL.of (p.1 _ _ hys)) ?_ ?_
      · rintro i z H2 H3 hi ⟨s2, hd⟩ ⟨rfl, hv⟩
        obtain ⟨t, hf, b, rfl, hT⟩ := paired_at hY hv
        obtain ⟨htm, htn⟩ := hft t (List.mem_of_getElem? hf)
        obtain ⟨⟨x, hx, _⟩, _⟩ := tst_word kok (tok t htm) htn hm
        refine ⟨b, _, rfl, same_tup (s1.trans s2) hT, rfl, _, _, rfl, _, _, rfl, _, _, rfl, rfl, rfl, yesT (iteT ?_)⟩
        refine ⟨_, rfl, _, hd, ?_, grow_same hD s2, ?_⟩
        · rw [List.length_map, List.length_map, List.length_take]
          have : 60 < sizeLine := by decide
          omega
        · rw [upd_same, take_succ_of hf, List.map_append, List.map_append]
          show _ = some (HO.lst (_ ++ [V.str (strOf t.2.2)]))
          rw [hx]
          rfl
      · rintro H2 ⟨s2, hd⟩
        rw [hl, List.take_length] at hd
        refine ⟨D, _, rfl, SqL.of hd, by rw [List.length_map]; omega, fun p c hp hc => ?_⟩
        rw [List.length_map] at hc
        refine ⟨p, _, c, rfl, upd_same, by omega, .inl ⟨fun j hj => ?_, fun ws q nd hmem hlen hq => ?_⟩⟩
        · obtain ⟨t, _, e⟩ := List.mem_map.mp (inKeys_iff.mp hj)
          exact ⟨_, e.symm⟩
        have hws : ∀ x, x ∈ ws ↔ ∃ t ∈ allTests rs, t.1 = n ∧ t.2.2 = .str x := fun x => by
          rw [hmem, inKeys_iff, List.mem_map]
          constructor
          · rintro ⟨t, ht, e⟩
            obtain ⟨htm, htn⟩ := hft t ht
            obtain ⟨⟨y, hy, _⟩, _⟩ := tst_word kok (tok t htm) htn hm
            rw [hy] at e
            refine ⟨t, htm, htn, ?_⟩
            rw [hy, show y = x from Sum.inr.inj e]
          · rintro ⟨t, htm, htn, hx⟩
            exact ⟨t, mem_fTests.mpr ⟨htm, htn⟩, by rw [hx]; rfl⟩
        obtain ⟨s3, hq3⟩ := two_new (o2 := .lst (ws.map V.str)) s2 hp hq
        generalize upd (upd H2 p _) q (.lst (ws.map V.str)) = H3 at s3 hq3 ⊢
        refine ⟨100, rfl, by decide, by decide, fun D2 hD2 => ?_⟩
        refine lc_it (walk_range (lo := 0) (n := 100)) (fun i H' => Same H3 H' ∧ H' D2 = some (.lst (((List.range i).map wq).map V.str))) ⟨same_new hD2, upd_same⟩ (fun _ _ _ _ => trivial) ?_ ?_
        · rintro i z H4 H5 hi ⟨s4, hd4⟩ ⟨rfl, rfl⟩
          refine ⟨rfl, yesT (iteT ?_)⟩
          refine ⟨_, rfl, _, rfl, _, _, rfl, rfl, (show (26 : Int) ≠ 0 by decide), letters, _, _, rfl, rfl, (by decide), by rw [mod26]; exact letters_at i, _, rfl, _, _, rfl, rfl, ⟨by decide, by decide⟩, _, _, rfl, rfl, _, _, rfl, rfl, ?_⟩
          rw [div26]
          refine ⟨mulOk_one (by omega) (by omega), ?_⟩
          rw [mul_one_sign _ _ (by omega)]
          refine ⟨_, _, rfl, rfl, ?_, _, hd4, ?_, grow_same hD2 s4, ?_⟩
          · rw [reps_len, show ("q" : Str).length = 1 from rfl]
            have : 60 < sizeLine := by decide
            omega
          · rw [List.length_map, List.length_map, List.length_range]
            have : 200 < sizeLine := by decide
            omega
          · rw [upd_same, List.range_succ, List.map_append, List.map_append]
            rfl
        · rintro H4 ⟨s4, hd4⟩
          refine ⟨_, rfl, _, rfl, D2, rfl, ⟨_, SqL.of hd4⟩, fun D3 hD3 => ?_⟩
          have hq4 := s4 _ _ hq3
          refine lc_it (walk_list (xs := ((List.range 100).map wq).map V.str)) (fun i H' => Same H4 H' ∧ H' D3 = some (.lst ((((((List.range 100).map wq).take i)).filter fun x => !decide (x ∈ ws)).map V.str))) ⟨same_new hD3, upd_same⟩ (fun i H' _ p => SqL.of (p.1 _ _ hd4)) ?_ ?_
          · rintro i z H5 H6 hi ⟨s5, hd5⟩ ⟨rfl, hv5⟩
            obtain ⟨y, hy, rfl⟩ := at_strs hv5
            refine ⟨rfl, ?_⟩
            refine ⟨_, rfl, _, rfl, q, _, rfl, .inl (SqL.of (s5 _ _ hq4)), rfl, flat_strs _, _, rfl, ?_⟩
            rw [inV_strs]
            by_cases hyw : y ∈ ws
            · rw [decide_eq_true hyw]
              refine iteF ⟨s5, ?_⟩
              rw [hd5, take_succ_of hy, List.filter_append]
              simp [hyw]
            · rw [decide_eq_false hyw]
              refine iteT ⟨_, rfl, _, hd5, ?_, grow_same hD3 s5, ?_⟩
              · rw [List.length_map]
                have h1 := List.length_filter_le (fun x => !decide (x ∈ ws)) (((List.range 100).map wq).take i)
                have h3 : (((List.range 100).map wq).take i).length ≤ ((List.range 100).map wq).length := List.length_take_le' ..
                rw [List.length_map, List.length_range] at h3
                have : 200 < sizeLine := by decide
                omega
              · rw [upd_same, take_succ_of hy, List.filter_append, List.map_append]
                simp [hyw]
          · rintro H5 ⟨s5, hd5⟩
            rw [List.length_map, List.take_length] at hd5
            have hne : ∃ w0 rest, ((List.range 100).map wq).filter (fun x => !decide (x ∈ ws)) = w0 :: rest := by
              cases e : ((List.range 100).map wq).filter (fun x => !decide (x ∈ ws)) with
              | cons w0 rest => exact ⟨w0, rest, rfl⟩
              | nil =>
                have h1 := nodup_len ((List.range 100).map wq) ws wq_nodup fun x hx => by
                  have := List.filter_eq_nil_iff.mp e x hx
                  simpa using this
                rw [List.length_map, List.length_range] at h1
                omega
            obtain ⟨w0, rest, hw0⟩ := hne
            have hmem0 : w0 ∈ ((List.range 100).map wq).filter (fun x => !decide (x ∈ ws)) := by
              rw [hw0]
              exact List.mem_cons_self ..
            obtain ⟨hm1, hm2⟩ := List.mem_filter.mp hmem0
            have hout : w0 ∉ ws := by simpa using hm2
            obtain ⟨j, hj, rfl⟩ := List.mem_map.mp hm1
            have hok0 := wq_ok (List.mem_range.mp hj)
            rw [hw0] at hd5
            refine ⟨_, rfl, D3, _, rfl, SqL.of hd5, fun p2 hp2 => ?_⟩
            rw [cut_one]
            have hq5 := s5 _ _ hq4
            have pq : q ≠ p2 := ne_of_none hq5 hp2
            refine ⟨q, p2, ws.map V.str, _, rfl, rfl, by rw [upd_ne pq]; exact hq5, upd_same, ?_, fun d hd6 => ?_⟩
            · rw [List.length_map]
              have : 60 < sizeLine := by decide
              show ws.length + 1 ≤ _
              omega
            · have s6 := ((s3.trans s4).trans s5).trans (same_new (o := .lst ((((wq j) :: rest).map V.str).take 1)) hp2)
              have sH := (s1.trans s6).trans (same_new (o := .lst (ws.map V.str ++ (((wq j) :: rest).map V.str).take 1)) hd6)
              refine k d _ _ sH ((s1.trans s6).free hd6) upd_same (full_word kok tok hm (ws := ws) (w0 := wq j) (fun v => ?_) hws hout hok0) ?_
              · rw [List.mem_append, List.mem_map]
                constructor
                · rintro (⟨x, hx, rfl⟩ | h)
                  · exact ⟨x, rfl, .inl hx⟩
                  · refine ⟨wq j, ?_, .inr rfl⟩
                    simpa using h
                · rintro ⟨x, rfl, h | h⟩
                  · exact .inl ⟨x, h, rfl⟩
                  · refine .inr ?_
                    rw [h]
                    simp
              · rw [List.length_append, List.length_map]
                show ws.length + 1 ≤ _
                rw [← hlf]
                omega
    · obtain rfl : so = "number" := e
      refine iteF ?_
      refine ⟨(show 1 ≤ sizeLine by decide), fun f0 hf0 => ?_⟩
      have af : a ≠ f0 := ne_of_none hys hf0
      have s2 := same_new (o := .lst [.int 9999]) hf0
      refine ⟨_, rfl, a, rfl, ⟨_, SqL.of (s2 _ _ hys)⟩, ?_⟩
      refine for_it (walk_list (xs := ys)) (fun i σ H' => ∃ cq v8 v9 v10 v11 ns, σ = [some rv, some (.str n), some (.str "number"), some (.ref a), none, none, none, some (.ref cq), v8, v9, v10, v11, none, none] ∧ Same H1 H' ∧ H' cq = some (.lst (ns.map V.int)) ∧ ns.length = 2 * i + 1 ∧
        (∀ x ∈ ns, NumOk x) ∧ (9999 : Int) ∈ ns ∧ ∀ t ∈ (fTests (allTests rs) n).take i, ∀ x, NumOf n t x → x ∈ ns)
        ⟨f0, _, _, _, _, [9999], rfl, s2, upd_same, rfl, fun x hx => ?_, List.mem_singleton.mpr rfl, fun t ht => by simp at ht⟩ (fun i σ H' _ ⟨_, _, _, _, _, _, _, s, _⟩ => SqL.of (s _ _ hys)) ?_ ?_
      · rw [List.mem_singleton.mp hx]
        exact ⟨by decide, by decide⟩
      · rintro i z σ H2 H3 hi ⟨cq, v8, v9, v10, v11, ns, rfl, s2, hcq, hln, hok, h9, hall⟩ ⟨rfl, hv⟩
        obtain ⟨⟨m, op, va⟩, hf, b, rfl, hT⟩ := paired_at hY hv
        obtain ⟨htm, htn⟩ := hft _ (List.mem_of_getElem? hf)
        obtain ⟨⟨vi, hvi, hvn⟩, hop⟩ := tst_number kok (tok _ htm) htn hm
        obtain rfl : va = .int vi := hvi
        have hT2 := same_tup (s1.trans s2) hT
        have fin : ∀ ot : Int, NumOk ot → (∀ x, NumOf n (m, op, .int vi) x → x = vi ∨ x = ot) → ∀ b2, H3 b2 = none → ∀ p, (upd H3 b2 (.lst [V.int vi, V.int ot])) p = none →
            ∃ (cq : Addr) (v8 v9 v10 v11 : Option V) (ns' : List Int), ([some rv, some (.str n), some (.str "number"), some (.ref a), none, none, none, some (.ref p), some (.str m), some (.str op), some (.int vi), some (.int ot), none, none] : L2.St) = [some rv, some (.str n), some (.str "number"), some (.ref a), none, none, none, some (.ref cq), v8, v9, v10, v11, none, none] ∧
              Same H1 (upd (upd H3 b2 (.lst [V.int vi, V.int ot])) p (.lst (ns.map V.int ++ [V.int vi, V.int ot]))) ∧ (upd (upd H3 b2 (.lst [V.int vi, V.int ot])) p (.lst (ns.map V.int ++ [V.int vi, V.int ot]))) cq = some (.lst (ns'.map V.int)) ∧ ns'.length = 2 * (i + 1) + 1 ∧
              (∀ x ∈ ns', NumOk x) ∧ (9999 : Int) ∈ ns' ∧ ∀ t ∈ (fTests (allTests rs) n).take (i + 1), ∀ x, NumOf n t x → x ∈ ns' := fun ot hot hx b2 hb2 p hp => by
          refine ⟨p, _, _, _, _, ns ++ [vi, ot], rfl, (s2.trans (same_new hb2)).trans (same_new hp), by rw [upd_same, List.map_append]; rfl, by rw [List.length_append, hln]; simp; omega, fun x hx2 => ?_, List.mem_append_left _ h9, fun t ht x hx2 => ?_⟩
          · rcases List.mem_append.mp hx2 with h | h
            · exact hok x h
            · rcases List.mem_cons.mp h with h | h
              · rw [h]
                exact hvn
              · rw [List.mem_singleton.mp h]
                exact hot
          · rw [take_succ_of hf, List.mem_append, List.mem_singleton] at ht
            rcases ht with ht | rfl
            · exact List.mem_append_left _ (hall t ht x hx2)
            · refine List.mem_append_right _ ?_
              rcases hx x hx2 with h | h <;> rw [h] <;> simp
        have size2 : (ns.map V.int).length + 2 ≤ sizeLine := by
          rw [List.length_map, hln]
          have : 62 < sizeLine := by decide
          omega
        refine ⟨b, _, rfl, hT2, rfl, _, _, rfl, _, _, rfl, _, _, rfl, rfl, ?_⟩
        refine ⟨_, rfl, rfl, _, rfl, ?_⟩
        have hop : op = "most" ∨ op = "least" := hop
        rcases hop with rfl | rfl
        · refine iteT ⟨_, rfl, _, _, rfl, rfl, _, _, rfl, ?_⟩
          refine ⟨_, rfl, _, rfl, _, rfl, (show 2 ≤ sizeLine by decide), fun b2 hb2 => ⟨cq, b2, _, _, rfl, rfl, by rw [upd_ne (ne_of_none hcq hb2)]; exact hcq, upd_same, size2, fun p hp => ?_⟩⟩
          refine fin (if vi + 1 < 9999 then vi + 1 else 9999) ?_ ?_ b2 hb2 p hp
          · obtain ⟨h1, h2⟩ := hvn
            unfold NumOk
            split <;> omega
          · rintro x ⟨_, j, hj, ⟨_, h⟩ | ⟨h, _⟩⟩
            · rw [V.int.inj hj]
              exact .inl h
            · exact absurd (show ("most" : Str) = "least" from h) (by decide +kernel)
        · refine iteF ⟨_, rfl, _, rfl, _, _, rfl, rfl, _, _, rfl, ?_⟩
          refine ⟨_, rfl, _, rfl, _, rfl, (show 2 ≤ sizeLine by decide), fun b2 hb2 => ⟨cq, b2, _, _, rfl, rfl, by rw [upd_ne (ne_of_none hcq hb2)]; exact hcq, upd_same, size2, fun p hp => ?_⟩⟩
          refine fin (if vi - 1 > -9999 then vi - 1 else -9999) ?_ ?_ b2 hb2 p hp
          · obtain ⟨h1, h2⟩ := hvn
            unfold NumOk
            split <;> omega
          · rintro x ⟨_, j, hj, ⟨h, _⟩ | ⟨_, h1, h⟩⟩
            · exact absurd (show ("least" : Str) = "most" from h) (by decide +kernel)
            · have := V.int.inj hj
              subst this
              right
              rw [h]
              split <;> omega
      · rintro σ H2 ⟨cq, v8, v9, v10, v11, ns, rfl, s2, hcq, hln, hok, h9, hall⟩
        rw [hl, List.take_length] at hall
        rw [hl] at hln
        refine ⟨_, rfl, cq, ns.map Sum.inl, rfl, SqL.of (by rw [hcq, List.map_map]; rfl), by rw [List.length_map]; omega, fun p c hp hc => ?_⟩
        rw [List.length_map] at hc
        refine ⟨p, _, c, rfl, upd_same, by omega, .inr ⟨fun j hj => ?_, fun zs q nd hmem hlen hq => ?_⟩⟩
        · obtain ⟨x, _, e⟩ := List.mem_map.mp (inKeys_iff.mp hj)
          exact ⟨_, e.symm⟩
        have hzs : ∀ x, x ∈ zs ↔ x ∈ ns := fun x => by
          rw [hmem, inKeys_iff, List.mem_map]
          constructor
          · rintro ⟨y, hy, e⟩
            rw [← show y = x from Sum.inl.inj e]
            exact hy
          · intro h
            exact ⟨x, h, rfl⟩
        obtain ⟨s3, hq3⟩ := two_new (o2 := .lst (zs.map V.int)) s2 hp hq
        refine k q _ _ (s1.trans s3) ?_ hq3 (full_number kok tok hm (ns := zs) (fun v => ?_) (fun x hx => hok x ((hzs x).mp hx)) ((hzs _).mpr h9) fun t ht x hx => (hzs x).mpr (hall t (mem_fTests.mpr ⟨ht, hx.1⟩) x hx)) ?_
        · exact (s1.trans (s2.trans (same_new hp))).free hq
        · rw [List.mem_map]
          constructor
          · rintro ⟨x, hx, rfl⟩
            exact ⟨x, rfl, hx⟩
          · rintro ⟨x, rfl, hx⟩
            exact ⟨x, hx, rfl⟩
        · rw [List.length_map, ← hlf]
          omega
end
end K5
set_option Elab.async false
set_option linter.all false
set_option maxRecDepth 100000
set_option maxHeartbeats 2000000
namespace K5
open PySem PySem.Spec PyProof.Rows L2
abbrev N__law_grid : List Str := ["_law_fields", "_law_rules_here", "_law_found", "_law_name", "_law_sort", "_law_longer", "_law_value", "_law_case_here"]
abbrev P__law_grid : List Str := ["_law_fields", "_law_rules_here"]
theorem sc__law_grid : FnScope N__law_grid P__law_grid (defScope s__law_grid) := ⟨rfl, rfl, rfl, by decide +kernel, rfl, by decide +kernel, by decide +kernel⟩
def ext2 (cs : List Cse) (m : List V) : List Cse := m.flatMap fun v => cs.map fun c => c ++ [v]
theorem ext2_take {cs : List Cse} {m : List V} {j : Nat} {v : V} (h : m[j]? = some v) : ext2 cs (m.take (j + 1)) = ext2 cs (m.take j) ++ cs.map fun c => c ++ [v] := by
  rw [take_succ_of h, ext2, List.flatMap_append]
  simp [ext2]
theorem ext2_len (cs : List Cse) : ∀ m : List V, (ext2 cs m).length = m.length * cs.length
  | [] => by simp [ext2]
  | v :: m => by
    show ((cs.map fun c => c ++ [v]) ++ ext2 cs m).length = _
    rw [List.length_append, List.length_map, ext2_len cs m, List.length_cons, Nat.succ_mul]
    omega
theorem ext2_mem {cs : List Cse} {m : List V} {ms : List (List V)} (h : ∀ c, c ∈ cs ↔ Paired (fun v m => v ∈ m) c ms) (c : Cse) : c ∈ ext2 cs m ↔ Paired (fun v m => v ∈ m) c (ms ++ [m]) := by
  constructor
  · intro hc
    obtain ⟨v, hv, h2⟩ := List.mem_flatMap.mp hc
    obtain ⟨c0, hc0, rfl⟩ := List.mem_map.mp h2
    exact paired_app ((h c0).mp hc0) (.cons hv .nil)
  · intro hp
    have key : ∀ (ms : List (List V)) (c : Cse), Paired (fun v m => v ∈ m) c (ms ++ [m]) → ∃ c0 v, c = c0 ++ [v] ∧ Paired (fun v m => v ∈ m) c0 ms ∧ v ∈ m := by
      intro ms
      induction ms with
      | nil =>
        intro c hp
        cases hp with
        | cons r t =>
          cases t
          exact ⟨[], _, rfl, .nil, r⟩
      | cons m0 ms ih =>
        intro c hp
        cases hp with
        | cons r t =>
          obtain ⟨c0, v, rfl, h1, h2⟩ := ih _ t
          exact ⟨_ :: c0, v, rfl, .cons r h1, h2⟩
    obtain ⟨c0, v, rfl, h1, h2⟩ := key ms c hp
    exact List.mem_flatMap.mpr ⟨v, h2, List.mem_map.mpr ⟨c0, (h c0).mpr h1, rfl⟩⟩
def sp_law_grid (K : PySem.W.Frag) : Sp := fun vs H Q _ => ∃ fv k rv rs, vs = [fv, rv] ∧ LiA FiA K H fv k.fields ∧ KndOk k ∧ LiA RuA K H rv rs ∧ RulsOk k rs ∧ (allTests rs).length ≤ 24 ∧
  ∀ a zs cs ms B' H', Step H H B' H' → H a = none → B' a = none → H' a = some (.lst zs) → Paired (CaA K B') zs cs → Paired (FullMem (allTests rs)) ms k.fields → (∀ c, c ∈ cs ↔ Paired (fun v m => v ∈ m) c ms) → cs.length < sizeLine → Q (.ref a) H'
section
variable {P : Program} {w : World} {K : PySem.W.Frag} {mg : Str → Option Value} {base : Heap}
theorem ok_law_grid (T : Top K mg) (c__law_members : Cal P w K mg base CX0 2 "_law_members" (sp_law_members K)) : Cal P w K mg base CX0 3 "_law_grid" (sp_law_grid K) := by
  have nd := sc__law_grid.nd
  refine cal_of (ps := P__law_grid) T.d__law_grid (fun _ _ _ _ _ _ us hl => match us, hl with | [_, _], _ => rfl) sc__law_grid (fun vs H Q E h => ?_) (fun f cdv A outer s H vs Q E hr h => ?_)
  · obtain ⟨fv, k, rv, rs, rfl, _⟩ := h
    rfl
  · obtain ⟨fv, kn, rv, rs, rfl, ⟨lf, fxs, rfl, hF, hFP⟩, kok, hL, rok, h24, k⟩ := h
    refine ⟨_, (pss_cons (ps_set (i := 2) nd rfl (by first | exact Or.inl rfl | exact Or.inr rfl) (pe_lst (pa_cons (pe_tup pa_nil) pa_nil)))
    (pss_cons (ps_for PassesOwn.never rfl (pi_list (pv 0)) (pg_tup rfl (pgs_cons (pg_name (i := 3) nd rfl (by first | exact Or.inl rfl | exact Or.inr rfl)) (pgs_cons (pg_name (i := 4) nd rfl (by first | exact Or.inl rfl | exact Or.inr rfl)) pgs_nil))) (pss_cons (ps_set (i := 5) nd rfl (by first | exact Or.inl rfl | exact Or.inr rfl) (pe_lst pa_nil))
    (pss_cons (ps_for PassesOwn.never rfl (pi_list (pcal c__law_members hr (by decide) (by rfl) (pa_cons (pv 1) (pa_cons (pv 3) (pa_cons (pv 4) pa_nil))))) (pg_name (i := 6) nd rfl (by first | exact Or.inl rfl | exact Or.inr rfl)) (pss_one (ps_set (i := 5) nd rfl (by first | exact Or.inl rfl | exact Or.inr rfl) (pe_op op_cat (pv 5) (pe_lc (own := [("_law_case_here", 7)]) (g := (gName 7)) (tt := tYes) rfl nd (pi_list (pv 2)) (blkOk_by (own := [("_law_case_here", 7)]) (N := N__law_grid) (sc := defScope s__law_grid) (by decide +kernel)) (fun _ _ _ _ _ => (pg_name (i := 7) nd rfl (by first | exact Or.inl rfl | exact Or.inr rfl))) (fun _ _ _ _ _ => pts_nil) (fun _ _ _ _ _ => (pe_op (op_catAK (K := K)) (pv 7) (pe_tup (pa_cons (pv 6) pa_nil)))))))))
    (pss_one (ps_set (i := 2) nd rfl (by first | exact Or.inl rfl | exact Or.inr rfl) (pv 5))))))
    (pss_one (ps_ret (pv 2))))), ?_⟩
    have hl := hFP.length
    refine ⟨by decide, fun e0 he0 => ⟨(show 1 ≤ sizeLine by decide), fun c0 hc0 => ?_⟩⟩
    have a1 := Step.new (o := .tup []) (Same.refl H) he0
    have a2 := a1.trans (Step.tmp (o := .lst [.ref e0]) a1.bh hc0)
    have hce : c0 ≠ e0 := fun e => by rw [e, upd_same] at hc0; cases hc0
    have hc0H : H c0 = none := by rw [upd_ne hce] at hc0; exact hc0
    have nc0 : (upd H e0 (.tup [])) c0 = none := hc0
    refine ⟨_, rfl, lf, rfl, ⟨_, a2.hh.seq hF⟩, ?_⟩
    refine for_it (walk_list (xs := fxs)) (fun i σ H' => ∃ cq v3 v4 v5 v6 v7, σ = [some (.ref lf), some rv, some (.ref cq), v3, v4, v5, v6, v7] ∧ ∃ B' zs cs ms, Step H H B' H' ∧ H cq = none ∧ B' cq = none ∧ H' cq = some (.lst zs) ∧ Paired (CaA K B') zs cs ∧ cs.length ≤ 49 ^ i ∧
      Paired (FullMem (allTests rs)) ms (kn.fields.take i) ∧ ∀ c, c ∈ cs ↔ Paired (fun v m => v ∈ m) c ms)
      ⟨c0, _, _, _, _, _, rfl, _, _, [[]], [], a2, hc0H, nc0, upd_same, .cons ⟨e0, rfl, .inl (.inl upd_same)⟩ .nil, Nat.le_refl _, .nil, fun c => ?_⟩ (fun i σ H' _ ⟨_, _, _, _, _, _, _, _, _, _, _, st, _⟩ => st.hh.seq hF) ?_ ?_
    · rw [List.mem_singleton]
      constructor
      · rintro rfl
        exact .nil
      · intro h
        cases h
        rfl
    · rintro i z σ H2 H3 hi ⟨cq, v3, v4, v5, v6, v7, rfl, B2, zs, cs, ms, st, hcqH, hcqB, hzs, hZ, hcl, hM, hG⟩ ⟨rfl, hv0⟩
      obtain ⟨⟨n, so⟩, hf, a, rfl, hT⟩ := paired_at hFP hv0
      have hfm := List.mem_of_getElem? hf
      have hi4 : i ≤ 3 := by
        have := kok.fs.1
        omega
      have hcs4 : ∀ c ∈ cs, c.length ≤ 3 := fun c hc => by
        rw [((hG c).mp hc).length, hM.length, List.length_take]
        omega
      have hp3 : (49 : Nat) ^ i ≤ 49 ^ 3 := Nat.pow_le_pow_right (by decide) hi4
      refine ⟨a, _, rfl, same_tup st.hh hT, rfl, _, _, rfl, _, _, rfl, rfl, ?_⟩
      refine ⟨by decide, fun l0 hl0 => ?_⟩
      have s4 : Same H (upd H3 l0 (.lst [])) := st.hh.trans (same_new hl0)
      have l0H : H l0 = none := st.hh.free hl0
      have l0c : cq ≠ l0 := ne_of_none hzs hl0
      refine ⟨_, rfl, _, rfl, _, rfl, rv, kn, rs, n, so, rfl, LiA.mono RuA.mono _ _ _ _ _ s4 hL, kok, rok, hfm, h24, fun mq m H5 s5 hmq hml full hmlen => ?_⟩
      have hm49 : m.length ≤ 49 := by
        have := nTests_le (allTests rs) n
        omega
      have hl05 : H5 l0 = some (.lst []) := s5 _ _ upd_same
      have hzs5 : H5 cq = some (.lst zs) := s5 _ _ (by rw [upd_ne l0c]; exact hzs)
      have st5 : Step H H B2 H5 := (st.trans (Step.tmp (o := .lst []) st.bh hl0)).trans (Step.same (st.trans (Step.tmp (o := .lst []) st.bh hl0)).bh s5)
      refine ⟨mq, rfl, ⟨_, SqL.of hml⟩, ?_⟩
      refine for_it (walk_list (xs := m)) (fun j σ H' => ∃ lq v6 v7, σ = [some (.ref lf), some rv, some (.ref cq), some (.str n), some (.str so), some (.ref lq), v6, v7] ∧ ∃ B' ws, Step H H B' H' ∧ Same B2 B' ∧ H lq = none ∧ B' lq = none ∧ H' lq = some (.lst ws) ∧ Paired (CaA K B') ws (ext2 cs (m.take j)) ∧ H' cq = some (.lst zs) ∧ H' mq = some (.lst m))
        ⟨l0, _, _, rfl, B2, [], st5, Same.refl _, l0H, st.bh.free hl0, hl05, .nil, hzs5, hml⟩ (fun j σ H' _ ⟨_, _, _, _, _, _, _, _, _, _, _, _, _, h⟩ => SqL.of h) ?_ ?_
      · rintro j x σ H6 H7 hj ⟨lq, v6, v7, rfl, B6, ws, st6, s26, lqH, lqB, hws, hW, hzs6, hm6⟩ ⟨rfl, hvx⟩
        have hZ6 := paired_mono CaA.mono s26 hZ
        refine ⟨_, rfl, _, rfl, cq, rfl, ⟨_, SqL.of hzs6⟩, fun D hD => ?_⟩
        have nD6 := st6.bh.free hD
        refine lc_it (walk_list (xs := zs)) (fun l H' => ∃ B' ys, Step B6 H7 B' H' ∧ B' D = none ∧ H' D = some (.lst ys) ∧ Paired (CaA K B') ys ((cs.take l).map fun c => c ++ [x])) ⟨B6, [], Step.tmp st6.bh hD, nD6, upd_same, .nil⟩ (fun l H' _ ⟨_, _, st', _⟩ => SqL.of (st'.hh _ _ hzs6)) ?_ ?_
        · rintro l u H8 H9 hl8 ⟨B8, ys, st8, nD8, hys, hY⟩ ⟨rfl, hv8⟩
          obtain ⟨c, hcf, ua, rfl, hU⟩ := paired_at hZ6 hv8
          have hc3 := hcs4 c (List.mem_of_getElem? hcf)
          refine ⟨rfl, yesT (iteT ?_)⟩
          have hsm : ys.length < sizeLine := by
            rw [hY.length, List.length_map, List.length_take]
            have : (49 : Nat) ^ 3 < sizeLine := by decide +kernel
            omega
          have hU8 := same_tup (st8.bb.trans st8.bh) hU
          refine ⟨_, rfl, _, rfl, (show 1 ≤ sizeLine by decide), fun tp htp => ⟨ua, tp, c, [x], rfl, rfl, same_tup (same_new htp) hU8, .inl (.inl upd_same), ?_, fun hnil => ?_, fun _ h => ?_, fun _ _ p hp => ?_⟩⟩
          · have : 60 < sizeLine := by decide
            show c.length + 1 ≤ _
            omega
          · subst hnil
            have b1 := Step.new (o := .tup [x]) st8.bh htp
            have dt : D ≠ tp := ne_of_none hys htp
            have nd2 : upd B8 tp (.tup [x]) D = none := by rw [upd_ne dt]; exact nD8
            refine ⟨ys, by rw [upd_ne dt]; exact hys, hsm, _, _, (st8.trans b1).own hD nd2, nd2, upd_same, ?_⟩
            rw [take_succ_of hcf, List.map_append]
            exact paired_app (paired_mono CaA.mono b1.bb hY) (.cons ⟨tp, rfl, .inl (.inl upd_same)⟩ .nil)
          · cases h
          · have b1 := Step.tmp (o := .tup [x]) st8.bh htp
            have b2 := Step.new (o := .tup (c ++ [x])) b1.bh hp
            have dt : D ≠ tp := ne_of_none hys htp
            have hys2 : (upd H9 tp (.tup [x])) D = some (.lst ys) := by rw [upd_ne dt]; exact hys
            have dp : D ≠ p := ne_of_none hys2 hp
            have nd2 : upd B8 p (.tup (c ++ [x])) D = none := by rw [upd_ne dp]; exact nD8
            refine ⟨ys, by rw [upd_ne dp]; exact hys2, hsm, _, _, ((st8.trans b1).trans b2).own hD nd2, nd2, upd_same, ?_⟩
            rw [take_succ_of hcf, List.map_append]
            exact paired_app (paired_mono CaA.mono b2.bb hY) (.cons ⟨p, rfl, .inl (.inl upd_same)⟩ .nil)
        · rintro H8 ⟨B8, ys, st8, nD8, hys, hY⟩
          rw [hZ6.length, List.take_length] at hY
          have hws8 := st8.hh _ _ hws
          refine ⟨lq, D, ws, ys, rfl, rfl, hws8, hys, ?_, fun p hp => ?_⟩
          · rw [hW.length, hY.length, ext2_len, List.length_map, List.length_take]
            have h1 : min j m.length * cs.length ≤ 49 * 49 ^ 3 := Nat.mul_le_mul (by omega) (by omega)
            have : 49 * 49 ^ 3 + 49 ^ 3 < sizeLine := by decide +kernel
            omega
          · have st9 := st6.trans st8
            have st10 := st9.trans (Step.tmp (o := .lst (ws ++ ys)) st9.bh hp)
            refine ⟨p, _, _, rfl, B8, ws ++ ys, st10, s26.trans st8.bb, st9.hh.free hp, st9.bh.free hp, upd_same, ?_, ?_, ?_⟩
            · rw [ext2_take hvx]
              exact paired_app (paired_mono CaA.mono st8.bb hW) hY
            · have h := st8.hh _ _ hzs6
              rw [upd_ne (ne_of_none h hp)]
              exact h
            · have h := st8.hh _ _ hm6
              rw [upd_ne (ne_of_none h hp)]
              exact h
      · rintro σ H6 ⟨lq, v6, v7, rfl, B6, ws, st6, s26, lqH, lqB, hws, hW, hzs6, hm6⟩
        rw [List.take_length] at hW
        refine ⟨_, rfl, lq, _, _, _, _, _, rfl, B6, ws, ext2 cs m, ms ++ [m], st6, lqH, lqB, hws, hW, ?_, ?_, fun c => ext2_mem hG c⟩
        · rw [ext2_len, Nat.pow_succ, Nat.mul_comm]
          exact Nat.mul_le_mul hcl hm49
        · rw [take_succ_of hf]
          exact paired_app hM (.cons full .nil)
    · rintro σ H2 ⟨cq, v3, v4, v5, v6, v7, rfl, B2, zs, cs, ms, st, hcqH, hcqB, hzs, hZ, hcl, hM, hG⟩
      rw [hl, List.take_length] at hM
      refine ⟨_, rfl, k cq zs cs ms B2 H2 st hcqH hcqB hzs hZ hM hG ?_⟩
      have h1 : (49 : Nat) ^ fxs.length ≤ 49 ^ 4 := Nat.pow_le_pow_right (by decide) (by have := kok.fs.1; omega)
      have : (49 : Nat) ^ 4 < sizeLine := by decide +kernel
      omega
end
end K5
set_option Elab.async false
set_option linter.all false
set_option maxRecDepth 100000
set_option maxHeartbeats 2000000
namespace K5
open PySem PySem.Spec PyProof.Rows L2
def sp_law_may (K : PySem.W.Frag) : Sp := fun vs H Q _ => ∃ fv k rv rs, ∃ i : Nat, ∃ ca czs cs ms, vs = [fv, rv, .int i, .ref ca] ∧ LiA FiA K H fv k.fields ∧ KndOk k ∧ LiA RuA K H rv rs ∧ RulsOk k rs ∧ i + 3 ≤ rs.length ∧ SqL K H ca czs ∧ Paired (CaA K H) czs cs ∧
  Paired (FullMem (allTests rs)) ms k.fields ∧ (∀ c, c ∈ cs ↔ Paired (fun v m => v ∈ m) c ms) ∧ cs.length < sizeLine ∧ ∀ b H', Same H H' → (b = true ↔ Swp k.fields rs i) → Q (.bl b) H'
theorem cut_to (xs : List V) {i : Nat} (h : i ≤ xs.length) : cutV xs none (some (i : Int)) = xs.take i := by
  unfold cutV
  have e : HT.sIx xs.length xs.length (some (i : Int)) = min i xs.length := HT.sIx_nat xs.length xs.length i
  have e0 : HT.sIx xs.length 0 none = 0 := rfl
  rw [e, e0, List.drop_zero, Nat.sub_zero, Nat.min_eq_left h]
theorem cut_from (xs : List V) {i : Nat} (h : i ≤ xs.length) : cutV xs (some (i : Int)) none = xs.drop i := by
  unfold cutV
  have e : HT.sIx xs.length 0 (some (i : Int)) = min i xs.length := HT.sIx_nat xs.length 0 i
  have e0 : HT.sIx xs.length xs.length none = xs.length := rfl
  rw [e, e0, Nat.min_eq_left h]
  apply List.take_of_length_le
  rw [List.length_drop]
  exact Nat.le_refl _
theorem paired_take {α β : Type} {F : α → β → Prop} : ∀ {xs : List α} {l : List β} (i : Nat), Paired F xs l → Paired F (xs.take i) (l.take i)
  | _, _, 0, _ => by simp; exact .nil
  | _, _, i + 1, .nil => by simp; exact .nil
  | _, _, i + 1, .cons r t => .cons r (paired_take i t)
theorem paired_drop {α β : Type} {F : α → β → Prop} : ∀ {xs : List α} {l : List β} (i : Nat), Paired F xs l → Paired F (xs.drop i) (l.drop i)
  | _, _, 0, h => h
  | _, _, i + 1, .nil => .nil
  | _, _, i + 1, .cons r t => paired_drop i t
theorem case_sc {fs : Flds} {c : Cse} (h : CaseOk fs c) : ∀ x ∈ c, ScOk x := fun x hx => by
  obtain ⟨i, hi⟩ := List.getElem?_of_mem hx
  have hl : i < fs.length := by
    rw [← h.len]
    exact (List.getElem?_eq_some_iff.mp hi).1
  exact val_sc (h.ok i fs[i] x (List.getElem?_eq_getElem hl) hi)
section
variable {P : Program} {w : World} {K : PySem.W.Frag} {mg : Str → Option Value} {base : Heap}
theorem ok_law_may (T : Top K mg) (c__law_answer : Cal P w K mg base CX0 4 "_law_answer" (sp_law_answer K)) : Cal P w K mg base CX0 5 "_law_may" (sp_law_may K) := by
  have nd := sc__law_may.nd
  refine cal_of (ps := P__law_may) T.d__law_may (fun _ _ _ _ _ _ us hl => match us, hl with | [_, _, _, _], _ => rfl) sc__law_may (fun vs H Q E h => ?_) (fun f cdv A outer s H vs Q E hr h => ?_)
  · obtain ⟨fv, k, rv, rs, i, ca, czs, cs, ms, rfl, _⟩ := h
    rfl
  · obtain ⟨fv, kn, rv, rs, i, ca, czs, cs, ms, rfl, hF, kok, ⟨la, xs, rfl, hL, hP⟩, rok, hi, hca, hC, hM, hG, hcl, k⟩ := h
    refine ⟨_, (pss_cons (ps_set (i := 4) nd rfl (by first | exact Or.inl rfl | exact Or.inr rfl) (pe_op op_cat (pe_op op_cat (pe_slice sl_list (pv 1) po_none (po_some (pv 2))) (pe_lst (pa_cons (pe_ix ix_list (pv 1) (pe_op op_add (pv 2) pe_int) (fun _ _ => rfl)) (pa_cons (pe_ix ix_list (pv 1) (pv 2) (fun _ _ => rfl)) pa_nil)))) (pe_slice sl_list (pv 1) (po_some (pe_op op_add (pv 2) pe_int)) po_none)))
    (pss_cons (ps_setLc (i := 5) (own := [("_law_case_here", 6)]) (g := (gName 6)) rfl nd rfl rfl (sw_true rfl rfl rfl (by decide +kernel)) (pi_list (pv 3)) (blkOk_by (own := [("_law_case_here", 6)]) (N := N__law_may) (sc := defScope s__law_may) (by decide +kernel)) (fun _ _ _ _ _ => (pg_name (i := 6) nd rfl (by first | exact Or.inl rfl | exact Or.inr rfl))) (fun _ _ _ _ _ => (pts_one (pt_cmpR op_ne (pcal c__law_answer hr (by decide) (by rfl) (pa_cons (pv 0) (pa_cons (pv 1) (pa_cons (pv 6) pa_nil)))) (pcal c__law_answer hr (by decide) (by rfl) (pa_cons (pv 0) (pa_cons (pv 4) (pa_cons (pv 6) pa_nil)))) (nomark _)))) (fun _ _ _ _ _ => (pv 6)))
    (pss_one (ps_ret (pe_cmpR (op_eqD (roomE hr)) (pv 5) (pe_lst pa_nil) (nomark _)))))), ?_⟩
    have hl := hP.length
    have h24 := rok.len
    have h62 : 62 < sizeLine := by decide
    have hi1 : i < xs.length := by omega
    have hi2 : i + 1 < xs.length := by omega
    have e1 : xs[i]? = some xs[i] := List.getElem?_eq_getElem hi1
    have e2 : xs[i + 1]? = some xs[i + 1] := List.getElem?_eq_getElem hi2
    refine ⟨_, rfl, _, rfl, _, rfl, la, xs, rfl, hL, fun p1 hp1 => ?_⟩
    rw [cut_to xs (by omega)]
    have s1 := same_new (o := .lst (xs.take i)) hp1
    refine ⟨_, rfl, _, rfl, _, _, rfl, rfl, la, xs, _, _, rfl, rfl, s1.seq hL, atI_nat (j := i + 1) e2, _, rfl, _, rfl, la, xs, _, _, rfl, rfl, s1.seq hL, atI_nat e1, (show 2 ≤ sizeLine by decide), fun p2 hp2 => ?_⟩
    have s2 := s1.trans (same_new (o := .lst [xs[i + 1], xs[i]]) hp2)
    have n12 : p1 ≠ p2 := ne_of_none upd_same hp2
    refine ⟨p1, p2, _, _, rfl, rfl, by rw [upd_ne n12]; exact upd_same, upd_same, ?_, fun p3 hp3 => ?_⟩
    · rw [List.length_take]
      show _ + 2 ≤ _
      omega
    have s3 := s2.trans (same_new (o := .lst (xs.take i ++ [xs[i + 1], xs[i]])) hp3)
    refine ⟨_, rfl, _, rfl, _, _, rfl, rfl, _, rfl, la, xs, rfl, s3.seq hL, fun p4 hp4 => ?_⟩
    rw [show ((i : Int) + 2) = ((i + 2 : Nat) : Int) by omega, cut_from xs (by omega)]
    have s4 := s3.trans (same_new (o := .lst (xs.drop (i + 2))) hp4)
    have n34 : p3 ≠ p4 := ne_of_none upd_same hp4
    refine ⟨p3, p4, _, _, rfl, rfl, by rw [upd_ne n34]; exact upd_same, upd_same, ?_, fun p5 hp5 => ?_⟩
    · rw [List.length_append, List.length_take, List.length_drop]
      show _ + 2 + _ ≤ _
      omega
    have s5 := s4.trans (same_new (o := .lst (xs.take i ++ [xs[i + 1], xs[i]] ++ xs.drop (i + 2))) hp5)
    have hp5' : (upd (upd (upd (upd (upd H p1 (.lst (xs.take i))) p2 (.lst [xs[i + 1], xs[i]])) p3 (.lst (xs.take i ++ [xs[i + 1], xs[i]]))) p4 (.lst (xs.drop (i + 2)))) p5 (.lst (xs.take i ++ [xs[i + 1], xs[i]] ++ xs.drop (i + 2)))) p5 = some (.lst (xs.take i ++ [xs[i + 1], xs[i]] ++ xs.drop (i + 2))) := upd_same
    generalize (upd (upd (upd (upd (upd H p1 (.lst (xs.take i))) p2 (.lst [xs[i + 1], xs[i]])) p3 (.lst (xs.take i ++ [xs[i + 1], xs[i]]))) p4 (.lst (xs.drop (i + 2)))) p5 (.lst (xs.take i ++ [xs[i + 1], xs[i]] ++ xs.drop (i + 2)))) = H5 at s5 hp5' ⊢
    have hPo : Paired (RuA K H) (xs.take i ++ [xs[i + 1], xs[i]] ++ xs.drop (i + 2)) (swp rs i) := by
      obtain ⟨ra, rb, ea, eb, _, esw⟩ := swp_split (rs := rs) (i := i) (by omega)
      obtain ⟨ra', ea', fa⟩ := paired_at hP e1
      obtain ⟨rb', eb', fb⟩ := paired_at hP e2
      rw [ea] at ea'
      rw [eb] at eb'
      obtain rfl := Option.some.inj ea'
      obtain rfl := Option.some.inj eb'
      rw [esw, List.append_assoc]
      exact paired_app (paired_take i hP) (.cons fb (.cons fa (paired_drop (i + 2) hP)))
    have okO := swp_ok hi rok
    have hcase : ∀ c ∈ cs, CaseOk kn.fields c := fun c hc => grid_ok hM ((grd_mem ms c).mpr ((hG c).mp hc))
    refine ⟨_, rfl, ca, rfl, ⟨_, s5.seq hca⟩, fun D hD => ?_⟩
    refine lc_it (walk_list (xs := czs)) (fun j H' => Same H5 H' ∧ ∃ zs, H' D = some (.lst zs) ∧ Paired (CaA K H) zs ((cs.take j).filter fun c => !decide (answ kn.fields c rs = answ kn.fields c (swp rs i)))) ⟨same_new hD, [], upd_same, .nil⟩ (fun j H' _ p => (s5.trans p.1).seq hca) ?_ ?_
    · rintro j z H6 H7 hj ⟨s6, zs, hzs, hZ⟩ ⟨rfl, hv⟩
      obtain ⟨c, hcf, hcA⟩ := paired_at hC hv
      have hcm := List.mem_of_getElem? hcf
      have s06 := s5.trans s6
      refine ⟨rfl, ?_⟩
      refine ⟨_, rfl, _, rfl, _, rfl, fv, kn, _, rs, z, c, rfl, LiA.mono FiA.mono _ _ _ _ _ s06 hF, kok, ⟨la, xs, rfl, s06.seq hL, paired_mono RuA.mono s06 hP⟩, rok, CaA.mono _ _ _ _ _ s06 hcA, hcase c hcm, fun H8 s8 => ?_⟩
      have s08 := s06.trans s8
      refine ⟨_, rfl, _, rfl, _, rfl, fv, kn, _, swp rs i, z, c, rfl, LiA.mono FiA.mono _ _ _ _ _ s08 hF, kok, ⟨p5, _, rfl, SqL.of ((s6.trans s8) _ _ hp5'), paired_mono RuA.mono s08 hPo⟩, okO, CaA.mono _ _ _ _ _ s08 hcA, hcase c hcm, fun H9 s9 => ?_⟩
      refine ⟨rfl, _, rfl, ?_⟩
      have s59 := (s6.trans s8).trans s9
      have hzs9 := (s8.trans s9) _ _ hzs
      by_cases e : answ kn.fields c rs = answ kn.fields c (swp rs i)
      · rw [show (!decide (V.str (answ kn.fields c rs) = V.str (answ kn.fields c (swp rs i)))) = false by simp [e]]
        refine iteF ⟨s59, zs, hzs9, ?_⟩
        rw [take_succ_of hcf, List.filter_append]
        simpa [e] using hZ
      · rw [show (!decide (V.str (answ kn.fields c rs) = V.str (answ kn.fields c (swp rs i)))) = true by simp [e]]
        refine iteT ⟨_, rfl, zs, hzs9, ?_, grow_same hD s59, _, upd_same, ?_⟩
        · rw [hZ.length]
          have h1 := List.length_filter_le (fun c => !decide (answ kn.fields c rs = answ kn.fields c (swp rs i))) (cs.take j)
          have h2 : (cs.take j).length ≤ cs.length := List.length_take_le' ..
          omega
        · rw [take_succ_of hcf, List.filter_append]
          refine paired_app hZ ?_
          rw [List.filter_cons, if_pos (by simp [e])]
          exact .cons hcA .nil
    · rintro H6 ⟨s6, zs, hzs, hZ⟩
      rw [hC.length, List.take_length] at hZ
      refine ⟨_, rfl, by decide, fun D2 hD2 => ?_⟩
      have dd : D ≠ D2 := ne_of_none hzs hD2
      have s7 := s6.trans (same_new (o := .lst []) hD2)
      have ok2 : ∀ c ∈ cs.filter (fun c => !decide (answ kn.fields c rs = answ kn.fields c (swp rs i))), ∀ x ∈ c, ScOk x := fun c hc => case_sc (hcase c (List.mem_filter.mp hc).1)
      refine ⟨_, .list [], .lst (SqL.of (by rw [upd_ne dd]; exact hzs)) (dp_cases (paired_mono CaA.mono (s5.trans s7) hZ) ok2), .lst (SqL.of upd_same) .nil, shaped_list (n := 1) (fun c h => lay_case (ok2 c h)) (fun c _ => dep_case c) (by decide), by decide +kernel, ?_⟩
      rw [eqv_nil]
      refine k _ _ (s5.trans s7) ?_
      rw [List.isEmpty_map, List.isEmpty_iff, List.filter_eq_nil_iff, ← grid_swp kok rok (by omega) hM]
      constructor
      · intro z c hc
        have := z c ((hG c).mpr ((grd_mem ms c).mp hc))
        simpa using this
      · intro z c hc
        have := z c ((grd_mem ms c).mpr ((hG c).mp hc))
        simpa using this
end
end K5
set_option Elab.async false
set_option linter.all false
set_option maxRecDepth 100000
set_option maxHeartbeats 2000000
/-! The box: a list of three ints that changes; what else is kept. -/
namespace K5
open PySem PySem.Spec PyProof.Rows L2
def Box (x : Addr) (H : Hp) : Prop := ∃ a b c : Int, H x = some (.lst [.int a, .int b, .int c])
structure Stb (x : Addr) (B H B' H' : Hp) : Prop where
  s0 : Same B H
  hh : ∀ b o, b ≠ x → H b = some o → H' b = some o
  box : Box x H'
  bb : Same B B'
  bh : Same B' H'
  fr : ∀ b o, H b = some o → B' b = B b
section
variable {x : Addr} {B H B' H' B2 H2 : Hp}
theorem Box.some (h : Box x H) : ∃ o, H x = some o := by
  obtain ⟨a, b, c, e⟩ := h
  exact ⟨_, e⟩
theorem Stb.refl (s : Same B H) (h : Box x H) : Stb x B H B H := ⟨s, fun _ _ _ e => e, h, Same.refl _, s, fun _ _ _ => rfl⟩
theorem Stb.trans (p : Box x H) (a : Stb x B H B' H') (b : Stb x B' H' B2 H2) : Stb x B H B2 H2 := by
  refine ⟨a.s0, fun c o n e => b.hh c o n (a.hh c o n e), b.box, a.bb.trans b.bb, b.bh, fun c o e => ?_⟩
  by_cases n : c = x
  · subst n
    obtain ⟨o', e'⟩ := a.box.some
    exact (b.fr c o' e').trans (a.fr c o e)
  · exact (b.fr c o (a.hh c o n e)).trans (a.fr c o e)
/-- a step that leaves the box -/
theorem Stb.of (h : Box x H) (a : Step B H B' H') : Stb x B H B' H' := by
  obtain ⟨p, q, r, e⟩ := h
  exact ⟨a.s0, fun b o _ e => a.hh b o e, ⟨p, q, r, a.hh _ _ e⟩, a.bb, a.bh, a.fr⟩
/-- the box is written -/
theorem Stb.put {a b c : Int} (s : Same B H) (n : B x = none) : Stb x B H B (upd H x (.lst [.int a, .int b, .int c])) :=
  ⟨s, fun p o h e => by rw [upd_ne h]; exact e, ⟨a, b, c, upd_same⟩, Same.refl _, fun p o e => by rw [upd_ne (ne_of_none e n)]; exact s p o e, fun _ _ _ => rfl⟩
theorem Stb.own {D : Addr} {o : HO} (h : Box x H) (a : Stb x B H B' H') (hD : H D = none) (hB : B' D = none) : Stb x B H B' (upd H' D o) := by
  have ne : x ≠ D := by
    obtain ⟨o', e⟩ := h.some
    exact ne_of_none e hD
  obtain ⟨p, q, r, e⟩ := a.box
  exact ⟨a.s0, fun b u n e => by rw [upd_ne (ne_of_none e hD)]; exact a.hh b u n e, ⟨p, q, r, by rw [upd_ne ne]; exact e⟩, a.bb, fun b u e => by rw [upd_ne (ne_of_none e hB)]; exact a.bh b u e, a.fr⟩
theorem Stb.frz {p : Addr} {o : HO} (h : Box x H) (a : Stb x B H B' H') (hp : H p = none) (e : H' p = some o) : Stb x B H (upd B' p o) H' := by
  refine ⟨a.s0, a.hh, a.box, fun b u z => ?_, fun b u z => ?_, fun b u z => ?_⟩
  · rw [upd_ne (ne_of_none (a.s0 b u z) hp)]
    exact a.bb b u z
  · by_cases hb : b = p
    · subst hb
      rw [upd_same] at z
      cases z
      exact e
    · rw [upd_ne hb] at z
      exact a.bh b u z
  · rw [upd_ne (ne_of_none z hp)]
    exact a.fr b u z
theorem Stb.nx (h : Box x H) (a : Stb x B H B' H') (n : B x = none) : B' x = none := by
  obtain ⟨o, e⟩ := h.some
  exact (a.fr x o e).trans n
/-- what was not there at the start -/
theorem Stb.free (a : Stb x B H B' H') (h : Box x H) {p : Addr} (n : H' p = none) : H p = none := by
  cases e : H p with
  | none => rfl
  | some o =>
    by_cases z : p = x
    · subst z
      obtain ⟨o', e'⟩ := a.box.some
      rw [n] at e'
      cases e'
    · rw [a.hh p o z e] at n
      cases n
end
theorem upd_upd {H : Hp} {x : Addr} {o o2 : HO} : upd (upd H x o) x o2 = upd H x o2 := by
  funext b
  by_cases h : b = x
  · rw [h, upd_same, upd_same]
  · rw [upd_ne h, upd_ne h, upd_ne h]
end K5
set_option Elab.async false
set_option linter.all false
set_option maxRecDepth 100000
set_option maxHeartbeats 2000000
namespace K5
open PySem PySem.Spec PyProof.Rows L2
abbrev N__law_cell : List Str := ["_law_script", "_law_k"]
abbrev P__law_cell : List Str := ["_law_script", "_law_k"]
theorem sc__law_cell : FnScope N__law_cell P__law_cell (defScope s__law_cell) := ⟨rfl, rfl, rfl, by decide +kernel, rfl, by decide +kernel, by decide +kernel⟩
abbrev N__law_box : List Str := ["_law_cell_here"]
abbrev P__law_box : List Str := ["_law_cell_here"]
theorem sc__law_box : FnScope N__law_box P__law_box (defScope s__law_box) := ⟨rfl, rfl, rfl, by decide +kernel, rfl, by decide +kernel, by decide +kernel⟩
abbrev N__law_take : List Str := ["_law_box_here", "_law_size", "_law_digit", "_law_mixed"]
abbrev P__law_take : List Str := ["_law_box_here", "_law_size"]
theorem sc__law_take : FnScope N__law_take P__law_take (defScope s__law_take) := ⟨rfl, rfl, rfl, by decide +kernel, rfl, by decide +kernel, by decide +kernel⟩
def sp_cell (K : PySem.W.Frag) : Sp := fun vs H Q _ => ∃ a, ∃ ns : List Int, ∃ k : Nat, vs = [.ref a, .int k] ∧ SqL K H a (ns.map V.int) ∧ ∀ z : Int, Q (.int z) H
def sp_box : Sp := fun vs H Q _ => ∃ z : Int, vs = [.int z] ∧ ∀ q a b c, H q = none → Q (.ref q) (upd H q (.lst [.int a, .int b, .int c]))
def sp_take : Sp := fun vs H Q _ => ∃ x n, vs = [.ref x, .int n] ∧ 1 ≤ n ∧ n ≤ 1000000 ∧ Box x H ∧ ∀ (d a b c : Int), 0 ≤ d → d < n → Q (.int d) (upd H x (.lst [.int a, .int b, .int c]))
section
variable {P : Program} {w : World} {K : PySem.W.Frag} {mg : Str → Option Value} {base : Heap}
theorem ok_cell (T : Top K mg) : Cal P w K mg base CX0 1 "_law_cell" (sp_cell K) := by
  have nd := sc__law_cell.nd
  refine cal_of (ps := P__law_cell) T.d__law_cell (fun _ _ _ _ _ _ us hl => match us, hl with | [_, _], _ => rfl) sc__law_cell (fun vs H Q E h => ?_) (fun f cdv A outer s H vs Q E hr h => ?_)
  · obtain ⟨a, ns, k, rfl, _⟩ := h
    rfl
  · obtain ⟨a, ns, kk, rfl, hS, k⟩ := h
    refine ⟨_, (pss_cons (ps_if (pt_cmpR op_lt (pv 1) (pe_callB call_len_seq (by rfl) T.f_len (by decide +kernel) (pa_cons (pv 0) pa_nil)) (nomark _)) (pss_one (ps_ret (pe_ix ix_list (pv 0) (pv 1) (fun _ _ => rfl)))) pss_nil)
    (pss_one (ps_ret (pe_op op_add (pe_op op_mul pe_int (pv 1)) pe_int)))), ?_⟩
    refine ⟨_, rfl, _, rfl, a, _, rfl, .inl hS, _, _, rfl, rfl, _, rfl, ?_⟩
    by_cases h : (kk : Int) < ((ns.map V.int).length : Int)
    · rw [decide_eq_true h]
      rw [List.length_map] at h
      have hk : kk < ns.length := by omega
      exact iteT ⟨_, rfl, _, rfl, a, _, _, _, rfl, rfl, hS, atI_nat (v := .int ns[kk]) (by rw [List.getElem?_map, List.getElem?_eq_getElem hk]; rfl), k _⟩
    · rw [decide_eq_false h]
      exact iteF ⟨_, rfl, _, _, rfl, rfl, .inl ⟨by decide, by decide⟩, _, _, rfl, rfl, k _⟩
theorem ok_box (T : Top K mg) : Cal P w K mg base CX0 1 "_law_box" sp_box := by
  have nd := sc__law_box.nd
  refine cal_of (ps := P__law_box) T.d__law_box (fun _ _ _ _ _ _ us hl => match us, hl with | [_], _ => rfl) sc__law_box (fun vs H Q E h => ?_) (fun f cdv A outer s H vs Q E hr h => ?_)
  · obtain ⟨z, rfl, _⟩ := h
    rfl
  · obtain ⟨z, rfl, k⟩ := h
    refine ⟨_, (pss_one (ps_ret (pe_lst (pa_cons (pe_callB (call_max2 rfl) (by rfl) T.f_max (by decide +kernel) (pa_cons pe_int (pa_cons (pe_op op_sub (pv 0) (pe_op op_pow pe_int pe_int)) pa_nil))) (pa_cons (pe_op op_modN (pe_callTy call_int1 (by rfl) T.f_int (by decide +kernel) (pa_cons (pv 0) pa_nil)) pe_int) (pa_cons pe_int pa_nil)))))), ?_⟩
    exact ⟨_, rfl, _, _, rfl, rfl, ⟨by decide, by decide, by decide⟩, _, _, rfl, rfl, _, _, rfl, _, rfl, .inl ⟨_, rfl, _, _, rfl, rfl, (show (2147483629 : Int) ≠ 0 by decide), (show 3 ≤ sizeLine by decide), fun q hq => k q _ _ _ hq⟩⟩
theorem ok_take (T : Top K mg) : Cal P w K mg base CX0 1 "_law_take" sp_take := by
  have nd := sc__law_take.nd
  refine cal_of (ps := P__law_take) T.d__law_take (fun _ _ _ _ _ _ us hl => match us, hl with | [_, _], _ => rfl) sc__law_take (fun vs H Q E h => ?_) (fun f cdv A outer s H vs Q E hr h => ?_)
  · obtain ⟨x, n, rfl, _⟩ := h
    rfl
  · obtain ⟨x, n, rfl, h1, h2, ⟨a, b, c, hx⟩, k⟩ := h
    refine ⟨_, (pss_cons (ps_if (pt_cmpR op_gt (pe_ix ix_list (pv 0) pe_int (fun _ _ => rfl)) pe_int (nomark _)) (pss_cons (ps_set (i := 2) nd rfl (by first | exact Or.inl rfl | exact Or.inr rfl) (pe_op op_modN (pe_callTy call_int1 (by rfl) T.f_int (by decide +kernel) (pa_cons (pe_ix ix_list (pv 0) pe_int (fun _ _ => rfl)) pa_nil)) (pv 1)))
    (pss_cons (ps_asg (pe_op op_fdivN (pe_ix ix_list (pv 0) pe_int (fun _ _ => rfl)) (pv 1)) (pg_sub (pv 0) pe_int set_list))
    (pss_one (ps_ret (pv 2))))) pss_nil)
    (pss_cons (ps_asg (pe_op op_add (pe_ix ix_list (pv 0) pe_int (fun _ _ => rfl)) pe_int) (pg_sub (pv 0) pe_int set_list))
    (pss_cons (ps_set (i := 3) nd rfl (by first | exact Or.inl rfl | exact Or.inr rfl) (pe_op op_modN (pe_callTy call_int1 (by rfl) T.f_int (by decide +kernel) (pa_cons (pe_op op_add (pe_op op_add (pe_op op_mul (pe_ix ix_list (pv 0) pe_int (fun _ _ => rfl)) pe_int) (pe_op op_mul pe_int (pe_ix ix_list (pv 0) pe_int (fun _ _ => rfl)))) pe_int) pa_nil)) pe_int))
    (pss_cons (ps_asg (pe_op op_modN (pe_callTy call_int1 (by rfl) T.f_int (by decide +kernel) (pa_cons (pe_op op_add (pe_op op_pow (pv 3) pe_int) (pe_op op_mul pe_int (pe_ix ix_list (pv 0) pe_int (fun _ _ => rfl)))) pa_nil)) pe_int) (pg_sub (pv 0) pe_int set_list))
    (pss_one (ps_ret (pe_op op_modN (pe_callTy call_int1 (by rfl) T.f_int (by decide +kernel) (pa_cons (pe_op op_fdivN (pe_ix ix_list (pv 0) pe_int (fun _ _ => rfl)) pe_int) pa_nil)) (pv 1)))))))), ?_⟩
    have hn : n ≠ 0 := by omega
    have hd : n ≠ 0 ∧ n.natAbs < 1073741824 := ⟨hn, by omega⟩
    have hm : ∀ y : Int, 0 ≤ y.fmod n ∧ y.fmod n < n := fun y => by
      rw [Int.fmod_eq_emod_of_nonneg y (by omega)]
      exact ⟨Int.emod_nonneg y hn, Int.emod_lt_of_pos y (by omega)⟩
    refine ⟨_, rfl, x, _, _, _, rfl, rfl, SqL.of hx, atI_nat (j := 0) rfl, _, _, rfl, rfl, _, rfl, ?_⟩
    by_cases h : 0 < a
    · rw [decide_eq_true h]
      refine iteT ⟨_, rfl, x, _, _, _, rfl, rfl, SqL.of hx, atI_nat (j := 0) rfl, .inl ⟨_, rfl, _, rfl, _, _, rfl, rfl, hn, ?_⟩⟩
      refine ⟨_, rfl, x, _, _, _, rfl, rfl, SqL.of hx, atI_nat (j := 0) rfl, _, rfl, _, _, rfl, rfl, hd, _, rfl, x, _, _, 0, rfl, rfl, hx, rfl, ?_⟩
      exact ⟨_, rfl, k _ _ _ _ (hm a).1 (hm a).2⟩
    · rw [decide_eq_false h]
      refine iteF ?_
      refine ⟨_, rfl, x, _, _, _, rfl, rfl, SqL.of hx, atI_nat (j := 2) rfl, _, _, rfl, rfl, _, rfl, x, _, _, 2, rfl, rfl, hx, rfl, ?_⟩
      have hx2 : (upd H x (.lst [.int a, .int b, .int (c + 1)])) x = some (.lst [.int a, .int b, .int (c + 1)]) := upd_same
      refine ⟨_, rfl, x, _, _, _, rfl, rfl, SqL.of hx2, atI_nat (j := 1) rfl, _, _, rfl, rfl, .inr ⟨by decide, by decide⟩, _, rfl, x, _, _, _, rfl, rfl, SqL.of hx2, atI_nat (j := 2) rfl, _, _, rfl, rfl, .inl ⟨by decide, by decide⟩, _, _, rfl, rfl, _, _, rfl, rfl, .inl ⟨_, rfl, _, _, rfl, rfl, (show (2147483647 : Int) ≠ 0 by decide), ?_⟩⟩
      have hmx : ((b * 48271 + 69621 * (c + 1) + 156).fmod 2147483647).natAbs < 2 ^ 64 := by
        rw [Int.fmod_eq_emod_of_nonneg _ (by decide)]
        have h1 := Int.emod_nonneg (b * 48271 + 69621 * (c + 1) + 156) (show (2147483647 : Int) ≠ 0 by decide)
        have h2 := Int.emod_lt_of_pos (b * 48271 + 69621 * (c + 1) + 156) (show (0 : Int) < 2147483647 by decide)
        omega
      refine ⟨_, rfl, _, _, rfl, rfl, ⟨by decide, by decide, hmx⟩, _, rfl, x, _, _, _, rfl, rfl, SqL.of hx2, atI_nat (j := 2) rfl, _, _, rfl, rfl, .inl ⟨by decide, by decide⟩, _, _, rfl, rfl, .inl ⟨_, rfl, _, _, rfl, rfl, (show (2147483647 : Int) ≠ 0 by decide), _, rfl, x, _, _, 1, rfl, rfl, hx2, rfl, ?_⟩⟩
      rw [upd_upd]
      refine ⟨_, rfl, x, _, _, _, rfl, rfl, SqL.of upd_same, atI_nat (j := 1) rfl, _, _, rfl, rfl, ⟨by decide, by decide⟩, .inl ⟨_, rfl, _, rfl, _, _, rfl, rfl, hn, ?_⟩⟩
      exact k _ _ _ _ (hm _).1 (hm _).2
end
end K5
set_option Elab.async false
set_option linter.all false
set_option maxRecDepth 100000
set_option maxHeartbeats 2000000
/-! The words that the law makes, in plain. -/
namespace K5
open PySem PySem.Spec PyProof.Rows L2
def lc (i : Nat) : Nat := letters.cps.toList.getD (i % 26) 97
theorem lc_mem (i : Nat) : lc i ∈ letters.cps.toList := ltr_mem i
theorem lc_inj {i j : Nat} (h : lc i = lc j) : i % 26 = j % 26 := by
  have key : ∀ a b : Fin 26, letters.cps.toList.getD a.1 97 = letters.cps.toList.getD b.1 97 → a = b := by decide +kernel
  exact congrArg Fin.val (key ⟨i % 26, Nat.mod_lt _ (by decide)⟩ ⟨j % 26, Nat.mod_lt _ (by decide)⟩ h)
theorem nodup_range {f : Nat → Str} {m : Nat} (h : ∀ i j, i < m → j < m → f i = f j → i = j) : ((List.range m).map f).Nodup := by
  rw [List.Nodup, List.pairwise_map]
  refine (List.nodup_range (n := m)).imp_of_mem fun {a b} ha hb ne e => ne (h a b (List.mem_range.mp ha) (List.mem_range.mp hb) e)
/-- a stem of four letters -/
def stm (a b c d : Nat) : Str := ⟨#[a, b, c, d]⟩
theorem stm_join (a b c d : Nat) : Txt.join ("" : Str) [⟨#[a]⟩, ⟨#[b]⟩, ⟨#[c]⟩, ⟨#[d]⟩] = stm a b c d := rfl
structure Let4 (a b c d : Nat) : Prop where
  a : a ∈ letters.cps.toList
  b : b ∈ letters.cps.toList
  c : c ∈ letters.cps.toList
  d : d ∈ letters.cps.toList
section
variable {a b c d : Nat}
theorem Let4.l (h : Let4 a b c d) : Ltrs (stm a b c d) := fun x hx => by
  have : x = a ∨ x = b ∨ x = c ∨ x = d := by simpa [stm] using hx
  rcases this with e | e | e | e <;> rw [e]
  · exact h.a
  · exact h.b
  · exact h.c
  · exact h.d
def W0 (a b c d at_ k : Nat) : Str := if k < 4 then cutS (stm a b c d) none (some ((4 : Int) - (0 + (k : Int)))) else stm a b c d ++ ⟨#[lc (at_ + k)]⟩
theorem W0_len (at_ : Nat) : ∀ k, k < 5 → (W0 a b c d at_ k).length = if k < 4 then 4 - k else 5 := by
  intro k hk
  match k, hk with
  | 0, _ => rfl
  | 1, _ => rfl
  | 2, _ => rfl
  | 3, _ => rfl
  | 4, _ => rfl
theorem W0_ok (h : Let4 a b c d) (at_ : Nat) {k : Nat} (hk : k < 5) : WordOk (W0 a b c d at_ k) := by
  have hl := W0_len (a := a) (b := b) (c := c) (d := d) at_ k hk
  refine ⟨by rw [hl]; split <;> omega, by rw [hl]; split <;> omega, ?_⟩
  unfold W0
  split
  · exact h.l.cut _ _
  · exact h.l.app (Ltrs.one (lc_mem _))
theorem W0_nodup (at_ : Nat) {m : Nat} (hm : m ≤ 5) : ((List.range m).map (W0 a b c d at_)).Nodup := nodup_range fun i j hi hj e => by
  have h1 := W0_len (a := a) (b := b) (c := c) (d := d) at_ i (by omega)
  have h2 := W0_len (a := a) (b := b) (c := c) (d := d) at_ j (by omega)
  rw [e, h2] at h1
  split at h1 <;> split at h1 <;> omega
def W1 (a b c d at_ sp k : Nat) : Str := (cutS (stm a b c d) none (some (sp : Int)) ++ ⟨#[lc (at_ + 7 * k)]⟩) ++ cutS (stm a b c d) (some (sp : Int)) (some 3)
theorem W1_is (at_ k : Nat) : W1 a b c d at_ 0 k = stm (lc (at_ + 7 * k)) a b c ∧ W1 a b c d at_ 1 k = stm a (lc (at_ + 7 * k)) b c ∧ W1 a b c d at_ 2 k = stm a b (lc (at_ + 7 * k)) c ∧ W1 a b c d at_ 3 k = stm a b c (lc (at_ + 7 * k)) := ⟨rfl, rfl, rfl, rfl⟩
theorem W1_ok (h : Let4 a b c d) (at_ k : Nat) {sp : Nat} (hs : sp < 4) : WordOk (W1 a b c d at_ sp k) := by
  obtain ⟨e0, e1, e2, e3⟩ := W1_is (a := a) (b := b) (c := c) (d := d) at_ k
  have ok : ∀ {p q r s : Nat}, Let4 p q r s → WordOk (stm p q r s) := fun {p q r s} h => ⟨by show 1 ≤ 4; decide, by show 4 ≤ 6; decide, h.l⟩
  match sp, hs with
  | 0, _ => rw [e0]; exact ok ⟨lc_mem _, h.a, h.b, h.c⟩
  | 1, _ => rw [e1]; exact ok ⟨h.a, lc_mem _, h.b, h.c⟩
  | 2, _ => rw [e2]; exact ok ⟨h.a, h.b, lc_mem _, h.c⟩
  | 3, _ => rw [e3]; exact ok ⟨h.a, h.b, h.c, lc_mem _⟩
theorem stm_inj {p q r s p' q' r' s' : Nat} (h : stm p q r s = stm p' q' r' s') : p = p' ∧ q = q' ∧ r = r' ∧ s = s' := by
  have : (#[p, q, r, s] : Array Nat) = #[p', q', r', s'] := congrArg Str.cps h
  simpa using this
theorem W1_nodup (at_ : Nat) {sp m : Nat} (hs : sp < 4) (hm : m ≤ 5) : ((List.range m).map (W1 a b c d at_ sp)).Nodup := nodup_range fun i j hi hj e => by
  obtain ⟨e0, e1, e2, e3⟩ := W1_is (a := a) (b := b) (c := c) (d := d) at_ i
  obtain ⟨f0, f1, f2, f3⟩ := W1_is (a := a) (b := b) (c := c) (d := d) at_ j
  have key : lc (at_ + 7 * i) = lc (at_ + 7 * j) := by
    match sp, hs with
    | 0, _ => rw [e0, f0] at e; exact (stm_inj e).1
    | 1, _ => rw [e1, f1] at e; exact (stm_inj e).2.1
    | 2, _ => rw [e2, f2] at e; exact (stm_inj e).2.2.1
    | 3, _ => rw [e3, f3] at e; exact (stm_inj e).2.2.2
  have := lc_inj key
  omega
def W2 (at_ k : Nat) : Str := reps (lc (at_ + 5 * k)) (6 - k % 6)
theorem W2_ok (at_ k : Nat) : WordOk (W2 at_ k) := word_reps (lc_mem _) (by omega) (by omega)
theorem W2_nodup (at_ : Nat) {m : Nat} (hm : m ≤ 5) : ((List.range m).map (W2 at_)).Nodup := nodup_range fun i j hi hj e => by
  have h1 := congrArg Str.length e
  rw [W2, W2, reps_len, reps_len] at h1
  omega
def someL : List Str := ["other", "unseen", "others", "from", "is", "least", "number", "and", "if"]
def W3 (at_ k : Nat) : Str := someL.getD ((at_ + k) % 9) ""
theorem some_ok : ∀ x ∈ someL, WordOk x := by
  have h : (someL.all fun x => decide (1 ≤ x.length) && (decide (x.length ≤ 6) && x.cps.toList.all fun c => decide (c ∈ letters.cps.toList))) = true := by decide +kernel
  intro x hx
  have q := List.all_eq_true.mp h x hx
  rw [Bool.and_eq_true, Bool.and_eq_true] at q
  exact ⟨of_decide_eq_true q.1, of_decide_eq_true q.2.1, fun c hc => of_decide_eq_true (List.all_eq_true.mp q.2.2 c hc)⟩
theorem W3_at (at_ k : Nat) : someL[(at_ + k) % 9]? = some (W3 at_ k) := by
  have : (at_ + k) % 9 < someL.length := Nat.mod_lt _ (by decide)
  rw [W3, List.getD_eq_getElem?_getD, List.getElem?_eq_getElem this]
  rfl
theorem W3_ok (at_ k : Nat) : WordOk (W3 at_ k) := some_ok _ (List.mem_of_getElem? (W3_at at_ k))
theorem W3_nodup (at_ : Nat) {m : Nat} (hm : m ≤ 5) : ((List.range m).map (W3 at_)).Nodup := nodup_range fun i j hi hj e => by
  have nd : someL.Nodup := by decide +kernel
  have h1 := W3_at at_ i
  have h2 := W3_at at_ j
  rw [← e] at h2
  have := nd_ix nd h1 h2
  omega
end
end K5
set_option Elab.async false
set_option linter.all false
set_option maxRecDepth 100000
set_option maxHeartbeats 2000000
namespace K5
open PySem PySem.Spec PyProof.Rows L2
abbrev N__law_words : List Str := ["_law_box_here", "_law_many", "_law_letters", "_law_stem", "_law_way", "_law_at", "_law_spot", "_law_some", "_law_k"]
abbrev P__law_words : List Str := ["_law_box_here", "_law_many"]
theorem sc__law_words : FnScope N__law_words P__law_words (defScope s__law_words) := ⟨rfl, rfl, rfl, by decide +kernel, rfl, by decide +kernel, by decide +kernel⟩
def sp_words (K : PySem.W.Frag) : Sp := fun vs H Q _ => ∃ B x, ∃ m : Nat, vs = [.ref x, .int m] ∧ m ≤ 5 ∧ Same B H ∧ B x = none ∧ Box x H ∧
  ∀ (a : Addr) (ws : List Str) (B' H' : Hp), Stb x B H B' H' → H a = none → B' a = some (.lst (ws.map V.str)) → ws.length = m → (∀ z ∈ ws, WordOk z) → ws.Nodup → Q (.ref a) H'
theorem cutS_len (z : Str) (lo hi : Option Int) : (cutS z lo hi).length ≤ z.length := by
  show ((z.cps.toList.drop (HT.sIx z.length 0 lo)).take (HT.sIx z.length z.length hi - HT.sIx z.length 0 lo)).toArray.size ≤ z.cps.size
  rw [List.size_toArray, List.length_take, List.length_drop]
  have : z.cps.toList.length = z.cps.size := by simp
  omega
theorem sub6 (i : Nat) : (6 : Int) - (0 + (i : Int)).fmod 6 = ((6 - i % 6 : Nat) : Int) := by
  rw [Int.zero_add, Int.fmod_eq_emod_of_nonneg _ (by decide)]
  omega
theorem let_at (n : Nat) {z : Int} (h : z = (n : Int)) : atI letters.cps.toList (z.fmod 26) = some (lc n) := by
  have e : z.fmod 26 = ((n % 26 : Nat) : Int) := by
    rw [h, Int.fmod_eq_emod_of_nonneg _ (by decide)]
    omega
  rw [e]
  exact letters_at n
theorem some_at (n : Nat) {z : Int} (h : z = (n : Int)) : atI (someL.map V.str) (z.fmod 9) = some (.str (someL.getD (n % 9) "")) := by
  have e : z.fmod 9 = ((n % 9 : Nat) : Int) := by
    rw [h, Int.fmod_eq_emod_of_nonneg _ (by decide)]
    omega
  rw [e]
  have : n % 9 < someL.length := Nat.mod_lt _ (by decide)
  refine atI_nat ?_
  rw [List.getElem?_map, List.getD_eq_getElem?_getD, List.getElem?_eq_getElem this]
  rfl
section
variable {P : Program} {w : World} {K : PySem.W.Frag} {mg : Str → Option Value} {base : Heap}
theorem ok_words (T : Top K mg) (c__law_take : Cal P w K mg base CX0 1 "_law_take" sp_take) : Cal P w K mg base CX0 2 "_law_words" (sp_words K) := by
  have nd := sc__law_words.nd
  refine cal_of (ps := P__law_words) T.d__law_words (fun _ _ _ _ _ _ us hl => match us, hl with | [_, _], _ => rfl) sc__law_words (fun vs H Q E h => ?_) (fun f cdv A outer s H vs Q E hr h => ?_)
  · obtain ⟨B, x, m, rfl, _⟩ := h
    rfl
  · obtain ⟨B, x, m, rfl, hm, sB, nB, hx, k⟩ := h
    refine ⟨_, (pss_cons (ps_set (i := 2) nd rfl (by first | exact Or.inl rfl | exact Or.inr rfl) pe_str)
    (pss_cons (ps_set (i := 3) nd rfl (by first | exact Or.inl rfl | exact Or.inr rfl) (pe_join pe_str (pe_lc (own := [("_law_k", 8)]) (g := (gName 8)) (tt := tYes) rfl nd (pi_range1 (by rfl) T.f_range (pa_cons pe_int pa_nil)) (blkOk_by (own := [("_law_k", 8)]) (N := N__law_words) (sc := defScope s__law_words) (by decide +kernel)) (fun _ _ _ _ _ => (pg_name (i := 8) nd rfl (by first | exact Or.inl rfl | exact Or.inr rfl))) (fun _ _ _ _ _ => pts_nil) (fun _ _ _ _ _ => (pe_ix ix_str (pv 2) (pcal c__law_take hr (by decide) (by rfl) (pa_cons (pv 0) (pa_cons pe_int pa_nil))) (fun _ _ => rfl))))))
    (pss_cons (ps_asg (pe_tup (pa_cons (pcal c__law_take hr (by decide) (by rfl) (pa_cons (pv 0) (pa_cons pe_int pa_nil))) (pa_cons (pcal c__law_take hr (by decide) (by rfl) (pa_cons (pv 0) (pa_cons pe_int pa_nil))) (pa_cons (pcal c__law_take hr (by decide) (by rfl) (pa_cons (pv 0) (pa_cons pe_int pa_nil))) pa_nil)))) (pg_tup rfl (pgs_cons (pg_name (i := 4) nd rfl (by first | exact Or.inl rfl | exact Or.inr rfl)) (pgs_cons (pg_name (i := 5) nd rfl (by first | exact Or.inl rfl | exact Or.inr rfl)) (pgs_cons (pg_name (i := 6) nd rfl (by first | exact Or.inl rfl | exact Or.inr rfl)) pgs_nil)))))
    (pss_cons (ps_set (i := 7) nd rfl (by first | exact Or.inl rfl | exact Or.inr rfl) (pe_lst (pa_cons pe_str (pa_cons pe_str (pa_cons pe_str (pa_cons pe_str (pa_cons pe_str (pa_cons pe_str (pa_cons pe_str (pa_cons pe_str (pa_cons pe_str pa_nil)))))))))))
    (pss_cons (ps_if (pt_cmpR op_eq (pv 4) pe_int (nomark _)) (pss_one (ps_ret (pe_lc (own := [("_law_k", 8)]) (g := (gName 8)) (tt := tYes) rfl nd (pi_range1 (by rfl) T.f_range (pa_cons (pv 1) pa_nil)) (blkOk_by (own := [("_law_k", 8)]) (N := N__law_words) (sc := defScope s__law_words) (by decide +kernel)) (fun _ _ _ _ _ => (pg_name (i := 8) nd rfl (by first | exact Or.inl rfl | exact Or.inr rfl))) (fun _ _ _ _ _ => pts_nil) (fun _ _ _ _ _ => (pe_ix (ix_listK (K := K)) (pv 7) (pe_op op_modN (pe_op op_add (pv 5) (pv 8)) pe_int) (fun _ _ => rfl)))))) pss_nil)
    (pss_cons (ps_if (pt_cmpR op_eq (pv 4) pe_int (nomark _)) (pss_one (ps_ret (pe_lc (own := [("_law_k", 8)]) (g := (gName 8)) (tt := tYes) rfl nd (pi_range1 (by rfl) T.f_range (pa_cons (pv 1) pa_nil)) (blkOk_by (own := [("_law_k", 8)]) (N := N__law_words) (sc := defScope s__law_words) (by decide +kernel)) (fun _ _ _ _ _ => (pg_name (i := 8) nd rfl (by first | exact Or.inl rfl | exact Or.inr rfl))) (fun _ _ _ _ _ => pts_nil) (fun _ _ _ _ _ => (pe_ifExp (pt_cmpR op_lt (pv 8) pe_int (nomark _)) (pe_slice sl_str (pv 3) po_none (po_some (pe_op op_sub pe_int (pv 8)))) (pe_op op_add_str (pv 3) (pe_ix ix_str (pv 2) (pe_op op_modN (pe_op op_add (pv 5) (pv 8)) pe_int) (fun _ _ => rfl)))))))) pss_nil)
    (pss_cons (ps_if (pt_cmpR op_eq (pv 4) pe_int (nomark _)) (pss_one (ps_ret (pe_lc (own := [("_law_k", 8)]) (g := (gName 8)) (tt := tYes) rfl nd (pi_range1 (by rfl) T.f_range (pa_cons (pv 1) pa_nil)) (blkOk_by (own := [("_law_k", 8)]) (N := N__law_words) (sc := defScope s__law_words) (by decide +kernel)) (fun _ _ _ _ _ => (pg_name (i := 8) nd rfl (by first | exact Or.inl rfl | exact Or.inr rfl))) (fun _ _ _ _ _ => pts_nil) (fun _ _ _ _ _ => (pe_op op_add_str (pe_op op_add_str (pe_slice sl_str (pv 3) po_none (po_some (pv 6))) (pe_ix ix_str (pv 2) (pe_op op_modN (pe_op op_add (pv 5) (pe_op op_mul pe_int (pv 8))) pe_int) (fun _ _ => rfl))) (pe_slice sl_str (pv 3) (po_some (pv 6)) (po_some pe_int))))))) pss_nil)
    (pss_one (ps_ret (pe_lc (own := [("_law_k", 8)]) (g := (gName 8)) (tt := tYes) rfl nd (pi_range1 (by rfl) T.f_range (pa_cons (pv 1) pa_nil)) (blkOk_by (own := [("_law_k", 8)]) (N := N__law_words) (sc := defScope s__law_words) (by decide +kernel)) (fun _ _ _ _ _ => (pg_name (i := 8) nd rfl (by first | exact Or.inl rfl | exact Or.inr rfl))) (fun _ _ _ _ _ => pts_nil) (fun _ _ _ _ _ => (pe_op op_repStr (pe_ix ix_str (pv 2) (pe_op op_modN (pe_op op_add (pv 5) (pe_op op_mul pe_int (pv 8))) pe_int) (fun _ _ => rfl)) (pe_op op_sub pe_int (pe_op op_modN (pv 8) pe_int)))))))))))))), ?_⟩
    have xD : ∀ {D : Addr}, H D = none → D ≠ x := fun {D} h => by
      obtain ⟨o, e⟩ := hx.some
      exact Ne.symm (ne_of_none e h)
    refine ⟨⟨_, rfl⟩, 4, rfl, by decide, by decide, fun D hD => ?_⟩
    have Dx := xD hD
    have nBD : B D = none := sB.free hD
    refine lc_it (walk_range (lo := 0) (n := 4)) (fun i H' => Stb x B H B H' ∧ ∃ cs : List Nat, cs.length = i ∧ (∀ c ∈ cs, c ∈ letters.cps.toList) ∧ H' D = some (.lst ((cs.map fun c => (⟨#[c]⟩ : Str)).map V.str))) ⟨(Stb.refl sB hx).own hx hD nBD, [], rfl, fun c h => by simp at h, upd_same⟩ (fun _ _ _ _ => trivial) ?_ ?_
    · rintro i z H1 H2 hi ⟨st, cs, hcl, hcs, hd⟩ ⟨rfl, rfl⟩
      refine ⟨rfl, yesT (iteT ?_)⟩
      refine ⟨_, rfl, _, rfl, x, 26, rfl, by decide, by decide, st.box, fun d a b c h0 h26 => ?_⟩
      obtain ⟨n, rfl⟩ := Int.eq_ofNat_of_zero_le h0
      have hn : n % 26 = n := Nat.mod_eq_of_lt (by omega)
      have hat := letters_at n
      rw [hn] at hat
      refine ⟨letters, _, _, rfl, rfl, by decide, hat, _, by rw [upd_ne Dx]; exact hd, ?_, ?_, cs ++ [letters.cps.toList.getD n 97], by rw [List.length_append, hcl]; rfl, fun c' hc' => ?_, ?_⟩
      · rw [List.length_map, List.length_map, hcl]
        have : 60 < sizeLine := by decide
        omega
      · exact (st.trans hx (Stb.put st.bh nB)).own hx hD nBD
      · rcases List.mem_append.mp hc' with h | h
        · exact hcs c' h
        · rw [List.mem_singleton.mp h]
          have := ltr_mem n
          rw [hn] at this
          exact this
      · rw [upd_same, List.map_append, List.map_append]
        rfl
    rintro H1 ⟨st1, cs, hcl, hcs, hd⟩
    obtain ⟨c0, c1, c2, c3, rfl⟩ : ∃ c0 c1 c2 c3, cs = [c0, c1, c2, c3] := by
      match cs, hcl with
      | [a, b, c, d], _ => exact ⟨a, b, c, d, rfl⟩
    have h4 : Let4 c0 c1 c2 c3 := ⟨hcs _ (by simp), hcs _ (by simp), hcs _ (by simp), hcs _ (by simp)⟩
    refine ⟨("" : Str), D, _, rfl, rfl, .inl (SqL.of hd), (show 4 ≤ 16777216 by decide), ?_⟩
    rw [show Txt.join ("" : Str) ([c0, c1, c2, c3].map fun c => (⟨#[c]⟩ : Str)) = stm c0 c1 c2 c3 from rfl]
    have n1 := nB
    refine ⟨_, rfl, x, 4, rfl, by decide, by decide, st1.box, fun wy a1 a2 a3 hw0 hw4 => ?_⟩
    have st2 := st1.trans hx (Stb.put (a := a1) (b := a2) (c := a3) st1.bh nB)
    refine ⟨_, rfl, x, 26, rfl, by decide, by decide, st2.box, fun at_ b1 b2 b3 ha0 ha26 => ?_⟩
    have st3 := st2.trans hx (Stb.put (a := b1) (b := b2) (c := b3) st2.bh nB)
    refine ⟨_, rfl, x, 4, rfl, by decide, by decide, st3.box, fun sp d1 d2 d3 hs0 hs4 => ?_⟩
    have st4 := st3.trans hx (Stb.put (a := d1) (b := d2) (c := d3) st3.bh nB)
    obtain ⟨ap, rfl⟩ := Int.eq_ofNat_of_zero_le ha0
    obtain ⟨spn, rfl⟩ := Int.eq_ofNat_of_zero_le hs0
    refine ⟨(show 3 ≤ sizeLine by decide), fun T1 hT1 => ⟨T1, _, rfl, SqT.of upd_same, rfl, _, _, rfl, _, _, rfl, _, _, rfl, rfl, ?_⟩⟩
    have st5 := st4.trans hx (Stb.of st4.box (Step.tmp (o := .tup [.int wy, .int (ap : Nat), .int (spn : Nat)]) st4.bh hT1))
    refine ⟨(show 9 ≤ sizeLine by decide), fun sm hsm => ?_⟩
    have st6 := st5.trans hx (Stb.of st5.box (Step.tmp (o := .lst (someL.map V.str)) st5.bh hsm))
    have hsmL : (upd (upd (upd (upd (upd H1 x (.lst [.int a1, .int a2, .int a3])) x (.lst [.int b1, .int b2, .int b3])) x (.lst [.int d1, .int d2, .int d3])) T1 (.tup [.int wy, .int (ap : Nat), .int (spn : Nat)])) sm (.lst (someL.map V.str))) sm = some (.lst (someL.map V.str)) := upd_same
    generalize hG : (upd (upd (upd (upd (upd H1 x (.lst [.int a1, .int a2, .int a3])) x (.lst [.int b1, .int b2, .int b3])) x (.lst [.int d1, .int d2, .int d3])) T1 (.tup [.int wy, .int (ap : Nat), .int (spn : Nat)])) sm (.lst (someL.map V.str))) = H5 at st6 hsmL
    have fin : ∀ (W : Nat → Str), (∀ j, j < m → WordOk (W j)) → ((List.range m).map W).Nodup → ∀ D H', H5 D = none → Same H5 H' → H' D = some (.lst (((List.range m).map W).map V.str)) → Q (.ref D) H' := fun W ok nd D H' hD s hd =>
      k D _ _ H' ((st6.trans hx (Stb.of st6.box (Step.same st6.bh s))).frz hx (st6.free hx hD) hd) (st6.free hx hD) upd_same (by simp) (fun z hz => by
        obtain ⟨j, hj, rfl⟩ := List.mem_map.mp hz
        exact ok j (List.mem_range.mp hj)) nd
    have more : ∀ (W : Nat → Str) (i : Nat) (D : Addr) (H' : Hp), i < m → H5 D = none → Same H5 H' → H' D = some (.lst (((List.range i).map W).map V.str)) →
        ∃ acc, H' D = some (.lst acc) ∧ acc.length < sizeLine ∧ Same H5 (upd H' D (.lst (acc ++ [V.str (W i)]))) ∧ (upd H' D (.lst (acc ++ [V.str (W i)]))) D = some (.lst (((List.range (i + 1)).map W).map V.str)) := fun W i D H' hi hD s hd => by
      refine ⟨_, hd, ?_, grow_same hD s, ?_⟩
      · rw [List.length_map, List.length_map, List.length_range]
        have : 60 < sizeLine := by decide
        omega
      · rw [upd_same, List.range_succ, List.map_append, List.map_append]
        rfl
    have m0 : -(2 ^ 62) ≤ (m : Int) := by omega
    have m1 : (m : Int) < 2 ^ 62 := by omega
    show tSeq _ _ _ _ (upd (upd (upd (upd (upd H1 x (.lst [.int a1, .int a2, .int a3])) x (.lst [.int b1, .int b2, .int b3])) x (.lst [.int d1, .int d2, .int d3])) T1 (.tup [.int wy, .int (ap : Nat), .int (spn : Nat)])) sm (.lst (someL.map V.str)))
    rw [hG]
    refine ⟨_, rfl, rfl, _, rfl, ?_⟩
    by_cases e3 : wy = 3
    · rw [decide_eq_true (show V.int wy = V.int 3 by rw [e3])]
      refine iteT ⟨_, rfl, _, rfl, m0, m1, fun D2 hD2 => ?_⟩
      refine lc_it (walk_range (lo := 0) (n := m)) (fun i H' => Same H5 H' ∧ H' D2 = some (.lst (((List.range i).map (W3 ap)).map V.str))) ⟨same_new hD2, upd_same⟩ (fun _ _ _ _ => trivial) ?_ fun H' p => fin _ (fun j _ => W3_ok ap j) (W3_nodup ap hm) D2 H' hD2 p.1 p.2
      rintro i z H6 H7 hi ⟨s6, hd6⟩ ⟨rfl, rfl⟩
      refine ⟨rfl, yesT (iteT ?_)⟩
      exact ⟨_, rfl, _, rfl, _, rfl, _, _, rfl, rfl, _, _, rfl, rfl, (show (9 : Int) ≠ 0 by decide), sm, _, _, _, rfl, rfl, SqL.of (s6 _ _ hsmL), some_at (ap + i) (by omega), more (W3 ap) i D2 _ hi hD2 s6 hd6⟩
    · rw [decide_eq_false (show ¬ V.int wy = V.int 3 from fun z => e3 (V.int.inj z))]
      refine iteF ?_
      refine ⟨_, rfl, rfl, _, rfl, ?_⟩
      by_cases e0 : wy = 0
      · rw [decide_eq_true (show V.int wy = V.int 0 by rw [e0])]
        refine iteT ⟨_, rfl, _, rfl, m0, m1, fun D2 hD2 => ?_⟩
        refine lc_it (walk_range (lo := 0) (n := m)) (fun i H' => Same H5 H' ∧ H' D2 = some (.lst (((List.range i).map (W0 c0 c1 c2 c3 ap)).map V.str))) ⟨same_new hD2, upd_same⟩ (fun _ _ _ _ => trivial) ?_ fun H' p => fin _ (fun j hj => W0_ok h4 ap (by omega)) (W0_nodup ap hm) D2 H' hD2 p.1 p.2
        rintro i z H6 H7 hi ⟨s6, hd6⟩ ⟨rfl, rfl⟩
        refine ⟨rfl, yesT (iteT ?_)⟩
        have mo := more (W0 c0 c1 c2 c3 ap) i D2 _ hi hD2 s6 hd6
        refine ⟨_, rfl, _, _, rfl, rfl, _, rfl, ?_⟩
        by_cases hk : i < 4
        · rw [W0, if_pos hk] at mo
          rw [decide_eq_true (show (0 : Int) + (i : Nat) < 4 by omega)]
          exact iteT ⟨_, rfl, _, rfl, _, _, rfl, rfl, _, rfl, _, rfl, (show 4 ≤ sizeLine by decide), mo⟩
        · rw [W0, if_neg hk] at mo
          rw [decide_eq_false (show ¬ (0 : Int) + (i : Nat) < 4 by omega)]
          exact iteF ⟨_, rfl, _, rfl, _, rfl, _, rfl, _, _, rfl, rfl, _, _, rfl, rfl, (show (26 : Int) ≠ 0 by decide), letters, _, _, rfl, rfl, by decide, let_at (ap + i) (by omega), _, _, rfl, rfl, (show 4 + 1 ≤ sizeLine by decide), mo⟩
      · rw [decide_eq_false (show ¬ V.int wy = V.int 0 from fun z => e0 (V.int.inj z))]
        refine iteF ?_
        refine ⟨_, rfl, rfl, _, rfl, ?_⟩
        by_cases e1 : wy = 1
        · rw [decide_eq_true (show V.int wy = V.int 1 by rw [e1])]
          refine iteT ⟨_, rfl, _, rfl, m0, m1, fun D2 hD2 => ?_⟩
          have hsp : spn < 4 := by omega
          refine lc_it (walk_range (lo := 0) (n := m)) (fun i H' => Same H5 H' ∧ H' D2 = some (.lst (((List.range i).map (W1 c0 c1 c2 c3 ap spn)).map V.str))) ⟨same_new hD2, upd_same⟩ (fun _ _ _ _ => trivial) ?_ fun H' p => fin _ (fun j hj => W1_ok h4 ap j hsp) (W1_nodup ap hsp hm) D2 H' hD2 p.1 p.2
          rintro i z H6 H7 hi ⟨s6, hd6⟩ ⟨rfl, rfl⟩
          refine ⟨rfl, yesT (iteT ?_)⟩
          have mo := more (W1 c0 c1 c2 c3 ap spn) i D2 _ hi hD2 s6 hd6
          refine ⟨_, rfl, _, rfl, _, rfl, _, rfl, (show 4 ≤ sizeLine by decide), _, rfl, _, rfl, _, rfl, _, _, rfl, rfl, .inl ⟨by decide, by decide⟩, _, _, rfl, rfl, _, _, rfl, rfl, (show (26 : Int) ≠ 0 by decide), letters, _, _, rfl, rfl, by decide, let_at (ap + 7 * i) (by omega), _, _, rfl, rfl, ?_, _, rfl, _, rfl, _, rfl, _, rfl, _, rfl, (show 4 ≤ sizeLine by decide), _, _, rfl, rfl, ?_, mo⟩
          · have := cutS_len (stm c0 c1 c2 c3) none (some (spn : Int))
            have h4 : (stm c0 c1 c2 c3).length = 4 := rfl
            have h1 : (⟨#[lc (ap + 7 * i)]⟩ : Str).length = 1 := rfl
            have : 60 < sizeLine := by decide
            omega
          · have := cutS_len (stm c0 c1 c2 c3) none (some (spn : Int))
            have := cutS_len (stm c0 c1 c2 c3) (some (spn : Int)) (some 3)
            have h4 : (stm c0 c1 c2 c3).length = 4 := rfl
            have h1 : (⟨#[lc (ap + 7 * i)]⟩ : Str).length = 1 := rfl
            have : 60 < sizeLine := by decide
            rw [app_len]
            omega
        · rw [decide_eq_false (show ¬ V.int wy = V.int 1 from fun z => e1 (V.int.inj z))]
          refine iteF ⟨_, rfl, _, rfl, m0, m1, fun D2 hD2 => ?_⟩
          refine lc_it (walk_range (lo := 0) (n := m)) (fun i H' => Same H5 H' ∧ H' D2 = some (.lst (((List.range i).map (W2 ap)).map V.str))) ⟨same_new hD2, upd_same⟩ (fun _ _ _ _ => trivial) ?_ fun H' p => fin _ (fun j hj => W2_ok ap j) (W2_nodup ap hm) D2 H' hD2 p.1 p.2
          rintro i z H6 H7 hi ⟨s6, hd6⟩ ⟨rfl, rfl⟩
          refine ⟨rfl, yesT (iteT ?_)⟩
          have mo := more (W2 ap) i D2 _ hi hD2 s6 hd6
          refine ⟨_, rfl, _, rfl, _, rfl, _, _, rfl, rfl, .inl ⟨by decide, by decide⟩, _, _, rfl, rfl, _, _, rfl, rfl, (show (26 : Int) ≠ 0 by decide), letters, _, _, rfl, rfl, by decide, let_at (ap + 5 * i) (by omega), _, rfl, _, _, rfl, rfl, (show (6 : Int) ≠ 0 by decide), _, _, rfl, rfl, _, _, rfl, rfl, ?_⟩
          rw [sub6]
          refine ⟨mulOk_one (by omega) (by omega), ?_⟩
          rw [mul_one_sign _ _ (by omega)]
          exact mo
end
end K5
set_option Elab.async false
set_option linter.all false
set_option maxRecDepth 100000
set_option maxHeartbeats 2000000
namespace K5
open PySem PySem.Spec PyProof.Rows L2
abbrev N__law_numbers : List Str := ["_law_box_here", "_law_first", "_law_found", "_law_step"]
abbrev P__law_numbers : List Str := ["_law_box_here"]
theorem sc__law_numbers : FnScope N__law_numbers P__law_numbers (defScope s__law_numbers) := ⟨rfl, rfl, rfl, by decide +kernel, rfl, by decide +kernel, by decide +kernel⟩
abbrev N__law_kind : List Str := ["_law_box_here", "_law_least", "_law_most", "_law_names", "_law_answers", "_law_fields", "_law_name"]
abbrev P__law_kind : List Str := ["_law_box_here", "_law_least", "_law_most"]
theorem sc__law_kind : FnScope N__law_kind P__law_kind (defScope s__law_kind) := ⟨rfl, rfl, rfl, by decide +kernel, rfl, by decide +kernel, by decide +kernel⟩
def sp_numbers (K : PySem.W.Frag) : Sp := fun vs H Q _ => ∃ B x, vs = [.ref x] ∧ Same B H ∧ B x = none ∧ Box x H ∧
  ∀ (a : Addr) (ns : List Int) (B' H' : Hp), Stb x B H B' H' → H a = none → B' a = some (.lst (ns.map V.int)) → 1 ≤ ns.length → ns.length ≤ 4 → (∀ z ∈ ns, NumOk z) → Q (.ref a) H'
/-- fields, answers, width in a list -/
def ShA (B : Hp) (K : PySem.W.Frag) (v : V) (k : Knd) : Prop := ∃ q lf fxs la, v = .ref q ∧ B q = some (.lst [.ref lf, .ref la, .int k.width]) ∧ B lf = some (.lst fxs) ∧ Paired (FiA K B) fxs k.fields ∧ B la = some (.lst (k.answers.map V.str))
def sp_mkind (K : PySem.W.Frag) : Sp := fun vs H Q _ => ∃ B x, vs = [.ref x, .int 0, .int 4] ∧ Same B H ∧ B x = none ∧ Box x H ∧
  ∀ (v : V) (k : Knd) (B' H' : Hp), Stb x B H B' H' → ShA B' K v k → KndOk k → Q v H'
section
variable {P : Program} {w : World} {K : PySem.W.Frag} {mg : Str → Option Value} {base : Heap}
theorem ok_numbers (T : Top K mg) (c__law_take : Cal P w K mg base CX0 1 "_law_take" sp_take) : Cal P w K mg base CX0 2 "_law_numbers" (sp_numbers K) := by
  have nd := sc__law_numbers.nd
  refine cal_of (ps := P__law_numbers) T.d__law_numbers (fun _ _ _ _ _ _ us hl => match us, hl with | [_], _ => rfl) sc__law_numbers (fun vs H Q E h => ?_) (fun f cdv A outer s H vs Q E hr h => ?_)
  · obtain ⟨B, x, rfl, _⟩ := h
    rfl
  · obtain ⟨B, x, rfl, sB, nB, hx, k⟩ := h
    refine ⟨_, (pss_cons (ps_set (i := 1) nd rfl (by first | exact Or.inl rfl | exact Or.inr rfl) (pe_ix ix_list (pe_lst (pa_cons (pe_un un_neg pe_int) (pa_cons (pe_un un_neg pe_int) (pa_cons pe_int (pa_cons (pe_op op_sub (pcal c__law_take hr (by decide) (by rfl) (pa_cons (pv 0) (pa_cons pe_int pa_nil))) pe_int) pa_nil))))) (pcal c__law_take hr (by decide) (by rfl) (pa_cons (pv 0) (pa_cons pe_int pa_nil))) (fun _ _ => rfl)))
    (pss_cons (ps_set (i := 2) nd rfl (by first | exact Or.inl rfl | exact Or.inr rfl) (pe_lst (pa_cons (pv 1) pa_nil)))
    (pss_cons (ps_for PassesOwn.never rfl (pi_list (pe_lst (pa_cons pe_int (pa_cons pe_int (pa_cons (pe_op op_add pe_int (pcal c__law_take hr (by decide) (by rfl) (pa_cons (pv 0) (pa_cons pe_int pa_nil)))) pa_nil))))) (pg_name (i := 3) nd rfl (by first | exact Or.inl rfl | exact Or.inr rfl)) (pss_one (ps_if (PW.pt (pw_and (pt_cmpR op_lt (pe_op op_add (pe_ix ix_list (pv 2) (pe_un un_neg pe_int) (fun _ _ => rfl)) (pv 3)) pe_int (nomark _)) (pw_and1 (pt_cmpR op_gt (pcal c__law_take hr (by decide) (by rfl) (pa_cons (pv 0) (pa_cons pe_int pa_nil))) pe_int (nomark _))))) (pss_one (ps_expr (pe_bm PySem.F.plainAttrs_list PySem.F.slot_list_append PySem.F.type_list_append mt_append (pv 2) (pa_cons (pe_op op_add (pe_ix ix_list (pv 2) (pe_un un_neg pe_int) (fun _ _ => rfl)) (pv 3)) pa_nil)))) pss_nil)))
    (pss_one (ps_ret (pv 2)))))), ?_⟩
    have xD : ∀ {D : Addr}, H D = none → D ≠ x := fun {D} h => by
      obtain ⟨o, e⟩ := hx.some
      exact Ne.symm (ne_of_none e h)
    refine ⟨_, rfl, _, rfl, _, rfl, x, 19999, rfl, by decide, by decide, hx, fun d a1 a2 a3 hd0 hd1 => ?_⟩
    have st1 := (Stb.refl sB hx).trans hx (Stb.put (a := a1) (b := a2) (c := a3) sB nB)
    refine ⟨_, _, rfl, rfl, (show 4 ≤ sizeLine by decide), fun l hl => ?_⟩
    have st2 := st1.trans hx (Stb.of st1.box (Step.tmp (o := .lst [.int (-9999), .int (-1), .int 9996, .int (d - 9999)]) st1.bh hl))
    have lx : l ≠ x := xD (st1.free hx hl)
    refine ⟨_, rfl, x, 4, rfl, by decide, by decide, st2.box, fun e b1 b2 b3 he0 he4 => ?_⟩
    have st3 := st2.trans hx (Stb.put (a := b1) (b := b2) (c := b3) st2.bh nB)
    obtain ⟨en, rfl⟩ := Int.eq_ofNat_of_zero_le he0
    have hen : en < ([-9999, -1, 9996, d - 9999] : List Int).length := by show en < 4; omega
    have hl3 : (upd (upd (upd H x (.lst [.int a1, .int a2, .int a3])) l (.lst [.int (-9999), .int (-1), .int 9996, .int (d - 9999)])) x (.lst [.int b1, .int b2, .int b3])) l = some (.lst (([-9999, -1, 9996, d - 9999] : List Int).map V.int)) := by
      rw [upd_ne lx, upd_same]
      rfl
    refine ⟨l, _, _, V.int (([-9999, -1, 9996, d - 9999] : List Int)[en]), rfl, rfl, SqL.of hl3, atI_nat (by rw [List.getElem?_map, List.getElem?_eq_getElem hen]; rfl), ?_⟩
    have hfok : NumOk (([-9999, -1, 9996, d - 9999] : List Int)[en]) := by
      have key : ∀ z ∈ ([-9999, -1, 9996, d - 9999] : List Int), NumOk z := fun z hz => by
        simp only [List.mem_cons, List.not_mem_nil, or_false] at hz
        unfold NumOk
        rcases hz with h | h | h | h <;> rw [h] <;> omega
      exact key _ (List.getElem_mem hen)
    generalize ([-9999, -1, 9996, d - 9999] : List Int)[en] = f0 at hfok ⊢
    generalize (upd (upd (upd H x (.lst [.int a1, .int a2, .int a3])) l (.lst [.int (-9999), .int (-1), .int 9996, .int (d - 9999)])) x (.lst [.int b1, .int b2, .int b3])) = H3 at st3 ⊢
    refine ⟨_, rfl, (show 1 ≤ sizeLine by decide), fun D hD => ?_⟩
    have DH : H D = none := st3.free hx hD
    have Dx := xD DH
    have nBD : B D = none := sB.free DH
    have st4 := st3.trans hx (Stb.of st3.box (Step.tmp (o := .lst [.int f0]) st3.bh hD))
    refine ⟨_, rfl, x, 40, rfl, by decide, by decide, st4.box, fun d2 c1 c2 c3 h20 h21 => ?_⟩
    have st5 := st4.trans hx (Stb.put (a := c1) (b := c2) (c := c3) st4.bh nB)
    refine ⟨_, _, rfl, rfl, (show 3 ≤ sizeLine by decide), fun sl hsl => ⟨sl, rfl, ⟨_, SqL.of upd_same⟩, ?_⟩⟩
    have hD5 : (upd (upd H3 D (.lst [.int f0])) x (.lst [.int c1, .int c2, .int c3])) D = some (.lst ([] ++ [.int f0])) := by
      rw [upd_ne Dx, upd_same]
      rfl
    have Ds : D ≠ sl := ne_of_none hD5 hsl
    have sx : sl ≠ x := xD (st5.free hx hsl)
    have st6 := st5.trans hx (Stb.of st5.box (Step.tmp (o := .lst [.int 1, .int 2, .int (1 + d2)]) st5.bh hsl))
    refine for_it (walk_list (xs := [.int 1, .int 2, .int (1 + d2)])) (fun i σ H' => ∃ v3 ns la, σ = [some (.ref x), some (.int f0), some (.ref D), v3] ∧ Stb x B H B H' ∧ H' D = some (.lst ((ns : List Int).map V.int ++ [.int la])) ∧ ns.length ≤ i ∧ (∀ z ∈ ns, NumOk z) ∧ NumOk la ∧ H' sl = some (.lst [.int 1, .int 2, .int (1 + d2)]))
      ⟨_, [], f0, rfl, st6, by rw [upd_ne Ds]; exact hD5, Nat.le_refl _, fun z h => by simp at h, hfok, upd_same⟩ (fun i σ H' _ ⟨_, _, _, _, _, _, _, _, _, h⟩ => SqL.of h) ?_ ?_
    · rintro i z σ H6 H7 hi ⟨v3, ns, la, rfl, st, hDl, hnl, hok, hla, hss⟩ ⟨rfl, hv⟩
      obtain ⟨sv, rfl, hsv⟩ : ∃ sv : Int, z = .int sv ∧ 1 ≤ sv := by
        match i, hv with
        | 0, hv => exact ⟨1, (Option.some.inj hv).symm, by decide⟩
        | 1, hv => exact ⟨2, (Option.some.inj hv).symm, by decide⟩
        | 2, hv => exact ⟨1 + d2, (Option.some.inj hv).symm, by omega⟩
        | i + 3, hv => simp at hv
      have hi3 : i < 3 := hi
      refine ⟨_, rfl, _, rfl, D, _, _, _, rfl, rfl, SqL.of hDl, atI_last _ _, _, rfl, _, _, rfl, rfl, _, _, rfl, rfl, _, rfl, ?_⟩
      by_cases hlt : la + sv < 10000
      · rw [decide_eq_true hlt]
        refine iteT ⟨_, rfl, x, 3, rfl, by decide, by decide, st.box, fun t e1 e2 e3 ht0 ht3 => ⟨_, _, rfl, rfl, _, rfl, ?_⟩⟩
        have stp := st.trans hx (Stb.put (a := e1) (b := e2) (c := e3) st.bh nB)
        have hDl2 : (upd H7 x (.lst [.int e1, .int e2, .int e3])) D = some (.lst (ns.map V.int ++ [.int la])) := by rw [upd_ne Dx]; exact hDl
        have hss2 : (upd H7 x (.lst [.int e1, .int e2, .int e3])) sl = some (.lst [.int 1, .int 2, .int (1 + d2)]) := by rw [upd_ne sx]; exact hss
        by_cases h0 : 0 < t
        · rw [decide_eq_true h0]
          refine iteT ⟨_, rfl, .inl ⟨rfl, _, SqL.of hDl2⟩, _, rfl, _, rfl, D, _, _, _, rfl, rfl, SqL.of hDl2, atI_last _ _, _, rfl, _, _, rfl, rfl, D, _, _, rfl, rfl, hDl2, ?_, _, ns ++ [la], la + sv, rfl, stp.own hx DH nBD, ?_, ?_, fun z hz => ?_, ?_, ?_⟩
          · rw [List.length_append, List.length_map]
            have : 60 < sizeLine := by decide
            show _ + 1 < _
            omega
          · rw [upd_same, List.map_append]
            rfl
          · rw [List.length_append]
            show _ + 1 ≤ _
            omega
          · rcases List.mem_append.mp hz with h | h
            · exact hok z h
            · rw [List.mem_singleton.mp h]
              exact hla
          · obtain ⟨h1, h2⟩ := hla
            exact ⟨by omega, by omega⟩
          · rw [upd_ne (Ne.symm Ds)]
            exact hss2
        · rw [decide_eq_false h0]
          exact iteF ⟨_, ns, la, rfl, stp, hDl2, by omega, hok, hla, hss2⟩
      · rw [decide_eq_false hlt]
        exact iteF ⟨_, ns, la, rfl, st, hDl, by omega, hok, hla, hss⟩
    · rintro σ H6 ⟨v3, ns, la, rfl, st, hDl, hnl, hok, hla, hss⟩
      have hnl3 : ns.length ≤ 3 := hnl
      refine ⟨_, rfl, k D (ns ++ [la]) _ H6 (st.frz hx DH hDl) DH (by rw [upd_same, List.map_append]; rfl) (by simp) (by rw [List.length_append]; show _ + 1 ≤ 4; omega) fun z hz => ?_⟩
      rcases List.mem_append.mp hz with h | h
      · exact hok z h
      · rw [List.mem_singleton.mp h]
        exact hla
theorem ok_mkind (T : Top K mg) (c__law_take : Cal P w K mg base CX0 1 "_law_take" sp_take) (c__law_words : Cal P w K mg base CX0 2 "_law_words" (sp_words K)) : Cal P w K mg base CX0 3 "_law_kind" (sp_mkind K) := by
  have nd := sc__law_kind.nd
  refine cal_of (ps := P__law_kind) T.d__law_kind (fun _ _ _ _ _ _ us hl => match us, hl with | [_, _, _], _ => rfl) sc__law_kind (fun vs H Q E h => ?_) (fun f cdv A outer s H vs Q E hr h => ?_)
  · obtain ⟨B, x, rfl, _⟩ := h
    rfl
  · obtain ⟨B, x, rfl, sB, nB, hx, k⟩ := h
    refine ⟨_, (pss_cons (ps_par (i := 3) (j := 4) (by rfl) nd rfl rfl (by decide) rfl rfl (pa_cons (pcal c__law_words hr (by decide) (by rfl) (pa_cons (pv 0) (pa_cons (pe_op op_add (pv 1) (pcal c__law_take hr (by decide) (by rfl) (pa_cons (pv 0) (pa_cons (pe_op op_add (pe_op op_sub (pv 2) (pv 1)) pe_int) pa_nil)))) pa_nil))) (pa_cons (pcal c__law_words hr (by decide) (by rfl) (pa_cons (pv 0) (pa_cons (pe_op op_add pe_int (pcal c__law_take hr (by decide) (by rfl) (pa_cons (pv 0) (pa_cons pe_int pa_nil)))) pa_nil))) pa_nil)) (by rfl))
    (pss_cons (ps_setLc (i := 5) (own := [("_law_name", 6)]) (g := (gName 6)) (tt := tYes) rfl nd rfl rfl (sw_true rfl rfl rfl (by decide +kernel)) (pi_list (pv 3)) (blkOk_by (own := [("_law_name", 6)]) (N := N__law_kind) (sc := defScope s__law_kind) (by decide +kernel)) (fun _ _ _ _ _ => (pg_name (i := 6) nd rfl (by first | exact Or.inl rfl | exact Or.inr rfl))) (fun _ _ _ _ _ => pts_nil) (fun _ _ _ _ _ => (pe_tup (pa_cons (pv 6) (pa_cons (pe_ix (ix_listK (K := K)) (pe_lst (pa_cons pe_str (pa_cons pe_str pa_nil))) (pcal c__law_take hr (by decide) (by rfl) (pa_cons (pv 0) (pa_cons pe_int pa_nil))) (fun _ _ => rfl)) pa_nil)))))
    (pss_one (ps_ret (pe_lst (pa_cons (pv 5) (pa_cons (pv 4) (pa_cons (pe_ix ix_list (pe_lst (pa_cons pe_int (pa_cons pe_int (pa_cons pe_int (pa_cons pe_int pa_nil))))) (pcal c__law_take hr (by decide) (by rfl) (pa_cons (pv 0) (pa_cons pe_int pa_nil))) (fun _ _ => rfl)) pa_nil)))))))), ?_⟩
    refine ⟨_, rfl, _, rfl, _, rfl, _, rfl, _, rfl, _, _, rfl, rfl, _, _, rfl, rfl, x, 5, rfl, by decide, by decide, hx, fun d1 a1 a2 a3 h0 h5 => ?_⟩
    have st1 := (Stb.refl sB hx).trans hx (Stb.put (a := a1) (b := a2) (c := a3) sB nB)
    obtain ⟨n1, rfl⟩ := Int.eq_ofNat_of_zero_le h0
    refine ⟨_, _, rfl, rfl, B, x, n1, (show [V.ref x, V.int ((0 : Int) + (n1 : Nat))] = _ by rw [Int.zero_add]), by omega, st1.bh, nB, st1.box, fun na ws B2 H2 st2 hna hws hwl hwok hwn => ?_⟩
    have st2 := st1.trans hx st2
    have nB2 := st2.nx hx nB
    refine ⟨_, rfl, _, rfl, x, 4, rfl, by decide, by decide, st2.box, fun d2 b1 b2 b3 h20 h24 => ?_⟩
    have st3 := st2.trans hx (Stb.put (a := b1) (b := b2) (c := b3) st2.bh nB2)
    obtain ⟨n2, rfl⟩ := Int.eq_ofNat_of_zero_le h20
    refine ⟨_, _, rfl, rfl, B2, x, 2 + n2, by congr 3, by omega, st3.bh, nB2, st3.box, fun aa as B4 H4 st4 haa has hal haok han => ?_⟩
    have st4' := st4
    have st4 := st3.trans hx st4
    have nB4 := st4.nx hx nB
    have hws4 := st4'.bb _ _ hws
    refine ⟨_, _, rfl, ?_⟩
    have xD : ∀ {D : Addr}, H4 D = none → D ≠ x := fun {D} h => by
      obtain ⟨o, e⟩ := st4.box.some
      exact Ne.symm (ne_of_none e h)
    refine ⟨_, rfl, na, rfl, ⟨_, SqL.of (st4.bh _ _ hws4)⟩, fun D hD => ?_⟩
    have Dx := xD hD
    refine lc_it (walk_list (xs := ws.map V.str)) (fun i H' => ∃ B' fxs fs, Stb x B4 H4 B' H' ∧ B' D = none ∧ H' D = some (.lst fxs) ∧ Paired (FiA K B') fxs fs ∧ fs.map (·.1) = ws.take i ∧ ∀ f ∈ fs, f.2 = "word" ∨ f.2 = "number")
      ⟨B4, [], [], (Stb.refl st4.bh st4.box).own st4.box hD (st4.bh.free hD), st4.bh.free hD, upd_same, .nil, rfl, fun f h => by simp at h⟩ (fun i H' _ ⟨_, _, _, st, _⟩ => SqL.of (st.bh _ _ (st.bb _ _ hws4))) ?_ ?_
    · rintro i z H5 H6 hi ⟨B5, fxs, fs, st5, nD5, hfxs, hF, hnm, hso⟩ ⟨rfl, hv⟩
      obtain ⟨wd, hwd, rfl⟩ := at_strs hv
      have nB5 := st5.nx st4.box nB4
      refine ⟨rfl, yesT (iteT ?_)⟩
      refine ⟨_, rfl, (show 2 ≤ sizeLine by decide), fun l hl => ?_⟩
      have Dl : D ≠ l := ne_of_none hfxs hl
      have lx : l ≠ x := xD (st5.free st4.box hl)
      have st6 := st5.trans st4.box (Stb.of st5.box (Step.tmp (o := .lst [.str "word", .str "number"]) st5.bh hl))
      refine ⟨_, rfl, x, 2, rfl, by decide, by decide, st6.box, fun e c1 c2 c3 he0 he2 => ?_⟩
      have st7 := st6.trans st4.box (Stb.put (a := c1) (b := c2) (c := c3) st6.bh nB5)
      obtain ⟨en, rfl⟩ := Int.eq_ofNat_of_zero_le he0
      obtain ⟨so, hso1, hso2⟩ : ∃ so : Str, ([.str "word", .str "number"] : List V)[en]? = some (.str so) ∧ (so = "word" ∨ so = "number") := by
        match en, he2 with
        | 0, _ => exact ⟨"word", rfl, .inl rfl⟩
        | 1, _ => exact ⟨"number", rfl, .inr rfl⟩
        | n + 2, h => omega
      refine ⟨l, _, _, _, rfl, rfl, SqL.of (by rw [upd_ne lx, upd_same]), atI_nat hso1, (show 2 ≤ sizeLine by decide), fun T1 hT1 => ?_⟩
      have hfx7 : (upd (upd H6 l (.lst [.str "word", .str "number"])) x (.lst [.int c1, .int c2, .int c3])) D = some (.lst fxs) := by
        rw [upd_ne Dx, upd_ne Dl]
        exact hfxs
      have DT : D ≠ T1 := ne_of_none hfx7 hT1
      have b1 := Step.new (o := .tup [.str wd, .str so]) st7.bh hT1
      have st8 := st7.trans st4.box (Stb.of st7.box b1)
      have nD8 : (upd B5 T1 (.tup [.str wd, .str so])) D = none := by rw [upd_ne DT]; exact nD5
      refine ⟨fxs, by rw [upd_ne DT]; exact hfx7, ?_, _, _, fs ++ [(wd, so)], st8.own st4.box hD nD8, nD8, upd_same, paired_app (paired_mono FiA.mono b1.bb hF) (.cons ⟨T1, rfl, .inl (.inl upd_same)⟩ .nil), ?_, fun f hf => ?_⟩
      · rw [hF.length]
        have h1 := congrArg List.length hnm
        rw [List.length_map, List.length_take] at h1
        have : 60 < sizeLine := by decide
        omega
      · rw [List.map_append, hnm, take_succ_of hwd]
        rfl
      · rcases List.mem_append.mp hf with h | h
        · exact hso f h
        · rw [List.mem_singleton.mp h]
          exact hso2
    · rintro H5 ⟨B5, fxs, fs, st5, nD5, hfxs, hF, hnm, hso⟩
      rw [List.length_map, List.take_length] at hnm
      have st5' := st4.trans hx st5
      have nB5 := st5'.nx hx nB
      have DH : H D = none := st4.free hx hD
      have has5 := st5.bb _ _ has
      refine ⟨_, rfl, _, rfl, (show 4 ≤ sizeLine by decide), fun l hl => ?_⟩
      have Dl : D ≠ l := ne_of_none hfxs hl
      have lx : l ≠ x := xD (st5.free st4.box hl)
      have st6 := st5'.trans hx (Stb.of st5'.box (Step.tmp (o := .lst [.int 1, .int 0, .int 2, .int 1]) st5'.bh hl))
      refine ⟨_, rfl, x, 4, rfl, by decide, by decide, st6.box, fun e c1 c2 c3 he0 he4 => ?_⟩
      have st7 := st6.trans hx (Stb.put (a := c1) (b := c2) (c := c3) st6.bh nB5)
      obtain ⟨en, rfl⟩ := Int.eq_ofNat_of_zero_le he0
      obtain ⟨wi, hwi1, hwi2, hwi3⟩ : ∃ wi : Int, ([.int 1, .int 0, .int 2, .int 1] : List V)[en]? = some (.int wi) ∧ 0 ≤ wi ∧ wi ≤ 2 := by
        match en, he4 with
        | 0, _ => exact ⟨1, rfl, by decide, by decide⟩
        | 1, _ => exact ⟨0, rfl, by decide, by decide⟩
        | 2, _ => exact ⟨2, rfl, by decide, by decide⟩
        | 3, _ => exact ⟨1, rfl, by decide, by decide⟩
        | n + 4, h => omega
      refine ⟨l, _, _, _, rfl, rfl, SqL.of (by rw [upd_ne lx, upd_same]), atI_nat hwi1, (show 3 ≤ sizeLine by decide), fun q hq => ?_⟩
      have hfx7 : (upd (upd H5 l (.lst [.int 1, .int 0, .int 2, .int 1])) x (.lst [.int c1, .int c2, .int c3])) D = some (.lst fxs) := by
        rw [upd_ne Dx, upd_ne Dl]
        exact hfxs
      have Dq : D ≠ q := ne_of_none hfx7 hq
      have st8 := (st7.frz hx DH hfx7)
      have b1 := Step.new (o := .lst [.ref D, .ref aa, .int wi]) st8.bh hq
      have st9 := st8.trans hx (Stb.of st8.box b1)
      have na5 : aa ≠ D := ne_of_none has5 nD5
      have naq : aa ≠ q := ne_of_none (st8.bh _ _ (by rw [upd_ne na5]; exact has5)) hq
      refine k (.ref q) ⟨fs, as, wi⟩ _ _ st9 ⟨q, D, fxs, aa, rfl, upd_same, by rw [upd_ne Dq, upd_same], paired_mono FiA.mono (fun b o e => ?_) hF, by rw [upd_ne naq, upd_ne na5]; exact has5⟩ ⟨⟨?_, fun f hf => ⟨?_, hso f hf⟩, ?_⟩, ⟨(show 2 ≤ as.length by omega), (show as.length ≤ 5 by omega), haok, han⟩, hwi2, hwi3⟩
      · exact b1.bb _ _ (by rw [upd_ne (ne_of_none e nD5)]; exact e)
      · have h1 := congrArg List.length hnm
        rw [List.length_map] at h1
        show fs.length ≤ 4
        omega
      · have : f.1 ∈ ws := by
          rw [← hnm]
          exact List.mem_map_of_mem hf
        exact hwok _ this
      · show (fs.map (·.1)).Nodup
        rw [hnm]
        exact hwn
end
end K5
set_option Elab.async false
set_option linter.all false
set_option maxRecDepth 100000
set_option maxHeartbeats 2000000
namespace K5
open PySem PySem.Spec PyProof.Rows L2
abbrev N__law_pools : List Str := ["_law_box_here", "_law_fields", "_law_found", "_law_words_here", "_law_name", "_law_sort"]
abbrev P__law_pools : List Str := ["_law_box_here", "_law_fields"]
theorem sc__law_pools : FnScope N__law_pools P__law_pools (defScope s__law_pools) := ⟨rfl, rfl, rfl, by decide +kernel, rfl, by decide +kernel, by decide +kernel⟩
abbrev N__law_test : List Str := ["_law_box_here", "_law_fields", "_law_pools_here", "_law_at", "_law_name", "_law_sort"]
abbrev P__law_test : List Str := ["_law_box_here", "_law_fields", "_law_pools_here"]
theorem sc__law_test : FnScope N__law_test P__law_test (defScope s__law_test) := ⟨rfl, rfl, rfl, by decide +kernel, rfl, by decide +kernel, by decide +kernel⟩
abbrev N__law_rules : List Str := ["_law_box_here", "_law_shape", "_law_pools_here", "_law_many", "_law_fields", "_law_answers", "_law_wide", "_law_found", "_law_turn", "_law_tests", "_law_place"]
abbrev P__law_rules : List Str := ["_law_box_here", "_law_shape", "_law_pools_here", "_law_many"]
theorem sc__law_rules : FnScope N__law_rules P__law_rules (defScope s__law_rules) := ⟨rfl, rfl, rfl, by decide +kernel, rfl, by decide +kernel, by decide +kernel⟩
abbrev N__law_scene : List Str := ["_law_box_here", "_law_most", "_law_fields", "_law_answers", "_law_wide", "_law_pools_here", "_law_pool"]
abbrev P__law_scene : List Str := ["_law_box_here", "_law_most"]
theorem sc__law_scene : FnScope N__law_scene P__law_scene (defScope s__law_scene) := ⟨rfl, rfl, rfl, by decide +kernel, rfl, by decide +kernel, by decide +kernel⟩
structure PoolOk (m : List V) (f : Str × Str) : Prop where
  pos : 1 ≤ m.length
  few : m.length ≤ 5
  ok : ∀ v ∈ m, ValOk f.2 v
def sp_pools (K : PySem.W.Frag) : Sp := fun vs H Q _ => ∃ B x fv k, vs = [.ref x, fv] ∧ Same B H ∧ B x = none ∧ Box x H ∧ LiA FiA K B fv k.fields ∧ KndOk k ∧
  ∀ (a : Addr) (ys : List V) (ps : List (List V)) (B' H' : Hp), Stb x B H B' H' → H a = none → B' a = some (.lst ys) → Paired (LvA K B') ys ps → Paired PoolOk ps k.fields → Q (.ref a) H'
def sp_test (K : PySem.W.Frag) : Sp := fun vs H Q _ => ∃ B x fv k pa ys ps, vs = [.ref x, fv, .ref pa] ∧ Same B H ∧ B x = none ∧ Box x H ∧ LiA FiA K B fv k.fields ∧ KndOk k ∧ 1 ≤ k.fields.length ∧ B pa = some (.lst ys) ∧ Paired (LvA K B) ys ps ∧ Paired PoolOk ps k.fields ∧
  ∀ (v : V) (t : Tst) (B' H' : Hp), Stb x B H B' H' → TsA K B' v t → TstOk k t → Q v H'
section
variable {P : Program} {w : World} {K : PySem.W.Frag} {mg : Str → Option Value} {base : Heap}
theorem ok_pools (T : Top K mg) (c__law_take : Cal P w K mg base CX0 1 "_law_take" sp_take) (c__law_words : Cal P w K mg base CX0 2 "_law_words" (sp_words K)) (c__law_numbers : Cal P w K mg base CX0 2 "_law_numbers" (sp_numbers K)) : Cal P w K mg base CX0 3 "_law_pools" (sp_pools K) := by
  have nd := sc__law_pools.nd
  refine cal_of (ps := P__law_pools) T.d__law_pools (fun _ _ _ _ _ _ us hl => match us, hl with | [_, _], _ => rfl) sc__law_pools (fun vs H Q E h => ?_) (fun f cdv A outer s H vs Q E hr h => ?_)
  · obtain ⟨B, x, fv, k, rfl, _⟩ := h
    rfl
  · obtain ⟨B, x, fv, kn, rfl, sB, nB, hx, ⟨lf, fxs, rfl, hF, hFP⟩, kok, k⟩ := h
    refine ⟨_, (pss_cons (ps_par (i := 2) (j := 3) (by rfl) nd rfl rfl (by decide) rfl rfl (pa_cons (pe_lst pa_nil) (pa_cons (pe_lst pa_nil) pa_nil)) (by rfl))
    (pss_cons (ps_for PassesOwn.never rfl (pi_list (pv 1)) (pg_tup rfl (pgs_cons (pg_name (i := 4) nd rfl (by first | exact Or.inl rfl | exact Or.inr rfl)) (pgs_cons (pg_name (i := 5) nd rfl (by first | exact Or.inl rfl | exact Or.inr rfl)) pgs_nil))) (pss_cons (ps_if (PW.pt (pw_and (pt_cmpR op_eq (pv 5) pe_str (nomark _)) (pw_and1 (PW.pt (pw_or (pt_cmpR (op_eqD (roomE hr)) (pv 3) (pe_lst pa_nil) (nomark _)) (pw_or1 (pt_cmpR op_gt (pcal c__law_take hr (by decide) (by rfl) (pa_cons (pv 0) (pa_cons pe_int pa_nil))) pe_int (nomark _)))))))) (pss_one (ps_set (i := 3) nd rfl (by first | exact Or.inl rfl | exact Or.inr rfl) (pcal c__law_words hr (by decide) (by rfl) (pa_cons (pv 0) (pa_cons (pe_op op_add pe_int (pcal c__law_take hr (by decide) (by rfl) (pa_cons (pv 0) (pa_cons pe_int pa_nil)))) pa_nil))))) pss_nil)
    (pss_one (ps_expr (pe_bm PySem.F.plainAttrs_list PySem.F.slot_list_append PySem.F.type_list_append mt_append (pv 2) (pa_cons (pe_ifExp (pt_cmpR op_eq (pv 5) pe_str (nomark _)) (pcal c__law_numbers hr (by decide) (by rfl) (pa_cons (pv 0) pa_nil)) (pe_revL (pv 3))) pa_nil))))))
    (pss_one (ps_ret (pv 2))))), ?_⟩
    have xD : ∀ {D : Addr}, H D = none → D ≠ x := fun {D} h => by
      obtain ⟨o, e⟩ := hx.some
      exact Ne.symm (ne_of_none e h)
    refine ⟨by decide, fun D hD => ⟨by decide, fun w0 hw0 => ⟨_, _, rfl, ?_⟩⟩⟩
    have Dx := xD hD
    have nBD : B D = none := sB.free hD
    have Dw : D ≠ w0 := ne_of_none upd_same hw0
    have st1 := (Stb.refl sB hx).trans hx (Stb.of hx (Step.tmp (o := .lst []) sB hD))
    have st2 := st1.trans hx (Stb.of st1.box (Step.tmp (o := .lst []) st1.bh hw0))
    have w0H : H w0 = none := st1.free hx hw0
    refine ⟨_, rfl, lf, rfl, ⟨_, st2.bh.seq hF⟩, ?_⟩
    refine for_it (walk_list (xs := fxs)) (fun i σ H' => ∃ wh v4 v5, σ = [some (.ref x), some (.ref lf), some (.ref D), some (.ref wh), v4, v5] ∧ ∃ B' ys ps ws, Stb x B H B' H' ∧ B' D = none ∧ H' D = some (.lst ys) ∧ Paired (LvA K B') ys ps ∧ Paired PoolOk ps (kn.fields.take i) ∧
      H' wh = some (.lst ((ws : List Str).map V.str)) ∧ (∀ z ∈ ws, WordOk z) ∧ ws.length ≤ 5 ∧ wh ≠ D ∧ wh ≠ x)
      ⟨w0, _, _, rfl, B, [], [], [], st2, nBD, by rw [upd_ne Dw, upd_same], .nil, .nil, upd_same, fun z h => by simp at h, by decide, Ne.symm Dw, xD w0H⟩ (fun i σ H' _ ⟨_, _, _, _, _, _, _, _, st, _⟩ => (st.bb.trans st.bh).seq hF) ?_ ?_
    · rintro i z σ H3 H4 hi ⟨wh, v4, v5, rfl, B3, ys, ps, ws, st, nD, hys, hY, hPO, hwh, hwok, hwl, whD, whx⟩ ⟨rfl, hv0⟩
      obtain ⟨⟨n, so⟩, hf, a, rfl, hT⟩ := paired_at hFP hv0
      have hfm := List.mem_of_getElem? hf
      have hi4 : i < 4 := by
        have := kok.fs.1
        have := hFP.length
        omega
      refine ⟨a, _, rfl, same_tup (st.bb.trans st.bh) hT, rfl, _, _, rfl, _, _, rfl, rfl, ?_⟩
      have app : ∀ (wh : Addr) (ws : List Str) (B5 H5 : Hp) (Dd : Ends), Stb x B H B5 H5 → B5 D = none → H5 D = some (.lst ys) → Paired (LvA K B5) ys ps → H5 wh = some (.lst (ws.map V.str)) → (∀ z ∈ ws, WordOk z) → ws.length ≤ 5 → wh ≠ D → wh ≠ x → (so = "word" → 1 ≤ ws.length) →
          (∀ σ H', (∃ wh v4 v5, σ = [some (.ref x), some (.ref lf), some (.ref D), some (.ref wh), v4, v5] ∧ ∃ B' ys ps ws, Stb x B H B' H' ∧ B' D = none ∧ H' D = some (.lst ys) ∧ Paired (LvA K B') ys ps ∧ Paired PoolOk ps (kn.fields.take (i + 1)) ∧
            H' wh = some (.lst ((ws : List Str).map V.str)) ∧ (∀ z ∈ ws, WordOk z) ∧ ws.length ≤ 5 ∧ wh ≠ D ∧ wh ≠ x) → Dd.nx σ H') →
          tDrop (tBM K "list" rAppend (tVar 2) (tCons (tIf (tTest (tOp rEq (tVar 5) (tC (.str "number")))) (tCall (sp_numbers K) [] E0 (tCons (tVar 0) tNil)) (tRevL K (tVar 3))) tNil)) Dd
            [some (.ref x), some (.ref lf), some (.ref D), some (.ref wh), some (.str n), some (.str so)] H5 := fun wh ws B5 H5 Dd st5 nD5 hys5 hY5 hwh5 hwok hwl whD whx hne nx => by
        have nB5 := st5.nx hx nB
        have small : ys.length < sizeLine := by
          rw [hY5.length, hPO.length, List.length_take]
          have : 60 < sizeLine := by decide
          omega
        have fin : ∀ (p : Addr) (m : List V) (B6 H6 : Hp), Stb x B H B6 H6 → B6 D = none → H6 D = some (.lst ys) → Paired (LvA K B6) ys ps → H6 wh = some (.lst (ws.map V.str)) → B6 p = some (.lst m) → PoolOk m (n, so) →
            Dd.nx [some (.ref x), some (.ref lf), some (.ref D), some (.ref wh), some (.str n), some (.str so)] (upd H6 D (.lst (ys ++ [.ref p]))) := fun p m B6 H6 st6 nD6 hys6 hY6 hwh6 hp6 hm => by
          refine nx _ _ ⟨wh, _, _, rfl, B6, ys ++ [.ref p], ps ++ [m], ws, st6.own hx hD nD6, nD6, upd_same, paired_app hY6 (.cons ⟨p, rfl, SqL.of hp6⟩ .nil), ?_, ?_, hwok, hwl, whD, whx⟩
          · rw [take_succ_of hf]
            exact paired_app hPO (.cons hm .nil)
          · rw [upd_ne whD]
            exact hwh6
        rcases (kok.fs.2.1 _ hfm).2 with e | e
        · obtain rfl : so = "word" := e
          refine ⟨_, rfl, .inl ⟨rfl, _, SqL.of hys5⟩, _, rfl, rfl, _, rfl, iteF ⟨_, rfl, wh, _, rfl, SqL.of hwh5, fun p hp => ?_⟩⟩
          have b1 := Step.new (o := .lst ((ws.map V.str).reverse)) st5.bh hp
          have dp : D ≠ p := ne_of_none hys5 hp
          have wp : wh ≠ p := ne_of_none hwh5 hp
          have hys6 : (upd H5 p (.lst ((ws.map V.str).reverse))) D = some (.lst ys) := by rw [upd_ne dp]; exact hys5
          refine ⟨D, ys, _, rfl, rfl, hys6, small, fin p _ _ _ (st5.trans hx (Stb.of st5.box b1)) (by rw [upd_ne dp]; exact nD5) hys6 (paired_mono LvA.mono b1.bb hY5) (by rw [upd_ne wp]; exact hwh5) upd_same ⟨?_, ?_, fun v hv => ?_⟩⟩
          · rw [List.length_reverse, List.length_map]
            exact hne rfl
          · rw [List.length_reverse, List.length_map]
            exact hwl
          · obtain ⟨y, hy, rfl⟩ := List.mem_map.mp (List.mem_reverse.mp hv)
            exact .inl ⟨rfl, y, rfl, hwok y hy⟩
        · obtain rfl : so = "number" := e
          refine ⟨_, rfl, .inl ⟨rfl, _, SqL.of hys5⟩, _, rfl, rfl, _, rfl, iteT ⟨_, rfl, B5, x, rfl, st5.bh, nB5, st5.box, fun p ns B6 H6 st6 hp hns h1 h4 hok => ?_⟩⟩
          have hys6 := st6.hh _ _ Dx hys5
          refine ⟨D, ys, _, rfl, rfl, hys6, small, fin p _ _ _ (st5.trans hx st6) ((st6.fr _ _ hys5).trans nD5) hys6 (paired_mono LvA.mono st6.bb hY5) (st6.hh _ _ whx hwh5) hns ⟨by rw [List.length_map]; exact h1, by rw [List.length_map]; omega, fun v hv => ?_⟩⟩
          obtain ⟨y, hy, rfl⟩ := List.mem_map.mp hv
          exact .inr ⟨rfl, y, rfl, hok y hy⟩
      have asg : ∀ (H5 : Hp) (Dd : Ends), Stb x B H B3 H5 → H5 D = some (.lst ys) →
          (∀ σ H', (∃ wh v4 v5, σ = [some (.ref x), some (.ref lf), some (.ref D), some (.ref wh), v4, v5] ∧ ∃ B' ys ps ws, Stb x B H B' H' ∧ B' D = none ∧ H' D = some (.lst ys) ∧ Paired (LvA K B') ys ps ∧ Paired PoolOk ps (kn.fields.take (i + 1)) ∧
            H' wh = some (.lst ((ws : List Str).map V.str)) ∧ (∀ z ∈ ws, WordOk z) ∧ ws.length ≤ 5 ∧ wh ≠ D ∧ wh ≠ x) → Dd.nx σ H') →
          tSeq (tAsg (tCall (sp_words K) [] E0 (tCons (tVar 0) (tCons (tOp (rI0 fun i j => V.int (i + j)) (tC (.int 1)) (tCall sp_take [] E0 (tCons (tVar 0) (tCons (tC (.int 4)) tNil)))) tNil))) (gName 3))
            (tDrop (tBM K "list" rAppend (tVar 2) (tCons (tIf (tTest (tOp rEq (tVar 5) (tC (.str "number")))) (tCall (sp_numbers K) [] E0 (tCons (tVar 0) tNil)) (tRevL K (tVar 3))) tNil))) Dd
            [some (.ref x), some (.ref lf), some (.ref D), some (.ref wh), some (.str n), some (.str so)] H5 := fun H5 Dd st5 hys5 nx => by
        have nB3 := st5.nx hx nB
        refine ⟨_, rfl, _, rfl, x, 4, rfl, by decide, by decide, st5.box, fun d b1 b2 b3 h0 h4 => ?_⟩
        have st6 := st5.trans hx (Stb.put (a := b1) (b := b2) (c := b3) st5.bh nB3)
        obtain ⟨dn, rfl⟩ := Int.eq_ofNat_of_zero_le h0
        refine ⟨_, _, rfl, rfl, B3, x, 1 + dn, by congr 3, by omega, st6.bh, nB3, st6.box, fun a2 ws2 B7 H7 st7 ha2 hws2 hl2 hok2 _ => ?_⟩
        have hys6 : (upd H5 x (.lst [.int b1, .int b2, .int b3])) D = some (.lst ys) := by rw [upd_ne Dx]; exact hys5
        have a2D : a2 ≠ D := fun e => by rw [e, hys6] at ha2; cases ha2
        exact app a2 ws2 B7 H7 Dd (st6.trans hx st7) ((st7.fr _ _ hys6).trans nD) (st7.hh _ _ Dx hys6) (paired_mono LvA.mono st7.bb hY) (st7.bh _ _ hws2) hok2 (by omega) a2D (xD (st6.free hx ha2)) (fun _ => by omega) nx
      by_cases hw : so = "word"
      · refine ⟨_, rfl, rfl, _, rfl, ?_⟩
        rw [decide_eq_true (show V.str so = V.str "word" by rw [hw])]
        refine iteT ⟨_, rfl, by decide, fun e0 he0 => ?_⟩
        have De : D ≠ e0 := ne_of_none hys he0
        have We : wh ≠ e0 := ne_of_none hwh he0
        have st5 := st.trans hx (Stb.of st.box (Step.tmp (o := .lst []) st.bh he0))
        have hys5 : (upd H4 e0 (.lst [])) D = some (.lst ys) := by rw [upd_ne De]; exact hys
        have hwh5 : (upd H4 e0 (.lst [])) wh = some (.lst (ws.map V.str)) := by rw [upd_ne We]; exact hwh
        refine ⟨_, .list [], .lst (SqL.of hwh5) (dp_strs ws), .lst (SqL.of upd_same) .nil, ?_, by decide +kernel, ?_⟩
        · exact shaped_list (d := PyData.str) (n := 0) (fun y hy => word_lay (hwok y hy)) (fun y _ => Nat.le_refl _) (by decide)
        rw [eqv_nil, List.isEmpty_map]
        refine ⟨_, rfl, ?_⟩
        cases hemp : ws.isEmpty with
        | true => exact iteT (asg _ _ st5 hys5 fun σ H' h => h)
        | false =>
          have hne : 1 ≤ ws.length := by
            cases ws with
            | nil => cases hemp
            | cons y l => simp
          refine iteF ⟨_, rfl, x, 3, rfl, by decide, by decide, st5.box, fun t b1 b2 b3 ht0 ht3 => ⟨_, _, rfl, rfl, _, rfl, ?_⟩⟩
          have st6 := st5.trans hx (Stb.put (a := b1) (b := b2) (c := b3) st5.bh (st5.nx hx nB))
          have hys6 : (upd (upd H4 e0 (.lst [])) x (.lst [.int b1, .int b2, .int b3])) D = some (.lst ys) := by rw [upd_ne Dx]; exact hys5
          have hwh6 : (upd (upd H4 e0 (.lst [])) x (.lst [.int b1, .int b2, .int b3])) wh = some (.lst (ws.map V.str)) := by rw [upd_ne whx]; exact hwh5
          by_cases h0 : 0 < t
          · rw [decide_eq_true h0]
            exact iteT (asg _ _ st6 hys6 fun σ H' h => h)
          · rw [decide_eq_false h0]
            exact iteF (app wh ws B3 _ _ st6 nD hys6 hY hwh6 hwok hwl whD whx (fun _ => hne) fun σ H' h => h)
      · refine ⟨_, rfl, rfl, _, rfl, ?_⟩
        rw [decide_eq_false (show ¬ V.str so = V.str "word" from fun z => hw (V.str.inj z))]
        exact iteF (app wh ws B3 _ _ st nD hys hY hwh hwok hwl whD whx (fun z => absurd z hw) fun σ H' h => h)
    · rintro σ H3 ⟨wh, v4, v5, rfl, B3, ys, ps, ws, st, nD, hys, hY, hPO, hwh, hwok, hwl, whD, whx⟩
      rw [hFP.length, List.take_length] at hPO
      have stf := st.frz hx hD hys
      exact ⟨_, rfl, k D ys ps _ H3 stf hD upd_same (paired_mono LvA.mono (fun b o e => by rw [upd_ne (ne_of_none e nD)]; exact e) hY) hPO⟩
theorem ok_test (T : Top K mg) (c__law_take : Cal P w K mg base CX0 1 "_law_take" sp_take) : Cal P w K mg base CX0 2 "_law_test" (sp_test K) := by
  have nd := sc__law_test.nd
  refine cal_of (ps := P__law_test) T.d__law_test (fun _ _ _ _ _ _ us hl => match us, hl with | [_, _, _], _ => rfl) sc__law_test (fun vs H Q E h => ?_) (fun f cdv A outer s H vs Q E hr h => ?_)
  · obtain ⟨B, x, fv, k, pa, ys, ps, rfl, _⟩ := h
    rfl
  · obtain ⟨B, x, fv, kn, pa, ys, ps, rfl, sB, nB, hx, ⟨lf, fxs, rfl, hF, hFP⟩, kok, h1, hpa, hY, hPO, k⟩ := h
    refine ⟨_, (pss_cons (ps_set (i := 3) nd rfl (by first | exact Or.inl rfl | exact Or.inr rfl) (pcal c__law_take hr (by decide) (by rfl) (pa_cons (pv 0) (pa_cons (pe_callB call_len_seq (by rfl) T.f_len (by decide +kernel) (pa_cons (pv 1) pa_nil)) pa_nil))))
    (pss_cons (ps_asg (pe_ix ix_list (pv 1) (pv 3) (fun _ _ => rfl)) (pg_tup rfl (pgs_cons (pg_name (i := 4) nd rfl (by first | exact Or.inl rfl | exact Or.inr rfl)) (pgs_cons (pg_name (i := 5) nd rfl (by first | exact Or.inl rfl | exact Or.inr rfl)) pgs_nil))))
    (pss_one (ps_ret (pe_tup (pa_cons (pv 4) (pa_cons (pe_ix ix_list (pe_ix ix_list (pe_lst (pa_cons (pe_lst (pa_cons pe_str (pa_cons pe_str pa_nil))) (pa_cons (pe_lst (pa_cons pe_str (pa_cons pe_str pa_nil))) pa_nil))) (pe_callTy call_int1 (by rfl) T.f_int (by decide +kernel) (pa_cons (pe_cmpR op_eq (pv 5) pe_str (nomark _)) pa_nil)) (fun _ _ => rfl)) (pcal c__law_take hr (by decide) (by rfl) (pa_cons (pv 0) (pa_cons pe_int pa_nil))) (fun _ _ => rfl)) (pa_cons (pe_ix ix_list (pe_ix ix_list (pv 2) (pv 3) (fun _ _ => rfl)) (pcal c__law_take hr (by decide) (by rfl) (pa_cons (pv 0) (pa_cons (pe_callB call_len_seq (by rfl) T.f_len (by decide +kernel) (pa_cons (pe_ix ix_list (pv 2) (pv 3) (fun _ _ => rfl)) pa_nil)) pa_nil))) (fun _ _ => rfl)) pa_nil)))))))), ?_⟩
    have hl := hFP.length
    have hlp := hPO.length
    have hly := hY.length
    have h4 := kok.fs.1
    have xD : ∀ {D : Addr}, H D = none → D ≠ x := fun {D} h => by
      obtain ⟨o, e⟩ := hx.some
      exact Ne.symm (ne_of_none e h)
    have lfx : lf ≠ x ∨ True := .inr trivial
    refine ⟨_, rfl, _, rfl, lf, fxs, rfl, .inl (sB.seq hF), x, _, rfl, (show (1 : Int) ≤ (fxs.length : Int) by omega), (show (fxs.length : Int) ≤ 1000000 by omega), hx, fun d a1 a2 a3 h0 hd => ?_⟩
    have st1 := (Stb.refl sB hx).trans hx (Stb.put (a := a1) (b := a2) (c := a3) sB nB)
    obtain ⟨j, rfl⟩ := Int.eq_ofNat_of_zero_le h0
    have hj : j < fxs.length := by omega
    have hv0 : fxs[j]? = some fxs[j] := List.getElem?_eq_getElem hj
    obtain ⟨⟨n, so⟩, hf, a, ea, hT⟩ := paired_at hFP hv0
    have hfm := List.mem_of_getElem? hf
    have hjy : j < ys.length := by omega
    have hy0 : ys[j]? = some ys[j] := List.getElem?_eq_getElem hjy
    obtain ⟨m, hm, b, eb, hb⟩ := paired_at hY hy0
    obtain ⟨f', hf', pok⟩ := paired_at hPO hm
    rw [hf] at hf'
    obtain rfl := Option.some.inj hf'
    rw [ea] at hv0
    rw [eb] at hy0
    refine ⟨_, rfl, _, rfl, lf, fxs, _, _, rfl, rfl, st1.bh.seq hF, atI_nat hv0, a, _, rfl, same_tup st1.bh hT, rfl, _, _, rfl, _, _, rfl, rfl, ?_⟩
    refine ⟨_, rfl, (show 2 ≤ sizeLine by decide), fun l1 hl1 => ⟨(show 2 ≤ sizeLine by decide), fun l2 hl2 => ⟨(show 2 ≤ sizeLine by decide), fun l3 hl3 => ?_⟩⟩⟩
    have st2 := st1.trans hx (Stb.of st1.box (Step.tmp (o := .lst [.str "is", .str "not"]) st1.bh hl1))
    have st3 := st2.trans hx (Stb.of st2.box (Step.tmp (o := .lst [.str "most", .str "least"]) st2.bh hl2))
    have st4 := st3.trans hx (Stb.of st3.box (Step.tmp (o := .lst [.ref l1, .ref l2]) st3.bh hl3))
    have x1 : l1 ≠ x := xD (st1.free hx hl1)
    have x2 : l2 ≠ x := xD (st2.free hx hl2)
    have n12 : l1 ≠ l2 := ne_of_none upd_same hl2
    have n23 : l2 ≠ l3 := ne_of_none upd_same hl3
    have n13 : l1 ≠ l3 := ne_of_none (show (upd (upd (upd H x (.lst [.int a1, .int a2, .int a3])) l1 (.lst [.str "is", .str "not"])) l2 (.lst [.str "most", .str "least"])) l1 = some (.lst [.str "is", .str "not"]) by rw [upd_ne n12, upd_same]) hl3
    have e1 : (upd (upd (upd (upd H x (.lst [.int a1, .int a2, .int a3])) l1 (.lst [.str "is", .str "not"])) l2 (.lst [.str "most", .str "least"])) l3 (.lst [.ref l1, .ref l2])) l1 = some (.lst [.str "is", .str "not"]) := by rw [upd_ne n13, upd_ne n12, upd_same]
    have e2 : (upd (upd (upd (upd H x (.lst [.int a1, .int a2, .int a3])) l1 (.lst [.str "is", .str "not"])) l2 (.lst [.str "most", .str "least"])) l3 (.lst [.ref l1, .ref l2])) l2 = some (.lst [.str "most", .str "least"]) := by rw [upd_ne n23, upd_same]
    have e3 : (upd (upd (upd (upd H x (.lst [.int a1, .int a2, .int a3])) l1 (.lst [.str "is", .str "not"])) l2 (.lst [.str "most", .str "least"])) l3 (.lst [.ref l1, .ref l2])) l3 = some (.lst [.ref l1, .ref l2]) := upd_same
    generalize (upd (upd (upd (upd H x (.lst [.int a1, .int a2, .int a3])) l1 (.lst [.str "is", .str "not"])) l2 (.lst [.str "most", .str "least"])) l3 (.lst [.ref l1, .ref l2])) = H4 at st4 e1 e2 e3 ⊢
    -- the sign, then the value
    obtain ⟨li, sg1, sg2, hsel, hli, hlx, hsg⟩ : ∃ li sg1 sg2, atI [V.ref l1, V.ref l2] (if decide (V.str so = V.str "number") = true then 1 else 0) = some (.ref li) ∧ H4 li = some (.lst [.str sg1, .str sg2]) ∧ li ≠ x ∧ ((so = "word" ∧ sg1 = "is" ∧ sg2 = "not") ∨ (so = "number" ∧ sg1 = "most" ∧ sg2 = "least")) := by
      rcases (kok.fs.2.1 _ hfm).2 with e | e
      · obtain rfl : so = "word" := e
        exact ⟨l1, _, _, by rw [show decide (V.str ("word" : Str) = V.str "number") = false by decide +kernel]; rfl, e1, x1, .inl ⟨rfl, rfl, rfl⟩⟩
      · obtain rfl : so = "number" := e
        exact ⟨l2, _, _, by rw [show decide (V.str ("number" : Str) = V.str "number") = true by decide +kernel]; rfl, e2, x2, .inr ⟨rfl, rfl, rfl⟩⟩
    refine ⟨_, rfl, rfl, .inr ⟨_, rfl, l3, _, _, _, rfl, rfl, SqL.of e3, hsel, ?_⟩⟩
    refine ⟨_, rfl, x, 2, rfl, by decide, by decide, st4.box, fun e b1 b2 b3 he0 he2 => ?_⟩
    have st5 := st4.trans hx (Stb.put (a := b1) (b := b2) (c := b3) st4.bh nB)
    obtain ⟨en, rfl⟩ := Int.eq_ofNat_of_zero_le he0
    obtain ⟨sg, hsga, hsgo⟩ : ∃ sg, ([.str sg1, .str sg2] : List V)[en]? = some (.str sg) ∧ (sg = sg1 ∨ sg = sg2) := by
      match en, he2 with
      | 0, _ => exact ⟨sg1, rfl, .inl rfl⟩
      | 1, _ => exact ⟨sg2, rfl, .inr rfl⟩
      | n + 2, h => omega
    refine ⟨li, _, _, _, rfl, rfl, SqL.of (by rw [upd_ne hlx]; exact hli), atI_nat hsga, ?_⟩
    have hpa5 := st5.bh _ _ hpa
    refine ⟨_, rfl, _, rfl, pa, ys, _, _, rfl, rfl, SqL.of hpa5, atI_nat hy0, ?_⟩
    refine ⟨_, rfl, _, rfl, _, rfl, pa, ys, _, _, rfl, rfl, SqL.of hpa5, atI_nat hy0, b, m, rfl, .inl (st5.bh.seq hb), x, _, rfl, (show (1 : Int) ≤ (m.length : Int) by have := pok.pos; omega), (show (m.length : Int) ≤ 1000000 by have := pok.few; omega), st5.box, fun g c1 c2 c3 hg0 hg1 => ?_⟩
    have st6 := st5.trans hx (Stb.put (a := c1) (b := c2) (c := c3) st5.bh nB)
    obtain ⟨gn, rfl⟩ := Int.eq_ofNat_of_zero_le hg0
    have hgl : gn < m.length := by omega
    have hg : m[gn]? = some m[gn] := List.getElem?_eq_getElem hgl
    refine ⟨b, m, _, _, rfl, rfl, st6.bh.seq hb, atI_nat hg, (show 3 ≤ sizeLine by decide), fun T hT => ?_⟩
    have b1' := Step.new (o := .tup [.str n, .str sg, m[gn]]) st6.bh hT
    refine k (.ref T) (n, sg, m[gn]) _ _ (st6.trans hx (Stb.of st6.box b1')) ⟨T, rfl, .inl (.inl upd_same)⟩ ⟨so, hfm, pok.ok _ (List.getElem_mem hgl), ?_⟩
    rcases hsg with ⟨h1, h2, h3⟩ | ⟨h1, h2, h3⟩
    · refine .inl ⟨h1, ?_⟩
      rcases hsgo with h | h
      · exact .inl (h.trans h2)
      · exact .inr (h.trans h3)
    · refine .inr ⟨h1, ?_⟩
      rcases hsgo with h | h
      · exact .inl (h.trans h2)
      · exact .inr (h.trans h3)
end
end K5
set_option Elab.async false
set_option linter.all false
set_option maxRecDepth 100000
set_option maxHeartbeats 2000000
namespace K5
open PySem PySem.Spec PyProof.Rows L2
def sp_mrules (K : PySem.W.Frag) : Sp := fun vs H Q _ => ∃ B x sv k pa ys ps, ∃ m : Nat, vs = [.ref x, sv, .ref pa, .int m] ∧ m ≤ 5 ∧ Same B H ∧ B x = none ∧ Box x H ∧ ShA B K sv k ∧ KndOk k ∧ B pa = some (.lst ys) ∧ Paired (LvA K B) ys ps ∧ Paired PoolOk ps k.fields ∧
  ∀ (a : Addr) (xs : List V) (rs : List Rul) (B' H' : Hp), Stb x B H B' H' → H a = none → B' a = some (.lst xs) → Paired (RuA K B') xs rs → RulsOk k rs → rs.length = m + 1 → Q (.ref a) H'
def sp_scene (K : PySem.W.Frag) : Sp := fun vs H Q _ => ∃ B x, vs = [.ref x, .int 4] ∧ Same B H ∧ B x = none ∧ Box x H ∧
  ∀ q sv k kv pa ys ps B' H', Stb x B H B' H' → B' q = some (.lst [sv, .ref pa, kv]) → ShA B' K sv k → KndOk k → KdA K B' kv k → B' pa = some (.lst ys) → Paired (LvA K B') ys ps → Paired PoolOk ps k.fields → Q (.ref q) H'
section
variable {P : Program} {w : World} {K : PySem.W.Frag} {mg : Str → Option Value} {base : Heap}
theorem ok_mrules (T : Top K mg) (c__law_take : Cal P w K mg base CX0 1 "_law_take" sp_take) (c__law_test : Cal P w K mg base CX0 2 "_law_test" (sp_test K)) : Cal P w K mg base CX0 3 "_law_rules" (sp_mrules K) := by
  have nd := sc__law_rules.nd
  refine cal_of (ps := P__law_rules) T.d__law_rules (fun _ _ _ _ _ _ us hl => match us, hl with | [_, _, _, _], _ => rfl) sc__law_rules (fun vs H Q E h => ?_) (fun f cdv A outer s H vs Q E hr h => ?_)
  · obtain ⟨B, x, sv, k, pa, ys, ps, m, rfl, _⟩ := h
    rfl
  · obtain ⟨B, x, sv, kn, pa, ys, ps, m, rfl, hm, sB, nB, hx, ⟨shq, lf, fxs, la, rfl, hsh, hlf, hFP, hla⟩, kok, hpa, hY, hPO, k⟩ := h
    refine ⟨_, (pss_cons (ps_asg (pv 1) (pg_unl rfl (pgs_cons (pg_name (i := 4) nd rfl (by first | exact Or.inl rfl | exact Or.inr rfl)) (pgs_cons (pg_name (i := 5) nd rfl (by first | exact Or.inl rfl | exact Or.inr rfl)) (pgs_cons (pg_name (i := 6) nd rfl (by first | exact Or.inl rfl | exact Or.inr rfl)) pgs_nil)))))
    (pss_cons (ps_set (i := 7) nd rfl (by first | exact Or.inl rfl | exact Or.inr rfl) (pe_lst pa_nil))
    (pss_cons (ps_for PassesOwn.never rfl (pi_range1 (by rfl) T.f_range (pa_cons (pv 3) pa_nil)) (pg_name (i := 8) nd rfl (by first | exact Or.inl rfl | exact Or.inr rfl)) (pss_cons (ps_set (i := 9) nd rfl (by first | exact Or.inl rfl | exact Or.inr rfl) (pe_lst pa_nil))
    (pss_cons (ps_for PassesOwn.never rfl (pi_range1 (by rfl) T.f_range (pa_cons (pe_ifExp (pt_cmpR (op_neD (roomE hr)) (pv 4) (pe_lst pa_nil) (nomark _)) (pcal c__law_take hr (by decide) (by rfl) (pa_cons (pv 0) (pa_cons (pe_op op_add (pv 6) pe_int) pa_nil))) pe_int) pa_nil)) (pg_name (i := 10) nd rfl (by first | exact Or.inl rfl | exact Or.inr rfl)) (pss_one (ps_if (pt_cmpR op_lt (pe_callB call_len_seq (by rfl) T.f_len (by decide +kernel) (pa_cons (pv 9) pa_nil)) (pv 6) (nomark _)) (pss_one (ps_expr (pe_bm PySem.F.plainAttrs_list PySem.F.slot_list_append PySem.F.type_list_append mt_append (pv 9) (pa_cons (pcal c__law_test hr (by decide) (by rfl) (pa_cons (pv 0) (pa_cons (pv 4) (pa_cons (pv 2) pa_nil)))) pa_nil)))) pss_nil)))
    (pss_one (ps_expr (pe_bm PySem.F.plainAttrs_list PySem.F.slot_list_append PySem.F.type_list_append mt_append (pv 7) (pa_cons (pe_tup (pa_cons (pv 9) (pa_cons (pe_ix ix_list (pv 5) (pcal c__law_take hr (by decide) (by rfl) (pa_cons (pv 0) (pa_cons (pe_callB call_len_seq (by rfl) T.f_len (by decide +kernel) (pa_cons (pv 5) pa_nil)) pa_nil))) (fun _ _ => rfl)) pa_nil))) pa_nil)))))))
    (pss_one (ps_ret (pe_op op_cat (pv 7) (pe_lst (pa_cons (pe_tup (pa_cons (pe_lst pa_nil) (pa_cons (pe_ix ix_list (pv 5) (pcal c__law_take hr (by decide) (by rfl) (pa_cons (pv 0) (pa_cons (pe_callB call_len_seq (by rfl) T.f_len (by decide +kernel) (pa_cons (pv 5) pa_nil)) pa_nil))) (fun _ _ => rfl)) pa_nil))) pa_nil)))))))), ?_⟩
    have h4 := kok.fs.1
    refine ⟨_, rfl, shq, _, rfl, SqL.of (sB _ _ hsh), rfl, _, _, rfl, _, _, rfl, _, _, rfl, rfl, ?_⟩
    refine ⟨by decide, fun D hD => ?_⟩
    have DH := hD
    have xD : ∀ {D : Addr}, H D = none → D ≠ x := fun {D} h => by
      obtain ⟨o, e⟩ := hx.some
      exact Ne.symm (ne_of_none e h)
    have Dx := xD hD
    have nBD : B D = none := sB.free hD
    have st1 := (Stb.refl sB hx).trans hx (Stb.of hx (Step.tmp (o := .lst []) sB hD))
    refine ⟨_, rfl, _, rfl, by omega, by omega, ?_⟩
    refine for_it (walk_range (lo := 0) (n := m)) (fun i σ H' => ∃ v8 v9 v10, σ = [some (.ref x), some (.ref shq), some (.ref pa), some (.int (m : Nat)), some (.ref lf), some (.ref la), some (.int kn.width), some (.ref D), v8, v9, v10] ∧ ∃ B' xs rs, Stb x B H B' H' ∧ B' D = none ∧ H' D = some (.lst xs) ∧ Paired (RuA K B') xs rs ∧ rs.length = i ∧ ∀ r ∈ rs, RulOk kn r)
      ⟨_, _, _, rfl, B, [], [], st1, nBD, upd_same, .nil, rfl, fun r h => by simp at h⟩ (fun _ _ _ _ _ => trivial) ?_ ?_
    · rintro i z σ H2 H3 hi ⟨v8, v9, v10, rfl, B3, xs, rs, st3, nD, hDx, hX, hrl, hro⟩ ⟨rfl, rfl⟩
      refine ⟨by decide, fun t0 ht0 => ?_⟩
      have t0H : H t0 = none := st3.free hx ht0
      have t0x := xD t0H
      have nt0 : B3 t0 = none := st3.bh.free ht0
      have Dt : D ≠ t0 := ne_of_none hDx ht0
      have st4 := st3.trans hx (Stb.of st3.box (Step.tmp (o := .lst []) st3.bh ht0))
      have hD4 : (upd H3 t0 (.lst [])) D = some (.lst xs) := by rw [upd_ne Dt]; exact hDx
      have ht4 : (upd H3 t0 (.lst [])) t0 = some (.lst []) := upd_same
      generalize upd H3 t0 (.lst []) = H4 at st4 hD4 ht4 ⊢
      refine ⟨_, rfl, by decide, fun e0 he0 => ?_⟩
      have De : D ≠ e0 := ne_of_none hD4 he0
      have te : t0 ≠ e0 := ne_of_none ht4 he0
      have st5 := st4.trans hx (Stb.of st4.box (Step.tmp (o := .lst []) st4.bh he0))
      have hD5 : (upd H4 e0 (.lst [])) D = some (.lst xs) := by rw [upd_ne De]; exact hD4
      have ht5 : (upd H4 e0 (.lst [])) t0 = some (.lst []) := by rw [upd_ne te]; exact ht4
      have hlf5 := st5.bh _ _ (st3.bb _ _ hlf)
      have sB5 := st3.bb.trans st5.bh
      have flay : ∀ f ∈ kn.fields, (dF f).canLay0 = true := fun f hf => by
        have h1 := word_lay (kok.fs.2.1 f hf).1
        have h2 : PyData.strOk f.2 = true := by
          rcases (kok.fs.2.1 f hf).2 with h | h <;> rw [h] <;> decide +kernel
        show (PyData.strOk f.1 && (PyData.strOk f.2 && true)) = true
        rw [h1, h2]
        rfl
      refine ⟨_, .list [], .lst (SqL.of hlf5) (dp_paired (d := dF) (fun v f h => dp_field h) (paired_mono FiA.mono sB5 hFP)), .lst (SqL.of (by rw [upd_same])) .nil, shaped_list (d := dF) (n := 1) flay (fun f _ => Nat.le_refl _) (by decide), by decide +kernel, ?_⟩
      rw [eqv_nil, List.isEmpty_map]
      refine ⟨_, rfl, ?_⟩
      cases hemp : kn.fields.isEmpty with
      | true =>
        refine iteF ?_
        refine ⟨_, rfl, (by decide), (by decide), ?_⟩
        refine for_it (walk_range (lo := 0) (n := Int.toNat (0))) (fun j σ H' => ∃ v10, σ = [some (.ref x), some (.ref shq), some (.ref pa), some (.int (m : Nat)), some (.ref lf), some (.ref la), some (.int kn.width), some (.ref D), some (.int ((0 : Int) + (i : Nat))), some (.ref t0), v10] ∧ ∃ B' tys ts, Stb x B H B' H' ∧ Same B3 B' ∧ B' D = none ∧ B' t0 = none ∧ H' D = some (.lst xs) ∧
          H' t0 = some (.lst tys) ∧ Paired (TsA K B') tys ts ∧ (ts.length : Int) ≤ kn.width ∧ ∀ t ∈ ts, TstOk kn t)
          ⟨_, rfl, B3, [], [], st5, Same.refl _, nD, nt0, hD5, ht5, .nil, kok.w0, fun t h => by simp at h⟩ (fun _ _ _ _ _ => trivial) ?_ ?_
        · rintro j z σ H6 H7 hj ⟨v10, rfl, B6, tys, ts, st6, s36, nD6, nt6, hD6, ht6, hTP, htl, htok⟩ ⟨rfl, rfl⟩
          have h1f : 1 ≤ kn.fields.length := absurd hj (by simp)
          refine ⟨_, rfl, t0, _, rfl, .inl (SqL.of ht6), _, rfl, _, _, rfl, rfl, _, rfl, ?_⟩
          by_cases hlt : (tys.length : Int) < kn.width
          · rw [decide_eq_true hlt]
            have s06 := st6.bb
            refine iteT ⟨_, rfl, .inl ⟨rfl, _, SqL.of ht6⟩, _, rfl, _, rfl, _, rfl, B6, x, _, kn, pa, ys, ps, rfl, st6.bh, st6.nx hx nB, st6.box, ⟨lf, fxs, rfl, SqL.of (s06 _ _ hlf), paired_mono FiA.mono s06 hFP⟩, kok, h1f, s06 _ _ hpa, paired_mono LvA.mono s06 hY, hPO, fun v t B8 H8 st8 hv ht => ?_⟩
            have ht8 := st8.hh _ _ t0x ht6
            have nt8 : B8 t0 = none := (st8.fr _ _ ht6).trans nt6
            have nD8 : B8 D = none := (st8.fr _ _ hD6).trans nD6
            have w2 := kok.w2
            refine ⟨t0, tys, v, rfl, rfl, ht8, ?_, _, rfl, B8, tys ++ [v], ts ++ [t], (st6.trans hx st8).own hx t0H nt8, s36.trans st8.bb, nD8, nt8, ?_, upd_same, paired_app (paired_mono TsA.mono st8.bb hTP) (.cons hv .nil), ?_, fun t' ht' => ?_⟩
            · have : 60 < sizeLine := by decide
              omega
            · rw [upd_ne Dt]
              exact st8.hh _ _ Dx hD6
            · rw [List.length_append]
              have := hTP.length
              show ((ts.length + 1 : Nat) : Int) ≤ _
              omega
            · rcases List.mem_append.mp ht' with h | h
              · exact htok t' h
              · rw [List.mem_singleton.mp h]
                exact ht
          · rw [decide_eq_false hlt]
            exact iteF ⟨_, rfl, B6, tys, ts, st6, s36, nD6, nt6, hD6, ht6, hTP, htl, htok⟩
        · rintro σ H6 ⟨v10, rfl, B6, tys, ts, st6, s36, nD6, nt6, hD6, ht6, hTP, htl, htok⟩
          have s06 := st6.bb
          have hla6 := st6.bh _ _ (s06 _ _ hla)
          refine ⟨_, rfl, .inl ⟨rfl, _, SqL.of hD6⟩, _, rfl, _, rfl, _, rfl, _, rfl, la, _, rfl, .inl (SqL.of hla6), x, _, rfl, ?_, ?_, st6.box, fun g c1 c2 c3 hg0 hg1 => ?_⟩
          · rw [List.length_map]
            have := kok.an.1
            omega
          · rw [List.length_map]
            have := kok.an.2.1
            omega
          have st7 := st6.trans hx (Stb.put (a := c1) (b := c2) (c := c3) st6.bh (st6.nx hx nB))
          obtain ⟨gn, rfl⟩ := Int.eq_ofNat_of_zero_le hg0
          rw [List.length_map] at hg1
          have hgl : gn < kn.answers.length := by omega
          refine ⟨la, _, _, V.str kn.answers[gn], rfl, rfl, SqL.of (st7.bh _ _ (s06 _ _ hla)), atI_nat (by rw [List.getElem?_map, List.getElem?_eq_getElem hgl]; rfl), (show 2 ≤ sizeLine by decide), fun T1 hT1 => ?_⟩
          have hD7 : (upd H6 x (.lst [.int c1, .int c2, .int c3])) D = some (.lst xs) := by rw [upd_ne Dx]; exact hD6
          have ht7 : (upd H6 x (.lst [.int c1, .int c2, .int c3])) t0 = some (.lst tys) := by rw [upd_ne t0x]; exact ht6
          have DT : D ≠ T1 := ne_of_none hD7 hT1
          have tT : t0 ≠ T1 := ne_of_none ht7 hT1
          have st8 := st7.frz hx t0H ht7
          have b1 := Step.new (o := .tup [.ref t0, .str kn.answers[gn]]) st8.bh hT1
          have st9 := st8.trans hx (Stb.of st8.box b1)
          have nD9 : (upd (upd B6 t0 (.lst tys)) T1 (.tup [.ref t0, .str kn.answers[gn]])) D = none := by rw [upd_ne DT, upd_ne Dt]; exact nD6
          have s69 : Same B6 (upd (upd B6 t0 (.lst tys)) T1 (.tup [.ref t0, .str kn.answers[gn]])) := fun b o e => b1.bb _ _ (by rw [upd_ne (ne_of_none e nt6)]; exact e)
          refine ⟨D, xs, .ref T1, rfl, rfl, by rw [upd_ne DT]; exact hD7, ?_, _, _, _, rfl, _, xs ++ [.ref T1], rs ++ [(ts, kn.answers[gn])], st9.own hx DH nD9, nD9, upd_same, ?_, ?_, fun r hr => ?_⟩
          · rw [hX.length, hrl]
            have : 60 < sizeLine := by decide
            omega
          · exact paired_app (paired_mono RuA.mono (s36.trans s69) hX) (.cons ⟨T1, .ref t0, rfl, .inl (.inl upd_same), t0, tys, rfl, SqL.of (by rw [upd_ne tT, upd_same]), paired_mono TsA.mono s69 hTP⟩ .nil)
          · rw [List.length_append, hrl]
            rfl
          · rcases List.mem_append.mp hr with h | h
            · exact hro r h
            · rw [List.mem_singleton.mp h]
              exact ⟨htok, htl, List.getElem_mem hgl⟩
      | false =>
        have hne : 1 ≤ kn.fields.length := by
          cases hf : kn.fields with
          | nil => rw [hf] at hemp; cases hemp
          | cons y l => simp
        have w0 := kok.w0
        have w2 := kok.w2
        refine iteT ⟨_, rfl, _, rfl, _, _, rfl, rfl, x, _, rfl, (show (1 : Int) ≤ kn.width + 2 by omega), (show kn.width + 2 ≤ 1000000 by omega), st5.box, fun dq b1 b2 b3 hq0 hq1 => ?_⟩
        have st6' := st5.trans hx (Stb.put (a := b1) (b := b2) (c := b3) st5.bh (st5.nx hx nB))
        have hD6' : (upd (upd H4 e0 (.lst [])) x (.lst [.int b1, .int b2, .int b3])) D = some (.lst xs) := by rw [upd_ne Dx]; exact hD5
        have ht6' : (upd (upd H4 e0 (.lst [])) x (.lst [.int b1, .int b2, .int b3])) t0 = some (.lst []) := by rw [upd_ne t0x]; exact ht5
        refine ⟨_, rfl, (by omega), (by omega), ?_⟩
        refine for_it (walk_range (lo := 0) (n := Int.toNat (dq))) (fun j σ H' => ∃ v10, σ = [some (.ref x), some (.ref shq), some (.ref pa), some (.int (m : Nat)), some (.ref lf), some (.ref la), some (.int kn.width), some (.ref D), some (.int ((0 : Int) + (i : Nat))), some (.ref t0), v10] ∧ ∃ B' tys ts, Stb x B H B' H' ∧ Same B3 B' ∧ B' D = none ∧ B' t0 = none ∧ H' D = some (.lst xs) ∧
          H' t0 = some (.lst tys) ∧ Paired (TsA K B') tys ts ∧ (ts.length : Int) ≤ kn.width ∧ ∀ t ∈ ts, TstOk kn t)
          ⟨_, rfl, B3, [], [], st6', Same.refl _, nD, nt0, hD6', ht6', .nil, kok.w0, fun t h => by simp at h⟩ (fun _ _ _ _ _ => trivial) ?_ ?_
        · rintro j z σ H6 H7 hj ⟨v10, rfl, B6, tys, ts, st6, s36, nD6, nt6, hD6, ht6, hTP, htl, htok⟩ ⟨rfl, rfl⟩
          have h1f : 1 ≤ kn.fields.length := hne
          refine ⟨_, rfl, t0, _, rfl, .inl (SqL.of ht6), _, rfl, _, _, rfl, rfl, _, rfl, ?_⟩
          by_cases hlt : (tys.length : Int) < kn.width
          · rw [decide_eq_true hlt]
            have s06 := st6.bb
            refine iteT ⟨_, rfl, .inl ⟨rfl, _, SqL.of ht6⟩, _, rfl, _, rfl, _, rfl, B6, x, _, kn, pa, ys, ps, rfl, st6.bh, st6.nx hx nB, st6.box, ⟨lf, fxs, rfl, SqL.of (s06 _ _ hlf), paired_mono FiA.mono s06 hFP⟩, kok, h1f, s06 _ _ hpa, paired_mono LvA.mono s06 hY, hPO, fun v t B8 H8 st8 hv ht => ?_⟩
            have ht8 := st8.hh _ _ t0x ht6
            have nt8 : B8 t0 = none := (st8.fr _ _ ht6).trans nt6
            have nD8 : B8 D = none := (st8.fr _ _ hD6).trans nD6
            have w2 := kok.w2
            refine ⟨t0, tys, v, rfl, rfl, ht8, ?_, _, rfl, B8, tys ++ [v], ts ++ [t], (st6.trans hx st8).own hx t0H nt8, s36.trans st8.bb, nD8, nt8, ?_, upd_same, paired_app (paired_mono TsA.mono st8.bb hTP) (.cons hv .nil), ?_, fun t' ht' => ?_⟩
            · have : 60 < sizeLine := by decide
              omega
            · rw [upd_ne Dt]
              exact st8.hh _ _ Dx hD6
            · rw [List.length_append]
              have := hTP.length
              show ((ts.length + 1 : Nat) : Int) ≤ _
              omega
            · rcases List.mem_append.mp ht' with h | h
              · exact htok t' h
              · rw [List.mem_singleton.mp h]
                exact ht
          · rw [decide_eq_false hlt]
            exact iteF ⟨_, rfl, B6, tys, ts, st6, s36, nD6, nt6, hD6, ht6, hTP, htl, htok⟩
        · rintro σ H6 ⟨v10, rfl, B6, tys, ts, st6, s36, nD6, nt6, hD6, ht6, hTP, htl, htok⟩
          have s06 := st6.bb
          have hla6 := st6.bh _ _ (s06 _ _ hla)
          refine ⟨_, rfl, .inl ⟨rfl, _, SqL.of hD6⟩, _, rfl, _, rfl, _, rfl, _, rfl, la, _, rfl, .inl (SqL.of hla6), x, _, rfl, ?_, ?_, st6.box, fun g c1 c2 c3 hg0 hg1 => ?_⟩
          · rw [List.length_map]
            have := kok.an.1
            omega
          · rw [List.length_map]
            have := kok.an.2.1
            omega
          have st7 := st6.trans hx (Stb.put (a := c1) (b := c2) (c := c3) st6.bh (st6.nx hx nB))
          obtain ⟨gn, rfl⟩ := Int.eq_ofNat_of_zero_le hg0
          rw [List.length_map] at hg1
          have hgl : gn < kn.answers.length := by omega
          refine ⟨la, _, _, V.str kn.answers[gn], rfl, rfl, SqL.of (st7.bh _ _ (s06 _ _ hla)), atI_nat (by rw [List.getElem?_map, List.getElem?_eq_getElem hgl]; rfl), (show 2 ≤ sizeLine by decide), fun T1 hT1 => ?_⟩
          have hD7 : (upd H6 x (.lst [.int c1, .int c2, .int c3])) D = some (.lst xs) := by rw [upd_ne Dx]; exact hD6
          have ht7 : (upd H6 x (.lst [.int c1, .int c2, .int c3])) t0 = some (.lst tys) := by rw [upd_ne t0x]; exact ht6
          have DT : D ≠ T1 := ne_of_none hD7 hT1
          have tT : t0 ≠ T1 := ne_of_none ht7 hT1
          have st8 := st7.frz hx t0H ht7
          have b1 := Step.new (o := .tup [.ref t0, .str kn.answers[gn]]) st8.bh hT1
          have st9 := st8.trans hx (Stb.of st8.box b1)
          have nD9 : (upd (upd B6 t0 (.lst tys)) T1 (.tup [.ref t0, .str kn.answers[gn]])) D = none := by rw [upd_ne DT, upd_ne Dt]; exact nD6
          have s69 : Same B6 (upd (upd B6 t0 (.lst tys)) T1 (.tup [.ref t0, .str kn.answers[gn]])) := fun b o e => b1.bb _ _ (by rw [upd_ne (ne_of_none e nt6)]; exact e)
          refine ⟨D, xs, .ref T1, rfl, rfl, by rw [upd_ne DT]; exact hD7, ?_, _, _, _, rfl, _, xs ++ [.ref T1], rs ++ [(ts, kn.answers[gn])], st9.own hx DH nD9, nD9, upd_same, ?_, ?_, fun r hr => ?_⟩
          · rw [hX.length, hrl]
            have : 60 < sizeLine := by decide
            omega
          · exact paired_app (paired_mono RuA.mono (s36.trans s69) hX) (.cons ⟨T1, .ref t0, rfl, .inl (.inl upd_same), t0, tys, rfl, SqL.of (by rw [upd_ne tT, upd_same]), paired_mono TsA.mono s69 hTP⟩ .nil)
          · rw [List.length_append, hrl]
            rfl
          · rcases List.mem_append.mp hr with h | h
            · exact hro r h
            · rw [List.mem_singleton.mp h]
              exact ⟨htok, htl, List.getElem_mem hgl⟩
    · rintro σ H2 ⟨v8, v9, v10, rfl, B3, xs, rs, st3, nD, hDx, hX, hrl, hro⟩
      have hla3 := st3.bh _ _ (st3.bb _ _ hla)
      refine ⟨_, rfl, by decide, fun e0 he0 => ?_⟩
      have De : D ≠ e0 := ne_of_none hDx he0
      have b0 := Step.new (o := .lst []) st3.bh he0
      have st4 := st3.trans hx (Stb.of st3.box b0)
      have hla4 := b0.bh _ _ (b0.bb _ _ (st3.bb _ _ hla))
      have hD4 : (upd H2 e0 (.lst [])) D = some (.lst xs) := by rw [upd_ne De]; exact hDx
      have nD4 : (upd B3 e0 (.lst [])) D = none := by rw [upd_ne De]; exact nD
      refine ⟨_, rfl, _, rfl, _, rfl, la, _, rfl, .inl (SqL.of hla4), x, _, rfl, ?_, ?_, st4.box, fun g c1 c2 c3 hg0 hg1 => ?_⟩
      · rw [List.length_map]
        have := kok.an.1
        omega
      · rw [List.length_map]
        have := kok.an.2.1
        omega
      have st5 := st4.trans hx (Stb.put (a := c1) (b := c2) (c := c3) st4.bh (st4.nx hx nB))
      obtain ⟨gn, rfl⟩ := Int.eq_ofNat_of_zero_le hg0
      rw [List.length_map] at hg1
      have hgl : gn < kn.answers.length := by omega
      refine ⟨la, _, _, V.str kn.answers[gn], rfl, rfl, SqL.of (st5.bh _ _ (b0.bb _ _ (st3.bb _ _ hla))), atI_nat (by rw [List.getElem?_map, List.getElem?_eq_getElem hgl]; rfl), (show 2 ≤ sizeLine by decide), fun T1 hT1 => ⟨(show 1 ≤ sizeLine by decide), fun l1 hl1 => ?_⟩⟩
      have b1 := Step.new (o := .tup [.ref e0, .str kn.answers[gn]]) st5.bh hT1
      have st6 := st5.trans hx (Stb.of st5.box b1)
      have hD5 : (upd (upd H2 e0 (.lst [])) x (.lst [.int c1, .int c2, .int c3])) D = some (.lst xs) := by rw [upd_ne Dx]; exact hD4
      have DT : D ≠ T1 := ne_of_none hD5 hT1
      have hD6 : (upd (upd (upd H2 e0 (.lst [])) x (.lst [.int c1, .int c2, .int c3])) T1 (.tup [.ref e0, .str kn.answers[gn]])) D = some (.lst xs) := by rw [upd_ne DT]; exact hD5
      have eT : e0 ≠ T1 := ne_of_none (st5.bh _ _ upd_same) hT1
      have st7 := st6.trans hx (Stb.of st6.box (Step.tmp (o := .lst [.ref T1]) st6.bh hl1))
      have Dl : D ≠ l1 := ne_of_none hD6 hl1
      refine ⟨D, l1, xs, _, rfl, rfl, by rw [upd_ne Dl]; exact hD6, upd_same, ?_, fun p hp => ?_⟩
      · rw [hX.length, hrl]
        have : 60 < sizeLine := by decide
        show m + 1 ≤ _
        omega
      · have b2 := Step.new (o := .lst (xs ++ [.ref T1])) st7.bh hp
        have st8 := st7.trans hx (Stb.of st7.box b2)
        have s38 : Same B3 (upd (upd (upd B3 e0 (.lst [])) T1 (.tup [.ref e0, .str kn.answers[gn]])) p (.lst (xs ++ [.ref T1]))) := (b0.bb.trans b1.bb).trans b2.bb
        have Tp : T1 ≠ p := ne_of_none (st7.bh _ _ upd_same) hp
        have ep : e0 ≠ p := ne_of_none (st7.bh _ _ (by rw [upd_ne eT, upd_same])) hp
        refine k p (xs ++ [.ref T1]) (rs ++ [([], kn.answers[gn])]) _ _ st8 (st7.free hx hp) upd_same (paired_app (paired_mono RuA.mono s38 hX) (.cons ⟨T1, .ref e0, rfl, .inl (.inl (by rw [upd_ne Tp, upd_same])), e0, [], rfl, SqL.of (by rw [upd_ne ep, upd_ne eT, upd_same]), .nil⟩ .nil)) ?_ (by rw [List.length_append, hrl]; rfl)
        have all : ∀ r ∈ rs ++ [([], kn.answers[gn])], RulOk kn r := fun r hr => by
          rcases List.mem_append.mp hr with h | h
          · exact hro r h
          · rw [List.mem_singleton.mp h]
            exact ⟨fun t h => by simp at h, kok.w0, List.getElem_mem hgl⟩
        exact ⟨fun r hr => (all r hr).tst, fun r hr => (all r hr).wid, fun r hr => (all r hr).ans, by rw [List.length_append, hrl]; show m + 1 ≤ 24; omega, ⟨_, List.getLast?_concat⟩⟩
theorem ok_scene (T : Top K mg) (c__law_kind : Cal P w K mg base CX0 3 "_law_kind" (sp_mkind K)) (c__law_pools : Cal P w K mg base CX0 3 "_law_pools" (sp_pools K)) {fK : Addr} {fdK : FuncData} (hM : Mk K (cK K) fK) (FK : FnOk P w K mg base CX0 4 fK fdK P_Kind___init__ (sp_kind_init K))
    (hKB : KBn K fdK P_Kind___init__ 3 ["width"] (fun us ws => us ++ ws) (fun vs zs => vs ++ zs)) : Cal P w K mg base CX0 6 "_law_scene" (sp_scene K) := by
  have nd := sc__law_scene.nd
  refine cal_of (ps := P__law_scene) T.d__law_scene (fun _ _ _ _ _ _ us hl => match us, hl with | [_, _], _ => rfl) sc__law_scene (fun vs H Q E h => ?_) (fun f cdv A outer s H vs Q E hr h => ?_)
  · obtain ⟨B, x, rfl, _⟩ := h
    rfl
  · obtain ⟨B, x, rfl, sB, nB, hx, k⟩ := h
    refine ⟨_, (pss_cons (ps_asg (pcal c__law_kind hr (by decide) (by rfl) (pa_cons (pv 0) (pa_cons pe_int (pa_cons (pv 1) pa_nil)))) (pg_unl rfl (pgs_cons (pg_name (i := 2) nd rfl (by first | exact Or.inl rfl | exact Or.inr rfl)) (pgs_cons (pg_name (i := 3) nd rfl (by first | exact Or.inl rfl | exact Or.inr rfl)) (pgs_cons (pg_name (i := 4) nd rfl (by first | exact Or.inl rfl | exact Or.inr rfl)) pgs_nil)))))
    (pss_cons (ps_set (i := 5) nd rfl (by first | exact Or.inl rfl | exact Or.inr rfl) (pcal c__law_pools hr (by decide) (by rfl) (pa_cons (pv 0) (pa_cons (pv 2) pa_nil))))
    (pss_cons (ps_if (pt_cmpR op_gt (pe_callB (call_len_seqK (K := K)) (by rfl) T.f_len (by decide +kernel) (pa_cons (pv 2) pa_nil)) pe_int (nomark _)) (pss_one (ps_setLc (i := 5) (own := [("_law_pool", 6)]) (g := (gName 6)) (tt := tYes) rfl nd rfl rfl (sw_true rfl rfl rfl (by decide +kernel)) (pi_list (pv 5)) (blkOk_by (own := [("_law_pool", 6)]) (N := N__law_scene) (sc := defScope s__law_scene) (by decide +kernel)) (fun _ _ _ _ _ => (pg_name (i := 6) nd rfl (by first | exact Or.inl rfl | exact Or.inr rfl))) (fun _ _ _ _ _ => pts_nil) (fun _ _ _ _ _ => (pe_slice (sl_listK (K := K)) (pv 6) po_none (po_some (pe_op op_sub pe_int (pe_callB (call_len_seqK (K := K)) (by rfl) T.f_len (by decide +kernel) (pa_cons (pv 2) pa_nil)))))))) pss_nil)
    (pss_one (ps_ret (pe_lst (pa_cons (pe_lst (pa_cons (pv 2) (pa_cons (pv 3) (pa_cons (pv 4) pa_nil)))) (pa_cons (pv 5) (pa_cons (pe_makeK hM FK (hr.mono (by decide)) rfl T.g_Kind hKB pass0 (pa_cons (pv 2) (pa_cons (pv 3) pa_nil)) (pk_cons (pv 4) pk_nil)) pa_nil))))))))), ?_⟩
    have xD : ∀ {D : Addr}, H D = none → D ≠ x := fun {D} h => by
      obtain ⟨o, e⟩ := hx.some
      exact Ne.symm (ne_of_none e h)
    refine ⟨_, rfl, _, rfl, B, x, rfl, sB, nB, hx, fun sv kn B1 H1 st1 hSh kok => ?_⟩
    obtain ⟨shq, lf, fxs, la, rfl, hsh, hlf, hFP, hla⟩ := hSh
    have hl := hFP.length
    have h4 := kok.fs.1
    have nB1 := st1.nx hx nB
    refine ⟨shq, _, rfl, SqL.of (st1.bh _ _ hsh), rfl, _, _, rfl, _, _, rfl, _, _, rfl, rfl, ?_⟩
    refine ⟨_, rfl, _, rfl, B1, x, _, kn, rfl, st1.bh, nB1, st1.box, ⟨lf, fxs, rfl, SqL.of hlf, hFP⟩, kok, fun pa ys ps B2 H2 st2 hpa0 hpa hY hPO => ?_⟩
    have fin : ∀ (pa : Addr) (ys : List V) (ps : List (List V)) (B3 H3 : Hp) (v6 : Option V), Stb x B H B3 H3 → Same B1 B3 → B3 pa = some (.lst ys) → Paired (LvA K B3) ys ps → Paired PoolOk ps kn.fields →
        (tRet (tLst (tCons (tLst (tCons (tVar 2) (tCons (tVar 3) (tCons (tVar 4) tNil)))) (tCons (tVar 5) (tCons (tMakeK (cK K) 2 (["width"] : List Str).length (sp_kind_init K) (fun vs zs => vs ++ zs) E0 (tCons (tVar 2) (tCons (tVar 3) tNil)) (tCons (tVar 4) tNil)) tNil)))) : TS)
          { nx := fun _ H' => Q .non H', rt := Q } [some (.ref x), some (.int 4), some (.ref lf), some (.ref la), some (.int kn.width), some (.ref pa), v6] H3 := fun pa ys ps B3 H3 v6 st3 s13 hpa hY hPO => by
      refine ⟨_, rfl, _, rfl, _, rfl, (show 3 ≤ sizeLine by decide), fun q1 hq1 => ?_⟩
      have b1 := Step.new (o := .lst [.ref lf, .ref la, .int kn.width]) st3.bh hq1
      have st4 := st3.trans hx (Stb.of st3.box b1)
      have s14 := s13.trans b1.bb
      refine ⟨_, rfl, _, rfl, _, rfl, _, rfl, rfl, rfl, fun p dx hp hdx hne => ?_⟩
      have sn : Same (upd H3 q1 (.lst [.ref lf, .ref la, .int kn.width])) (upd (upd (upd H3 q1 (.lst [.ref lf, .ref la, .int kn.width])) dx (.own p)) p (.ins (cK K) dx [])) := fun b o e => by
        rw [upd_ne (ne_of_none e hp), upd_ne (ne_of_none e hdx)]
        exact e
      have s1n := (s14.trans st4.bh).trans sn
      refine ⟨upd B3 q1 (.lst [.ref lf, .ref la, .int kn.width]), p, dx, lf, fxs, kn.fields, la, kn.answers, kn.width, rfl, st4.bh.trans sn, st4.bh.free hp, upd_same, SqL.of (s1n _ _ hlf), paired_mono FiA.mono s14 hFP, SqL.of (s1n _ _ hla), kok, fun B5 H5 ini hKd => ⟨rfl, (show 3 ≤ sizeLine by decide), fun q hq => ?_⟩⟩
      have b2 := Ini.step st4.bh hp hdx ini
      have st5 := st4.trans hx (Stb.of st4.box b2)
      have b3 := Step.new (o := .lst [.ref q1, .ref pa, .ref p]) st5.bh hq
      have s36 := (b1.bb.trans b2.bb).trans b3.bb
      have s16 := s13.trans s36
      have hq1' := (b2.bb.trans b3.bb) _ _ (show (upd B3 q1 (.lst [.ref lf, .ref la, .int kn.width])) q1 = some (.lst [.ref lf, .ref la, .int kn.width]) from upd_same)
      exact k q (.ref q1) kn (.ref p) pa ys ps _ _ (st5.trans hx (Stb.of st5.box b3)) upd_same ⟨q1, lf, fxs, la, rfl, hq1', s16 _ _ hlf, paired_mono FiA.mono s16 hFP, s16 _ _ hla⟩ kok (KdA.mono _ _ _ _ _ b3.bb hKd) (s36 _ _ hpa) (paired_mono LvA.mono s36 hY) hPO
    have st12 := st1.trans hx st2
    refine ⟨_, rfl, lf, fxs, rfl, .inl (SqL.of (st12.bh _ _ (st2.bb _ _ hlf))), _, _, rfl, rfl, _, rfl, ?_⟩
    by_cases h2 : (2 : Int) < (fxs.length : Int)
    · rw [decide_eq_true h2]
      refine iteT ⟨_, rfl, pa, rfl, ⟨_, SqL.of (st12.bh _ _ hpa)⟩, fun D hD => ?_⟩
      have DH : H D = none := st12.free hx hD
      have Dx := xD DH
      have nD2 : B2 D = none := st12.bh.free hD
      refine lc_it (walk_list (xs := ys)) (fun i H' => ∃ B' zs qs, Stb x B H B' H' ∧ Same B2 B' ∧ B' D = none ∧ H' D = some (.lst zs) ∧ Paired (LvA K B') zs qs ∧ Paired PoolOk qs (kn.fields.take i)) ⟨B2, [], [], (st12.trans hx (Stb.of st12.box (Step.tmp st12.bh hD))), Same.refl _, nD2, upd_same, .nil, .nil⟩
        (fun i H' _ ⟨_, _, _, st, s2, _⟩ => SqL.of (st.bh _ _ (s2 _ _ hpa))) ?_ ?_
      · rintro i z H3 H4' hi ⟨B3, zs, qs, st3, s23, nD3, hzs, hZ, hQO⟩ ⟨rfl, hv⟩
        obtain ⟨m, hm, b, rfl, hb⟩ := paired_at hY hv
        obtain ⟨f, hf, pok⟩ := paired_at hPO hm
        refine ⟨rfl, yesT (iteT ?_)⟩
        refine ⟨_, rfl, _, rfl, lf, fxs, rfl, .inl (SqL.of (st3.bh _ _ (s23 _ _ (st2.bb _ _ hlf)))), _, _, rfl, rfl, _, rfl, b, m, rfl, (s23.trans st3.bh).seq hb, fun p hp => ?_⟩
        have ec : cutV m none (some ((5 : Int) - (fxs.length : Int))) = m.take (5 - fxs.length) := by
          rw [show (5 : Int) - (fxs.length : Int) = ((5 - fxs.length : Nat) : Int) by omega]
          unfold cutV
          have e : HT.sIx m.length m.length (some ((5 - fxs.length : Nat) : Int)) = min (5 - fxs.length) m.length := HT.sIx_nat m.length m.length _
          have e0 : HT.sIx m.length 0 none = 0 := rfl
          rw [e, e0, List.drop_zero, Nat.sub_zero]
          by_cases hh : 5 - fxs.length ≤ m.length
          · rw [Nat.min_eq_left hh]
          · rw [Nat.min_eq_right (by omega), List.take_length, List.take_of_length_le (by omega)]
        rw [ec]
        have Dp : D ≠ p := ne_of_none hzs hp
        have b1 := Step.new (o := .lst (m.take (5 - fxs.length))) st3.bh hp
        have st4 := st3.trans hx (Stb.of st3.box b1)
        have nD4 : (upd B3 p (.lst (m.take (5 - fxs.length)))) D = none := by rw [upd_ne Dp]; exact nD3
        refine ⟨zs, by rw [upd_ne Dp]; exact hzs, ?_, _, zs ++ [.ref p], qs ++ [m.take (5 - fxs.length)], st4.own hx DH nD4, s23.trans b1.bb, nD4, upd_same, paired_app (paired_mono LvA.mono b1.bb hZ) (.cons ⟨p, rfl, SqL.of upd_same⟩ .nil), ?_⟩
        · rw [hZ.length, hQO.length, List.length_take]
          have : 60 < sizeLine := by decide
          omega
        · rw [take_succ_of hf]
          refine paired_app hQO (.cons ⟨?_, ?_, fun v hv => pok.ok v (List.mem_of_mem_take hv)⟩ .nil)
          · rw [List.length_take]
            have := pok.pos
            omega
          · rw [List.length_take]
            have := pok.few
            omega
      · rintro H3 ⟨B3, zs, qs, st3, s23, nD3, hzs, hZ, hQO⟩
        rw [hY.length, hPO.length, List.take_length] at hQO
        have s3f : Same B3 (upd B3 D (.lst zs)) := fun b o e => by
          rw [upd_ne (ne_of_none e nD3)]
          exact e
        exact fin D zs qs _ H3 _ (st3.frz hx DH hzs) ((st2.bb.trans s23).trans s3f) upd_same (paired_mono LvA.mono s3f hZ) hQO
    · rw [decide_eq_false h2]
      exact iteF (fin pa ys ps B2 H2 _ st12 st2.bb hpa hY hPO)
end
end K5
set_option Elab.async false
set_option linter.all false
set_option maxRecDepth 100000
set_option maxHeartbeats 2000000
/-! The great lists, in plain: their sizes, their exchanges; sizes of small lists. -/
namespace K5
open PySem PySem.Spec PyProof.Rows L2
def tw (k : Nat) : Str := ⟨#[lc k]⟩ ++ ("b" : Str)
def bd (k : Nat) : Tst := if k % 2 = 0 then ("y", "most", .int (3 * (k : Int))) else ("y", "least", .int (3 * (k : Int) + 1))
def t2 (k : Nat) : Tst := if k < 18 then (if k < 9 then ("x", "is", .str (tw k)) else bd (k - 9)) else if k = 18 then ("y", "least", .int 1) else ("y", "most", .int 9999)
def gr (k : Nat) : Rul := ([("z", "is", .str (tw k)), t2 k], if k % 2 = 0 then "yes" else "no")
def great (many again : Nat) : List Rul := (List.range many).map gr ++ [gr again, ([], "no")]
def kn0 : Knd := ⟨[("x", "word"), ("y", "number"), ("z", "word")], ["yes", "no"], 2⟩
theorem wordB {x : Str} (h : (decide (1 ≤ x.length) && (decide (x.length ≤ 6) && x.cps.toList.all fun c => decide (c ∈ letters.cps.toList))) = true) : WordOk x := by
  rw [Bool.and_eq_true, Bool.and_eq_true] at h
  exact ⟨of_decide_eq_true h.1, of_decide_eq_true h.2.1, fun c hc => of_decide_eq_true (List.all_eq_true.mp h.2.2 c hc)⟩
theorem kn0_ok : KndOk kn0 := by
  refine ⟨⟨by decide, fun f hf => ?_, by decide +kernel⟩, ⟨by decide, by decide, fun x hx => ?_, by decide +kernel⟩, by decide, by decide⟩
  · have hf : f ∈ [(("x" : Str), ("word" : Str)), ("y", "number"), ("z", "word")] := hf
    simp only [List.mem_cons, List.not_mem_nil, or_false] at hf
    rcases hf with h | h | h <;> rw [h]
    · exact ⟨wordB (by decide +kernel), .inl rfl⟩
    · exact ⟨wordB (by decide +kernel), .inr rfl⟩
    · exact ⟨wordB (by decide +kernel), .inl rfl⟩
  · have hx : x ∈ [("yes" : Str), "no"] := hx
    simp only [List.mem_cons, List.not_mem_nil, or_false] at hx
    rcases hx with h | h <;> rw [h] <;> exact wordB (by decide +kernel)
theorem tw_ok (k : Nat) : WordOk (tw k) := by
  have hl : (tw k).length = 2 := by
    rw [tw, app_len]
    rfl
  refine ⟨by rw [hl]; decide, by rw [hl]; decide, Ltrs.app (Ltrs.one (lc_mem k)) ?_⟩
  exact (wordB (x := "b") (by decide +kernel)).2.2
theorem bd_ok {k : Nat} (h : k < 9) : TstOk kn0 (bd k) := by
  unfold bd
  split
  · exact ⟨"number", by simp [kn0], .inr ⟨rfl, _, rfl, by constructor <;> omega⟩, .inr ⟨rfl, .inl rfl⟩⟩
  · exact ⟨"number", by simp [kn0], .inr ⟨rfl, _, rfl, by constructor <;> omega⟩, .inr ⟨rfl, .inr rfl⟩⟩
theorem gr_ok {k : Nat} (h : k < 20) : (∀ t ∈ (gr k).1, TstOk kn0 t) ∧ (gr k).2 ∈ kn0.answers := by
  refine ⟨fun t ht => ?_, ?_⟩
  · have ht : t ∈ [(("z" : Str), ("is" : Str), V.str (tw k)), t2 k] := ht
    simp only [List.mem_cons, List.not_mem_nil, or_false] at ht
    rcases ht with e | e <;> rw [e]
    · exact ⟨"word", by simp [kn0], .inl ⟨rfl, _, rfl, tw_ok k⟩, .inl ⟨rfl, .inl rfl⟩⟩
    · unfold t2
      split
      · split
        · exact ⟨"word", by simp [kn0], .inl ⟨rfl, _, rfl, tw_ok k⟩, .inl ⟨rfl, .inl rfl⟩⟩
        · exact bd_ok (by omega)
      · split
        · exact ⟨"number", by simp [kn0], .inr ⟨rfl, _, rfl, by constructor <;> decide⟩, .inr ⟨rfl, .inr rfl⟩⟩
        · exact ⟨"number", by simp [kn0], .inr ⟨rfl, _, rfl, by constructor <;> decide⟩, .inr ⟨rfl, .inl rfl⟩⟩
  · show (if k % 2 = 0 then ("yes" : Str) else "no") ∈ [("yes" : Str), "no"]
    split <;> simp
theorem great_mem {many again : Nat} {r : Rul} (h : r ∈ great many again) : (∃ k, (k < many ∨ k = again) ∧ r = gr k) ∨ r = (([], "no") : Rul) := by
  rcases List.mem_append.mp h with h | h
  · obtain ⟨k, hk, rfl⟩ := List.mem_map.mp h
    exact .inl ⟨k, .inl (List.mem_range.mp hk), rfl⟩
  · simp only [List.mem_cons, List.not_mem_nil, or_false] at h
    rcases h with h | h
    · exact .inl ⟨again, .inr rfl, h⟩
    · exact .inr h
theorem great_len (many again : Nat) : (great many again).length = many + 2 := by simp [great]
theorem great_ok {many again : Nat} (hm : many ≤ 20) (ha : again < many) : RulsOk kn0 (great many again) := by
  refine ⟨fun r hr t ht => ?_, fun r hr => ?_, fun r hr => ?_, by rw [great_len]; omega, ⟨"no", ?_⟩⟩
  · rcases great_mem hr with ⟨k, hk, rfl⟩ | rfl
    · exact (gr_ok (by omega)).1 t ht
    · cases ht
  · rcases great_mem hr with ⟨k, hk, rfl⟩ | rfl
    · exact Int.le_refl 2
    · show (0 : Int) ≤ 2
      decide
  · rcases great_mem hr with ⟨k, hk, rfl⟩ | rfl
    · exact (gr_ok (by omega)).2
    · show ("no" : Str) ∈ [("yes" : Str), "no"]
      simp
  · rw [great, List.getLast?_append]
    rfl
/-! ### counting -/
def dd {α : Type} [DecidableEq α] : List α → List α
  | [] => []
  | a :: l => if a ∈ dd l then dd l else a :: dd l
theorem dd_mem {α : Type} [DecidableEq α] (x : α) : ∀ l : List α, x ∈ dd l ↔ x ∈ l
  | [] => Iff.rfl
  | a :: l => by
    rw [dd]
    split
    · rename_i h
      rw [dd_mem x l, List.mem_cons]
      constructor
      · exact .inr
      · rintro (e | e)
        · rw [e]
          exact (dd_mem a l).mp h
        · exact e
    · rw [List.mem_cons, List.mem_cons, dd_mem x l]
theorem dd_nodup {α : Type} [DecidableEq α] : ∀ l : List α, (dd l).Nodup
  | [] => List.nodup_nil
  | a :: l => by
    rw [dd]
    split
    · exact dd_nodup l
    · rename_i h
      exact List.nodup_cons.mpr ⟨h, dd_nodup l⟩
theorem len_dd {α : Type} [DecidableEq α] {xs l : List α} (nd : xs.Nodup) (h : ∀ x, x ∈ xs ↔ x ∈ l) : xs.length = (dd l).length :=
  Nat.le_antisymm (nodup_len _ _ nd fun x hx => (dd_mem x l).mpr ((h x).mp hx)) (nodup_len _ _ (dd_nodup l) fun x hx => (h x).mpr ((dd_mem x l).mp hx))
def wordsOf (ts : List Tst) (n : Str) : List Str := ts.filterMap fun t => if t.1 = n then (match t.2.2 with
  | .str x => some x
  | _ => none) else none
def endsOf (ts : List Tst) (n : Str) : List Int := 9999 :: ts.filterMap fun t => if t.1 = n then (match t.2.2 with
  | .int j => if t.2.1 = "most" then some j else if t.2.1 = "least" ∧ -9999 < j then some (j - 1) else none
  | _ => none) else none
theorem wordsOf_mem (ts : List Tst) (n x : Str) : x ∈ wordsOf ts n ↔ ∃ t ∈ ts, t.1 = n ∧ t.2.2 = .str x := by
  rw [wordsOf, List.mem_filterMap]
  constructor
  · rintro ⟨⟨m, op, va⟩, ht, h⟩
    split at h
    · rename_i e
      cases va <;> simp at h
      rename_i y
      exact ⟨_, ht, e, by rw [h]⟩
    · cases h
  · rintro ⟨⟨m, op, va⟩, ht, e, h⟩
    refine ⟨_, ht, ?_⟩
    rw [if_pos e]
    have h : va = .str x := h
    subst h
    rfl
theorem endsOf_mem (ts : List Tst) (n : Str) (x : Int) : x ∈ endsOf ts n ↔ x = 9999 ∨ ∃ t ∈ ts, NumOf n t x := by
  rw [endsOf, List.mem_cons, List.mem_filterMap]
  refine or_congr_right ⟨?_, ?_⟩
  · rintro ⟨⟨m, op, va⟩, ht, h⟩
    split at h
    · rename_i e
      cases va with
      | int j =>
        have h : (if op = "most" then some j else if op = "least" ∧ -9999 < j then some (j - 1) else none) = some x := h
        split at h
        · rename_i e2
          exact ⟨_, ht, e, j, rfl, .inl ⟨e2, (Option.some.inj h).symm⟩⟩
        · split at h
          · rename_i e2
            exact ⟨_, ht, e, j, rfl, .inr ⟨e2.1, e2.2, (Option.some.inj h).symm⟩⟩
          · cases h
      | _ => simp at h
    · cases h
  · rintro ⟨⟨m, op, va⟩, ht, e, j, hj, h⟩
    refine ⟨_, ht, ?_⟩
    rw [if_pos e]
    have hj : va = .int j := hj
    subst hj
    show (if op = "most" then some j else if op = "least" ∧ -9999 < j then some (j - 1) else none) = some x
    rcases h with ⟨h1, h2⟩ | ⟨h1, h2, h3⟩
    · rw [if_pos h1, h2]
    · have : ¬ op = "most" := fun z => absurd (z.symm.trans h1) (by decide +kernel)
      rw [if_neg this, if_pos ⟨h1, h2⟩, h3]
/-- how many members -/
def cnt (ts : List Tst) (f : Str × Str) : Nat := if f.2 = "word" then (dd (wordsOf ts f.1)).length + 1 else (dd (endsOf ts f.1)).length
theorem mem_cnt {ts : List Tst} {m : List V} {f : Str × Str} (h : MemOk ts m f) : m.length = cnt ts f := by
  rcases h with ⟨e, ws, w0, rfl, h⟩ | ⟨e, ns, rfl, h⟩
  · rw [cnt, if_pos e, List.length_map, List.length_append, len_dd h.nd fun x => (h.mem x).trans (wordsOf_mem ts f.1 x).symm]
    rfl
  · have : ¬ f.2 = "word" := fun z => absurd (z.symm.trans e) (by decide +kernel)
    rw [cnt, if_neg this, List.length_map, len_dd h.nd fun x => (h.mem x).trans (endsOf_mem ts f.1 x).symm]
theorem prod_cnt {ts : List Tst} : ∀ {ms : List (List V)} {fs : Flds} (n : Nat), Paired (MemOk ts) ms fs → prodFrom n ms = fs.foldl (fun n f => n * cnt ts f) n
  | _, _, n, .nil => rfl
  | _, _, n, .cons r t => by
    show prodFrom (n * _) _ = _
    rw [mem_cnt r, prod_cnt _ t]
    rfl
def cntAll (ts : List Tst) (fs : Flds) : Nat := fs.foldl (fun n f => n * cnt ts f) 1
theorem great_20 : cntAll (allTests (great 20 3)) kn0.fields = 2100 := by decide +kernel
theorem great_19 : ∀ a, a < 19 → cntAll (allTests (great 19 a)) kn0.fields = 2000 := by decide +kernel
theorem great_few : (∀ a, a < 19 → (allTests (great 19 a)).length ≤ 50 ∧ ∀ f ∈ kn0.fields, nTests (allTests (great 19 a)) f.1 ≤ 25) ∧ (allTests (great 20 3)).length ≤ 50 ∧ ∀ f ∈ kn0.fields, nTests (allTests (great 20 3)) f.1 ≤ 25 := by decide +kernel
/-! ### exchanges in them -/
theorem answ_swap {fs : Flds} {c : Cse} {a b : Rul} (h : allm fs c a.1 = true → allm fs c b.1 = true → a.2 = b.2) (r : List Rul) : ∀ l : List Rul, answ fs c (l ++ a :: b :: r) = answ fs c (l ++ b :: a :: r)
  | [] => by
    show answ fs c (a :: b :: r) = answ fs c (b :: a :: r)
    simp only [answ]
    cases ha : allm fs c a.1 <;> cases hb : allm fs c b.1 <;> simp
    exact h ha hb
  | q :: l => by
    show answ fs c (q :: (l ++ a :: b :: r)) = answ fs c (q :: (l ++ b :: a :: r))
    simp only [answ, answ_swap h r l]
theorem swp_free {fs : Flds} {rs : List Rul} {i : Nat} (hi : i + 2 ≤ rs.length) (h : ∀ a b, rs[i]? = some a → rs[i + 1]? = some b → ∀ c, CaseOk fs c → allm fs c a.1 = true → allm fs c b.1 = true → a.2 = b.2) : Swp fs rs i := by
  intro c hc
  obtain ⟨a, b, ea, eb, e1, e2⟩ := swp_split hi
  rw [e2]
  conv => lhs; rw [e1]
  exact answ_swap (h a b ea eb c hc) _ _
theorem tw_inj {p q : Nat} (hp : p < 26) (hq : q < 26) (h : tw p = tw q) : p = q := by
  have h1 : (tw p).cps.toList = (tw q).cps.toList := by rw [h]
  rw [tw, tw, app_cps, app_cps] at h1
  have h2 : lc p = lc q := by
    have := congrArg (fun l : List Nat => l.head?) h1
    simpa using this
  have := lc_inj h2
  omega
theorem gr_apart {p q : Nat} (hp : p < 20) (hq : q < 20) {c : Cse} (hc : CaseOk kn0.fields c) (h1 : allm kn0.fields c (gr p).1 = true) (h2 : allm kn0.fields c (gr q).1 = true) : (gr p).2 = (gr q).2 := by
  have key : ∀ k, allm kn0.fields c (gr k).1 = true → mt "is" (val kn0.fields c "z") (.str (tw k)) = true := fun k h => List.all_eq_true.mp h ("z", "is", .str (tw k)) (List.mem_cons_self ..)
  have k1 := key p h1
  have k2 := key q h2
  rcases hc.val kn0_ok.fs.2.2 (n := "z") (s := "word") (by simp [kn0]) with ⟨_, x, hx, _⟩ | ⟨h, _⟩
  · rw [hx] at k1 k2
    have e1 : x = tw p := by
      have : (if ("is" : Str) = "is" then decide (x = tw p) else !decide (x = tw p)) = true := k1
      rw [if_pos rfl] at this
      exact of_decide_eq_true this
    have e2 : x = tw q := by
      have : (if ("is" : Str) = "is" then decide (x = tw q) else !decide (x = tw q)) = true := k2
      rw [if_pos rfl] at this
      exact of_decide_eq_true this
    rw [tw_inj (by omega) (by omega) (e1.symm.trans e2)]
  · exact absurd h (by decide +kernel)
theorem great_at {many again i : Nat} (h : i < many) : (great many again)[i]? = some (gr i) := by
  rw [great, List.getElem?_append_left (by simpa using h), List.getElem?_map, List.getElem?_range h]
  rfl
theorem great_end (many again : Nat) : (great many again)[many]? = some (gr again) := by
  rw [great, List.getElem?_append_right (by simp)]
  simp
theorem great_swp {a i : Nat} (ha : a < 19) (hi : i < 19) : Swp kn0.fields (great 19 a) i := by
  refine swp_free (by rw [great_len]; omega) fun r1 r2 e1 e2 c hc h1 h2 => ?_
  rw [great_at hi] at e1
  obtain rfl := Option.some.inj e1
  by_cases h : i + 1 < 19
  · rw [great_at h] at e2
    obtain rfl := Option.some.inj e2
    exact gr_apart (by omega) (by omega) hc h1 h2
  · have : i = 18 := by omega
    subst this
    rw [great_end] at e2
    obtain rfl := Option.some.inj e2
    exact gr_apart (by omega) (by omega) hc h1 h2
/-! ### small lists have few groups -/
theorem sum_nTests : ∀ (fs : Flds) (ts : List Tst), (fs.map (·.1)).Nodup → (fs.map fun f => nTests ts f.1).sum ≤ ts.length
  | [], ts, _ => Nat.zero_le _
  | f :: fs, ts, nd => by
    rw [List.map_cons, List.nodup_cons] at nd
    have ih := sum_nTests fs (ts.filter fun t => !decide (t.1 = f.1)) nd.2
    have e : (fs.map fun g => nTests (ts.filter fun t => !decide (t.1 = f.1)) g.1) = fs.map fun g => nTests ts g.1 := by
      refine List.map_congr_left fun g hg => ?_
      have ne : g.1 ≠ f.1 := fun z => nd.1 (List.mem_map.mpr ⟨g, hg, z⟩)
      unfold nTests
      rw [List.filter_filter]
      congr 1
      apply List.filter_congr
      intro t _
      by_cases h : t.1 = g.1
      · have : ¬ t.1 = f.1 := fun z => ne (h.symm.trans z)
        simp [h, ne]
      · simp [h]
    rw [e] at ih
    have h2 : ts.length = (ts.filter fun t => decide (t.1 = f.1)).length + (ts.filter fun t => !decide (t.1 = f.1)).length := by
      clear ih e nd
      induction ts with
      | nil => rfl
      | cons t ts ih =>
        by_cases h : t.1 = f.1 <;> simp [List.filter_cons, h] <;> omega
    rw [List.map_cons, List.sum_cons]
    show (ts.filter fun t => decide (t.1 = f.1)).length + _ ≤ _
    omega
theorem two_le : ∀ a, a < 13 → ∀ b, b < 13 → (a + 1) * (b + 1) ≤ (a + b + 2) * (a + b + 2) / 4 := by decide +kernel
theorem four_le : ∀ s, s < 13 → ∀ t, t < 13 → s + t ≤ 12 → ((s + 2) * (s + 2) / 4) * ((t + 2) * (t + 2) / 4) ≤ 2000 := by decide +kernel
theorem prod4 {a b c d : Nat} (h : a + b + c + d ≤ 12) : (a + 1) * (b + 1) * ((c + 1) * (d + 1)) ≤ 2000 :=
  Nat.le_trans (Nat.mul_le_mul (two_le a (by omega) b (by omega)) (two_le c (by omega) d (by omega))) (four_le (a + b) (by omega) (c + d) (by omega) (by omega))
theorem small_prod {ts : List Tst} {ms : List (List V)} {fs : Flds} (h : Paired (MemOk ts) ms fs) (h4 : fs.length ≤ 4) (nd : (fs.map (·.1)).Nodup) (h12 : ts.length ≤ 12) : prodL ms ≤ 2000 := by
  have hs := Nat.le_trans (sum_nTests fs ts nd) h12
  have hm : ∀ {m : List V} {f : Str × Str}, MemOk ts m f → m.length ≤ nTests ts f.1 + 1 := fun h => mem_len h
  match ms, fs, h with
  | _, _, .nil => decide
  | _, _, .cons r .nil =>
    have h1 := hm r
    simp at hs
    show 1 * _ ≤ 2000
    omega
  | _, _, .cons (b := f1) r (.cons (b := f2) r2 .nil) =>
    simp at hs
    have := prod4 (a := nTests ts f1.1) (b := nTests ts f2.1) (c := 0) (d := 0) (by omega)
    have h3 := Nat.mul_le_mul (hm r) (hm r2)
    show 1 * _ * _ ≤ 2000
    rw [Nat.one_mul]
    omega
  | _, _, .cons (b := f1) r (.cons (b := f2) r2 (.cons (b := f3) r3 .nil)) =>
    simp at hs
    have := prod4 (a := nTests ts f1.1) (b := nTests ts f2.1) (c := nTests ts f3.1) (d := 0) (by omega)
    have h3 := Nat.mul_le_mul (Nat.mul_le_mul (hm r) (hm r2)) (hm r3)
    show 1 * _ * _ * _ ≤ 2000
    rw [Nat.one_mul]
    rw [Nat.zero_add, Nat.mul_one] at this
    exact Nat.le_trans h3 this
  | _, _, .cons (b := f1) r (.cons (b := f2) r2 (.cons (b := f3) r3 (.cons (b := f4) r4 .nil))) =>
    simp at hs
    have := prod4 (a := nTests ts f1.1) (b := nTests ts f2.1) (c := nTests ts f3.1) (d := nTests ts f4.1) (by omega)
    have h3 := Nat.mul_le_mul (Nat.mul_le_mul (hm r) (hm r2)) (Nat.mul_le_mul (hm r3) (hm r4))
    show 1 * _ * _ * _ * _ ≤ 2000
    rw [Nat.one_mul, Nat.mul_assoc]
    exact Nat.le_trans h3 this
  | _, _, .cons r (.cons r2 (.cons r3 (.cons r4 (.cons r5 t)))) =>
    simp only [List.length_cons] at h4
    omega
theorem small_tests {k : Knd} (kok : KndOk k) {rs : List Rul} (ok : RulsOk k rs) (h7 : rs.length ≤ 7) : (allTests rs).length ≤ 12 := by
  obtain ⟨a, e⟩ := ok.last
  have hne : rs ≠ [] := fun z => by rw [z] at e; cases e
  have e2 : rs = rs.dropLast ++ [([], a)] := by
    have h1 := List.dropLast_concat_getLast hne
    rw [List.getLast?_eq_some_getLast hne] at e
    rw [← Option.some.inj e]
    exact h1.symm
  have h1 : (allTests rs.dropLast).length ≤ 2 * rs.dropLast.length := allTests_len fun r hr => (ok.rul (List.dropLast_subset _ hr)).small kok
  have h2 : allTests rs = allTests rs.dropLast := by
    conv => lhs; rw [e2]
    simp [allTests]
  rw [h2]
  rw [List.length_dropLast] at h1
  omega
end K5
set_option Elab.async false
set_option linter.all false
set_option maxRecDepth 100000
set_option maxHeartbeats 2000000
namespace K5
open PySem PySem.Spec PyProof.Rows L2
abbrev N__law_two : List Str := ["_law_k"]
abbrev P__law_two : List Str := ["_law_k"]
theorem sc__law_two : FnScope N__law_two P__law_two (defScope s__law_two) := ⟨rfl, rfl, rfl, by decide +kernel, rfl, by decide +kernel, by decide +kernel⟩
abbrev N__law_border : List Str := ["_law_k"]
abbrev P__law_border : List Str := ["_law_k"]
theorem sc__law_border : FnScope N__law_border P__law_border (defScope s__law_border) := ⟨rfl, rfl, rfl, by decide +kernel, rfl, by decide +kernel, by decide +kernel⟩
abbrev N__law_great : List Str := ["_law_many", "_law_again", "_law_answers", "_law_first", "_law_rules_here", "_law_k", "_law_tests"]
abbrev P__law_great : List Str := ["_law_many", "_law_again", "_law_answers", "_law_first"]
theorem sc__law_great : FnScope N__law_great P__law_great (defScope s__law_great) := ⟨rfl, rfl, rfl, by decide +kernel, rfl, by decide +kernel, by decide +kernel⟩
def sp_two : Sp := fun vs H Q _ => ∃ k : Nat, vs = [.int k] ∧ k < 26 ∧ Q (.str (tw k)) H
def sp_border (K : PySem.W.Frag) : Sp := fun vs H Q _ => ∃ k : Nat, vs = [.int k] ∧ k < 9 ∧ ∀ p, H p = none → Q (.ref p) (upd H p (.tup [.str (bd k).1, .str (bd k).2.1, (bd k).2.2]))
def sp_great (K : PySem.W.Frag) : Sp := fun vs H Q _ => ∃ B, ∃ m a : Nat, ∃ la, vs = [.int m, .int a, .ref la, .int 0] ∧ m ≤ 20 ∧ a < m ∧ Same B H ∧ H la = some (.lst [.str "yes", .str "no"]) ∧
  ∀ q xs B' H', Step B H B' H' → H q = none → B' q = none → H' q = some (.lst xs) → Paired (RuA K B') xs (great m a) → Q (.ref q) H'
section
variable {P : Program} {w : World} {K : PySem.W.Frag} {mg : Str → Option Value} {base : Heap}
theorem ok_two (T : Top K mg) : Cal P w K mg base CX0 1 "_law_two" sp_two := by
  have nd := sc__law_two.nd
  refine cal_of (ps := P__law_two) T.d__law_two (fun _ _ _ _ _ _ us hl => match us, hl with | [_], _ => rfl) sc__law_two (fun vs H Q E h => ?_) (fun f cdv A outer s H vs Q E hr h => ?_)
  · obtain ⟨k, rfl, _⟩ := h
    rfl
  · obtain ⟨kk, rfl, h26, k⟩ := h
    refine ⟨_, (pss_one (ps_ret (pe_op op_add_str (pe_ix ix_str pe_str (pe_op op_modN (pv 0) pe_int) (fun _ _ => rfl)) (pe_ix ix_str pe_str (pe_op op_fdivN (pv 0) pe_int) (fun _ _ => rfl))))), ?_⟩
    have e : (kk : Int).fdiv 26 = ((0 : Nat) : Int) := by
      rw [Int.fdiv_eq_ediv_of_nonneg _ (by decide)]
      omega
    refine ⟨_, rfl, _, _, rfl, rfl, (show (26 : Int) ≠ 0 by decide), _, _, _, rfl, rfl, (show 26 ≤ sizeLine by decide), let_at kk rfl, _, rfl, _, _, rfl, rfl, ⟨by decide, by decide⟩, _, _, _, rfl, rfl, (show 6 ≤ sizeLine by decide), by rw [e]; exact rfl, _, _, rfl, rfl, (show 1 + 1 ≤ sizeLine by decide), k⟩
theorem ok_border (T : Top K mg) : Cal P w K mg base CX0 1 "_law_border" (sp_border K) := by
  have nd := sc__law_border.nd
  refine cal_of (ps := P__law_border) T.d__law_border (fun _ _ _ _ _ _ us hl => match us, hl with | [_], _ => rfl) sc__law_border (fun vs H Q E h => ?_) (fun f cdv A outer s H vs Q E hr h => ?_)
  · obtain ⟨k, rfl, _⟩ := h
    rfl
  · obtain ⟨kk, rfl, h9, k⟩ := h
    refine ⟨_, (pss_one (ps_ret (pe_ifExp (pt_cmpR op_eq (pe_op op_modN (pv 0) pe_int) pe_int (nomark _)) (pe_tup (pa_cons pe_str (pa_cons pe_str (pa_cons (pe_op op_mul pe_int (pv 0)) pa_nil)))) (pe_tup (pa_cons pe_str (pa_cons pe_str (pa_cons (pe_op op_add (pe_op op_mul pe_int (pv 0)) pe_int) pa_nil))))))), ?_⟩
    have e : (kk : Int).fmod 2 = ((kk % 2 : Nat) : Int) := by
      rw [Int.fmod_eq_emod_of_nonneg _ (by decide)]
      omega
    have h3 : 3 ≤ sizeLine := by decide
    refine ⟨_, rfl, _, _, rfl, rfl, (show (2 : Int) ≠ 0 by decide), rfl, _, rfl, ?_⟩
    by_cases h : kk % 2 = 0
    · rw [bd, if_pos h] at k
      rw [decide_eq_true (show (fun i j : Int => V.int (i.fmod j)) (kk : Int) 2 = V.int 0 by dsimp only; rw [e, h]; rfl)]
      exact iteT ⟨_, rfl, _, _, rfl, rfl, .inl ⟨by decide, by decide⟩, h3, k⟩
    · rw [bd, if_neg h] at k
      rw [decide_eq_false (show ¬ (fun i j : Int => V.int (i.fmod j)) (kk : Int) 2 = V.int 0 from fun z => h (by dsimp only at z; rw [e] at z; have := V.int.inj z; omega))]
      exact iteF ⟨_, rfl, _, _, rfl, rfl, .inl ⟨by decide, by decide⟩, _, _, rfl, rfl, h3, k⟩
theorem ok_great (T : Top K mg) (c__law_two : Cal P w K mg base CX0 1 "_law_two" sp_two) (c__law_border : Cal P w K mg base CX0 1 "_law_border" (sp_border K)) : Cal P w K mg base CX0 2 "_law_great" (sp_great K) := by
  have nd := sc__law_great.nd
  refine cal_of (ps := P__law_great) T.d__law_great (fun _ _ _ _ _ _ us hl => match us, hl with | [_, _, _, _], _ => rfl) sc__law_great (fun vs H Q E h => ?_) (fun f cdv A outer s H vs Q E hr h => ?_)
  · obtain ⟨B, m, a, la, rfl, _⟩ := h
    rfl
  · obtain ⟨B, m, a, la, rfl, hm, ha, sB, hla, k⟩ := h
    refine ⟨_, (pss_cons (ps_set (i := 4) nd rfl (by first | exact Or.inl rfl | exact Or.inr rfl) (pe_lst pa_nil))
    (pss_cons (ps_for PassesOwn.never rfl (pi_range1 (by rfl) T.f_range (pa_cons (pv 0) pa_nil)) (pg_name (i := 5) nd rfl (by first | exact Or.inl rfl | exact Or.inr rfl)) (pss_cons (ps_set (i := 6) nd rfl (by first | exact Or.inl rfl | exact Or.inr rfl) (pe_lst (pa_cons (pe_tup (pa_cons pe_str (pa_cons pe_str (pa_cons (pcal c__law_two hr (by decide) (by rfl) (pa_cons (pe_op op_add (pv 3) (pv 5)) pa_nil)) pa_nil)))) pa_nil)))
    (pss_cons (ps_if (pt_cmpR op_lt (pv 5) pe_int (nomark _)) (pss_one (ps_expr (pe_bm PySem.F.plainAttrs_list PySem.F.slot_list_append PySem.F.type_list_append mt_append (pv 6) (pa_cons (pe_ifExp (pt_cmpR op_lt (pv 5) pe_int (nomark _)) (pe_tup (pa_cons pe_str (pa_cons pe_str (pa_cons (pcal c__law_two hr (by decide) (by rfl) (pa_cons (pv 5) pa_nil)) pa_nil)))) (pcal c__law_border hr (by decide) (by rfl) (pa_cons (pe_op op_sub (pv 5) pe_int) pa_nil))) pa_nil)))) (pss_one (ps_expr (pe_bm PySem.F.plainAttrs_list PySem.F.slot_list_append PySem.F.type_list_append mt_append (pv 6) (pa_cons (pe_ix ix_list (pe_lst (pa_cons (pe_tup (pa_cons pe_str (pa_cons pe_str (pa_cons pe_int pa_nil)))) (pa_cons (pe_tup (pa_cons pe_str (pa_cons pe_str (pa_cons pe_int pa_nil)))) pa_nil))) (pe_op op_sub (pv 5) pe_int) (fun _ _ => rfl)) pa_nil)))))
    (pss_one (ps_expr (pe_bm PySem.F.plainAttrs_list PySem.F.slot_list_append PySem.F.type_list_append mt_append (pv 4) (pa_cons (pe_tup (pa_cons (pv 6) (pa_cons (pe_ix ix_list (pv 2) (pe_op op_modN (pv 5) pe_int) (fun _ _ => rfl)) pa_nil))) pa_nil)))))))
    (pss_one (ps_ret (pe_op op_cat (pv 4) (pe_lst (pa_cons (pe_ix ix_list (pv 4) (pv 1) (fun _ _ => rfl)) (pa_cons (pe_tup (pa_cons (pe_lst pa_nil) (pa_cons (pe_ix ix_list (pv 2) pe_int (fun _ _ => rfl)) pa_nil))) pa_nil)))))))), ?_⟩
    have hAll : ∀ i, i ≤ m → (List.range m).map gr = (List.range m).map gr := fun _ _ => rfl
    refine ⟨by decide, fun D hD => ?_⟩
    have nB : B D = none := sB.free hD
    have Dl : la ≠ D := ne_of_none hla hD
    refine ⟨_, rfl, _, rfl, by omega, by omega, ?_⟩
    refine for_it (walk_range (lo := 0) (n := m)) (fun i σ H' => ∃ v5 v6, σ = [some (.int (m : Nat)), some (.int (a : Nat)), some (.ref la), some (.int 0), some (.ref D), v5, v6] ∧ ∃ B' xs, Step B H B' H' ∧ B' D = none ∧ H' D = some (.lst xs) ∧ Paired (RuA K B') xs ((List.range i).map gr))
      ⟨_, _, rfl, B, [], Step.tmp sB hD, nB, upd_same, .nil⟩ (fun _ _ _ _ _ => trivial) ?_ ?_
    · rintro i z σ H2 H3 hi ⟨v5, v6, rfl, B3, xs, st3, nD, hDx, hX⟩ ⟨rfl, rfl⟩
      have ei : (0 : Int) + (i : Nat) = (i : Nat) := Int.zero_add _
      dsimp only
      rw [ei]
      refine ⟨_, rfl, _, rfl, _, _, rfl, rfl, i, by dsimp only; rw [ei]; rfl, by omega, (show 3 ≤ sizeLine by decide), fun p1 hp1 => ⟨(show 1 ≤ sizeLine by decide), fun t0 ht0 => ?_⟩⟩
      have b1 := Step.new (o := .tup [.str "z", .str "is", .str (tw i)]) st3.bh hp1
      have st4 := st3.trans b1
      have Dp1 : D ≠ p1 := ne_of_none hDx hp1
      have hD4 : (upd H3 p1 (.tup [.str "z", .str "is", .str (tw i)])) D = some (.lst xs) := by rw [upd_ne Dp1]; exact hDx
      have nD4 : (upd B3 p1 (.tup [.str "z", .str "is", .str (tw i)])) D = none := by rw [upd_ne Dp1]; exact nD
      have st5 := st4.trans (Step.tmp (o := .lst [.ref p1]) st4.bh ht0)
      have Dt : D ≠ t0 := ne_of_none hD4 ht0
      have tp : p1 ≠ t0 := ne_of_none (st4.bh _ _ upd_same) ht0
      have nt5 := st4.bh.free ht0
      have tH := st4.hh.free ht0
      have hD5 : (upd (upd H3 p1 (.tup [.str "z", .str "is", .str (tw i)])) t0 (.lst [.ref p1])) D = some (.lst xs) := by rw [upd_ne Dt]; exact hD4
      have s34 : Same B3 (upd B3 p1 (.tup [.str "z", .str "is", .str (tw i)])) := b1.bb
      have hX4 := paired_mono RuA.mono s34 hX
      have hZ : TsA K (upd B3 p1 (.tup [.str "z", .str "is", .str (tw i)])) (.ref p1) ("z", "is", .str (tw i)) := ⟨p1, rfl, .inl (.inl upd_same)⟩
      have ht5 : (upd (upd H3 p1 (.tup [.str "z", .str "is", .str (tw i)])) t0 (.lst [.ref p1])) t0 = some (.lst [.ref p1]) := upd_same
      generalize (upd (upd H3 p1 (.tup [.str "z", .str "is", .str (tw i)])) t0 (.lst [.ref p1])) = H5 at st5 hD5 ht5 ⊢
      generalize (upd B3 p1 (.tup [.str "z", .str "is", .str (tw i)])) = B5 at st5 nD4 nt5 hX4 hZ
      have fin : ∀ (v : V) (B6 H6 : Hp), Step B5 H5 B6 H6 → TsA K B6 v (t2 i) → B6 D = none → B6 t0 = none → H6 D = some (.lst xs) → H6 t0 = some (.lst [.ref p1]) →
          (tDrop (tBM K "list" rAppend (tVar 4) (tCons (tTup (tCons (tVar 6) (tCons (tOp (rIxL K) (tVar 2) (tOp (rI (fun x j => j ≠ 0) fun i j => V.int (i.fmod j)) (tVar 5) (tC (V.int 2)))) tNil))) tNil)) : TS)
            { nx := fun σ H' => ∃ v5 v6, σ = [some (.int (m : Nat)), some (.int (a : Nat)), some (.ref la), some (.int 0), some (.ref D), v5, v6] ∧ ∃ B' xs, Step B H B' H' ∧ B' D = none ∧ H' D = some (.lst xs) ∧ Paired (RuA K B') xs ((List.range (i + 1)).map gr), rt := Q }
            [some (.int (m : Nat)), some (.int (a : Nat)), some (.ref la), some (.int 0), some (.ref D), some (.int (i : Nat)), some (.ref t0)] (upd H6 t0 (.lst [.ref p1, v])) := fun v B6 H6 st6 hv nD6 nt6 hD6 ht6 => by
        have st7 := ((st5.trans st6).own tH nt6).frz tH (upd_same (o := .lst [.ref p1, v]))
        have hD7 : (upd H6 t0 (.lst [.ref p1, v])) D = some (.lst xs) := by rw [upd_ne Dt]; exact hD6
        have nD7 : (upd B6 t0 (.lst [.ref p1, v])) D = none := by rw [upd_ne Dt]; exact nD6
        have ht7 : (upd H6 t0 (.lst [.ref p1, v])) t0 = some (.lst [.ref p1, v]) := upd_same
        have hb7 : (upd B6 t0 (.lst [.ref p1, v])) t0 = some (.lst [.ref p1, v]) := upd_same
        have s67 : Same B6 (upd B6 t0 (.lst [.ref p1, v])) := fun b o e => by rw [upd_ne (ne_of_none e nt6)]; exact e
        generalize (upd H6 t0 (.lst [.ref p1, v])) = H7 at st7 hD7 ht7 ⊢
        generalize (upd B6 t0 (.lst [.ref p1, v])) = B7 at st7 nD7 hb7 s67
        have s57 := st6.bb.trans s67
        have em : ((i : Nat) : Int).fmod 2 = ((i % 2 : Nat) : Int) := by
          rw [Int.fmod_eq_emod_of_nonneg _ (by decide)]
          omega
        obtain ⟨an, han, hat⟩ : ∃ an : Str, an = (gr i).2 ∧ atI [V.str "yes", V.str "no"] (((i : Nat) : Int).fmod 2) = some (.str an) := by
          rw [em]
          show ∃ an : Str, an = (if i % 2 = 0 then ("yes" : Str) else "no") ∧ _
          rcases (show i % 2 = 0 ∨ i % 2 = 1 by omega) with e | e
          · exact ⟨"yes", by rw [if_pos e], by rw [e]; rfl⟩
          · exact ⟨"no", by rw [if_neg (by omega)], by rw [e]; rfl⟩
        refine ⟨_, rfl, .inl ⟨rfl, _, SqL.of hD7⟩, _, rfl, _, rfl, _, rfl, _, _, rfl, rfl, (show (2 : Int) ≠ 0 by decide), la, _, _, _, rfl, rfl, SqL.of (st7.hh _ _ hla), hat, (show 2 ≤ sizeLine by decide), fun p8 hp8 => ?_⟩
        have b8 := Step.new (o := .tup [.ref t0, .str an]) st7.bh hp8
        have D8 : D ≠ p8 := ne_of_none hD7 hp8
        have nD8 : (upd B7 p8 (.tup [.ref t0, .str an])) D = none := by rw [upd_ne D8]; exact nD7
        refine ⟨D, xs, _, rfl, rfl, by rw [upd_ne D8]; exact hD7, ?_, _, _, rfl, _, xs ++ [.ref p8], (st7.trans b8).own hD nD8, nD8, upd_same, ?_⟩
        · rw [hX.length, List.length_map, List.length_range]
          have : 60 < sizeLine := by decide
          omega
        · rw [List.range_succ, List.map_append]
          refine paired_app (paired_mono RuA.mono (s57.trans b8.bb) hX4) (.cons ⟨p8, .ref t0, rfl, ?_, t0, [.ref p1, v], rfl, SqL.of (b8.bb _ _ hb7), .cons ?_ (.cons ?_ .nil)⟩ .nil)
          · rw [← han]
            exact .inl (.inl upd_same)
          · exact TsA.mono _ _ _ _ _ (s57.trans b8.bb) hZ
          · exact TsA.mono _ _ _ _ _ (s67.trans b8.bb) hv
      have D5 : ∀ {p : Addr} {o : HO}, H5 p = none → (upd H5 p o) D = some (.lst xs) := fun h => by rw [upd_ne (ne_of_none hD5 h)]; exact hD5
      have T5 : ∀ {p : Addr} {o : HO}, H5 p = none → (upd H5 p o) t0 = some (.lst [.ref p1]) := fun h => by rw [upd_ne (ne_of_none ht5 h)]; exact ht5
      have nD5' : ∀ {p : Addr} {o : HO}, H5 p = none → (upd B5 p o) D = none := fun h => by rw [upd_ne (ne_of_none hD5 h)]; exact nD4
      have nT5' : ∀ {p : Addr} {o : HO}, H5 p = none → (upd B5 p o) t0 = none := fun h => by rw [upd_ne (ne_of_none ht5 h)]; exact nt5
      refine ⟨_, rfl, _, _, rfl, rfl, _, rfl, ?_⟩
      by_cases h18 : i < 18
      · dsimp only
        rw [decide_eq_true (show ((i : Nat) : Int) < 18 by omega)]
        refine iteT ⟨_, rfl, .inl ⟨rfl, _, SqL.of ht5⟩, _, rfl, _, _, rfl, rfl, _, rfl, ?_⟩
        by_cases h9 : i < 9
        · dsimp only
          rw [decide_eq_true (show ((i : Nat) : Int) < 9 by omega)]
          refine iteT ⟨_, rfl, i, rfl, by omega, (show 3 ≤ sizeLine by decide), fun p2 hp2 => ?_⟩
          refine ⟨t0, _, _, rfl, rfl, T5 hp2, (show 1 < sizeLine by decide), ?_⟩
          exact fin (.ref p2) _ _ (Step.new st5.bh hp2) ⟨p2, rfl, .inl (.inl (by rw [t2, if_pos h18, if_pos h9]; exact upd_same))⟩ (nD5' hp2) (nT5' hp2) (D5 hp2) (T5 hp2)
        · dsimp only
          rw [decide_eq_false (show ¬ ((i : Nat) : Int) < 9 by omega)]
          refine iteF ⟨_, rfl, _, _, rfl, rfl, i - 9, by dsimp only; rw [show ((i : Nat) : Int) - 9 = ((i - 9 : Nat) : Int) by omega]; rfl, by omega, fun p2 hp2 => ?_⟩
          refine ⟨t0, _, _, rfl, rfl, T5 hp2, (show 1 < sizeLine by decide), ?_⟩
          exact fin (.ref p2) _ _ (Step.new st5.bh hp2) ⟨p2, rfl, .inl (.inl (by rw [t2, if_pos h18, if_neg h9]; exact upd_same))⟩ (nD5' hp2) (nT5' hp2) (D5 hp2) (T5 hp2)
      · dsimp only
        rw [decide_eq_false (show ¬ ((i : Nat) : Int) < 18 by omega)]
        refine iteF ⟨_, rfl, .inl ⟨rfl, _, SqL.of ht5⟩, (show 3 ≤ sizeLine by decide), fun a1 ha1 => ⟨(show 3 ≤ sizeLine by decide), fun a2 ha2 => ⟨(show 2 ≤ sizeLine by decide), fun l hl => ?_⟩⟩⟩
        have c1 := Step.new (o := .tup [.str "y", .str "least", .int 1]) st5.bh ha1
        have c2 := c1.trans (Step.new (o := .tup [.str "y", .str "most", .int 9999]) c1.bh ha2)
        have c3 := c2.trans (Step.tmp (o := .lst [.ref a1, .ref a2]) c2.bh hl)
        have n12 : a1 ≠ a2 := ne_of_none upd_same ha2
        have hv1 : (upd (upd B5 a1 (.tup [.str "y", .str "least", .int 1])) a2 (.tup [.str "y", .str "most", .int 9999])) a1 = some (.tup [.str "y", .str "least", .int 1]) := by rw [upd_ne n12, upd_same]
        have hv2 : (upd (upd B5 a1 (.tup [.str "y", .str "least", .int 1])) a2 (.tup [.str "y", .str "most", .int 9999])) a2 = some (.tup [.str "y", .str "most", .int 9999]) := upd_same
        have E1 : D ≠ a1 := ne_of_none hD5 ha1
        have E2 : D ≠ a2 := ne_of_none (D5 ha1) ha2
        have F1 : t0 ≠ a1 := ne_of_none ht5 ha1
        have F2 : t0 ≠ a2 := ne_of_none (T5 ha1) ha2
        have g1 : (upd (upd B5 a1 (.tup [.str "y", .str "least", .int 1])) a2 (.tup [.str "y", .str "most", .int 9999])) D = none := by rw [upd_ne E2, upd_ne E1]; exact nD4
        have g2 : (upd (upd B5 a1 (.tup [.str "y", .str "least", .int 1])) a2 (.tup [.str "y", .str "most", .int 9999])) t0 = none := by rw [upd_ne F2, upd_ne F1]; exact nt5
        have hDl : (upd (upd (upd H5 a1 (.tup [.str "y", .str "least", .int 1])) a2 (.tup [.str "y", .str "most", .int 9999])) l (.lst [.ref a1, .ref a2])) D = some (.lst xs) := c3.hh _ _ hD5
        have hTl : (upd (upd (upd H5 a1 (.tup [.str "y", .str "least", .int 1])) a2 (.tup [.str "y", .str "most", .int 9999])) l (.lst [.ref a1, .ref a2])) t0 = some (.lst [.ref p1]) := c3.hh _ _ ht5
        have hll : (upd (upd (upd H5 a1 (.tup [.str "y", .str "least", .int 1])) a2 (.tup [.str "y", .str "most", .int 9999])) l (.lst [.ref a1, .ref a2])) l = some (.lst [.ref a1, .ref a2]) := upd_same
        generalize (upd (upd (upd H5 a1 (.tup [.str "y", .str "least", .int 1])) a2 (.tup [.str "y", .str "most", .int 9999])) l (.lst [.ref a1, .ref a2])) = H6 at c3 hDl hTl hll ⊢
        generalize (upd (upd B5 a1 (.tup [.str "y", .str "least", .int 1])) a2 (.tup [.str "y", .str "most", .int 9999])) = B6 at c3 hv1 hv2 g1 g2
        rcases (show i = 18 ∨ i = 19 by omega) with e | e
        · refine ⟨_, rfl, _, _, rfl, rfl, l, _, _, .ref a1, rfl, rfl, SqL.of hll, by rw [e]; rfl, t0, _, _, rfl, rfl, hTl, (show 1 < sizeLine by decide), ?_⟩
          exact fin (.ref a1) _ _ c3 ⟨a1, rfl, .inl (.inl (by rw [t2, if_neg h18, if_pos e]; exact hv1))⟩ g1 g2 hDl hTl
        · refine ⟨_, rfl, _, _, rfl, rfl, l, _, _, .ref a2, rfl, rfl, SqL.of hll, by rw [e]; rfl, t0, _, _, rfl, rfl, hTl, (show 1 < sizeLine by decide), ?_⟩
          exact fin (.ref a2) _ _ c3 ⟨a2, rfl, .inl (.inl (by rw [t2, if_neg h18, if_neg (by omega)]; exact hv2))⟩ g1 g2 hDl hTl
    · rintro σ H2 ⟨v5, v6, rfl, B3, xs, st3, nD, hDx, hX⟩
      have ha2 : ((List.range m).map gr)[a]? = some (gr a) := by
        rw [List.getElem?_map, List.getElem?_range ha]
        rfl
      have hl := hX.length
      rw [List.length_map, List.length_range] at hl
      have hax : a < xs.length := by omega
      have hv0 : xs[a]? = some xs[a] := List.getElem?_eq_getElem hax
      obtain ⟨r, hr, hRA⟩ := paired_at hX hv0
      refine ⟨_, rfl, _, rfl, _, rfl, D, xs, _, xs[a], rfl, rfl, SqL.of hDx, atI_nat hv0, by decide, fun e0 he0 => ⟨_, rfl, la, _, _, .str "no", rfl, rfl, SqL.of (by rw [upd_ne (ne_of_none (st3.hh _ _ hla) he0)]; exact st3.hh _ _ hla), atI_nat (j := 1) rfl, (show 2 ≤ sizeLine by decide), fun p9 hp9 => ⟨(show 2 ≤ sizeLine by decide), fun l9 hl9 => ?_⟩⟩⟩
      rw [ha2] at hr
      obtain rfl := Option.some.inj hr
      have b1 := Step.new (o := .lst []) st3.bh he0
      have b2 := b1.trans (Step.new (o := .tup [.ref e0, .str "no"]) b1.bh hp9)
      have b3 := b2.trans (Step.tmp (o := .lst [xs[a], .ref p9]) b2.bh hl9)
      have De : D ≠ e0 := ne_of_none hDx he0
      have ep : e0 ≠ p9 := ne_of_none upd_same hp9
      have hDl : (upd (upd (upd H2 e0 (.lst [])) p9 (.tup [.ref e0, .str "no"])) l9 (.lst [xs[a], .ref p9])) D = some (.lst xs) := b3.hh _ _ hDx
      refine ⟨D, l9, xs, _, rfl, rfl, hDl, upd_same, ?_, fun q hq => ?_⟩
      · have : 60 < sizeLine := by decide
        show xs.length + 2 ≤ _
        omega
      · have b4 := b3.trans (Step.tmp (o := .lst (xs ++ [xs[a], .ref p9])) b3.bh hq)
        have hqH : H q = none := st3.hh.free (b3.hh.free hq)
        refine k q _ _ _ (st3.trans b4) hqH (b3.bh.free hq) upd_same (paired_app (paired_mono RuA.mono b3.bb hX) (.cons (RuA.mono _ _ _ _ _ b3.bb hRA) (.cons ⟨p9, .ref e0, rfl, .inl (.inl upd_same), e0, [], rfl, SqL.of (by rw [upd_ne ep, upd_same]), .nil⟩ .nil)))
end
end K5
set_option Elab.async false
set_option linter.all false
set_option maxRecDepth 100000
set_option maxHeartbeats 2000000
namespace K5
open PySem PySem.Spec PyProof.Rows L2
/-! ### try with several clauses 'except x as n'; what lies behind them is never reached -/
def wAsMany (K : PySem.W.Frag) (i : Nat) (D : Ends) : List (Value × (Addr → Value → Option Addr → TS)) → WX
  | [] => fun _ _ _ _ => False
  | (c, ts) :: r => fun cls d σ H => ∃ b, PySem.W.exmOne K cls c = some b ∧ (b = true → ∀ a, H a = none → ts a cls d { nx := fun σ' H' => D.nx (σ'.set i none) H', rt := D.rt, bk := fun σ' H' => D.bk (σ'.set i none) H', ct := fun σ' H' => D.ct (σ'.set i none) H' } (σ.set i (some (.ref a))) H) ∧
      (b = false → wAsMany K i D r cls d σ H)
inductive AsOk (X : Cx) (n : Str) : List ExceptHandler → List (Value × (Addr → Value → Option Addr → TS)) → Prop
  | nil (hds : List ExceptHandler) : AsOk X n hds []
  | cons {x : Str} {c : Value} {ts : Addr → Value → Option Addr → TS} {b₀ : Stmt} {suite : List Stmt} {np pos' : Pos} {hds : List ExceptHandler} {l : List (Value × (Addr → Value → Option Addr → TS))} (hc : Names X x c)
      (hsu : ∀ (a : Addr) (oe : Obj) (cls : Value) (d : Option Addr) (pn : List (Addr × Obj)), Zc cls d oe → (∃ vs, oe.data = .fields vs) → PSs (X.suite a ((a, oe) :: pn)) (b₀ :: suite) (ts a cls d)) (r : AsOk X n hds l) :
      AsOk X n (.ExceptHandler (some (.Name x np)) (some n) (b₀ :: suite) pos' :: hds) ((c, ts) :: l)
section
variable {X : Cx} {body : List Stmt} {h₀ : ExceptHandler} {hds : List ExceptHandler} {l : List (Value × (Addr → Value → Option Addr → TS))} {n : Str} {i : Nat} {pos : Pos} {tb : WX → TS}
theorem ps_try_asMany (hs : X.stack = X.env :: X.outer) (hf : X.env.frame = some X.env.locals) (hN : X.N.Nodup) (hi : X.N[i]? = some n) (hln : X.env.kindOf n = some .local)
    (hb : ∀ (W : WX) (pn : List (Addr × Obj)) (xe : Value → Shared → Prop), Takes (X.tr pn xe) W → PassesOwn (model X.prog X.w) X.A X.env xe → PSs (X.tr pn xe) body (tb W))
    (hh : AsOk X n (h₀ :: hds) l) : PS X (.Try body (h₀ :: hds) [] [] pos) (fun D σ H => tb (wAsMany X.K i D l) D σ H) := by
  refine ⟨fun pins s σ H D I h => ?_⟩
  have ok := I.ok
  have hfr : X.A.frames = some (X.env :: X.outer) := by rw [ok.frames, hs]
  have hloc : Loc X.env.scope n := .inl hln
  refine wpAny_Try_except ?_
  refine wpAny_mono ((hb (wAsMany X.K i D l) (X.pn ++ pins) (fun e s₁ => wpAny (model X.prog X.w) X.A (noteFrame e X.env) (fun _ s₂ => wpAny (model X.prog X.w) X.A (setFlight e none) (fun _ s₃ =>
    wpAny (model X.prog X.w) X.A (handleBy e X.env (h₀ :: hds)) (SP X pins D) X.xe s₃) X.xe s₂) X.xe s₁) (fun u s' xx => ?_) PassesOwn.looking).run [] s σ H D (I.toTry _) h) (fun f s1 hsp => ?_) (fun e s1 he => he)
  · obtain ⟨a, B, sI, pins', σ', H', cls, d, rfl, J', nb, up, sky, na, os, ag, w⟩ := xx
    have J : Inv X pins σ' H' sI := J'.ofTry ok
    have sky' : Sky B (X.env :: X.outer) a (Zc cls d) X.env.locals s'.heap := by rw [← hs]; exact sky
    show wpAny (model X.prog X.w) X.A (noteFrame (.ref a) X.env) _ _ _
    refine Sky.land Zc.steady hfr hf sky' fun h3 fl3 up3 => ?_
    have J3 : Inv X pins σ' H' { s' with heap := h3 } := J.landed nb fl3.1 (up.trans up3) os ag
    obtain ⟨oe3, vs3, he3, hz3, hd3⟩ := fl3.there
    have notFr : ∀ {h : Heap} {o : Obj} {vs : Array Value}, h.FunFrames B (X.env :: X.outer) → h.get? a = some o → o.data = .fields vs → a ∉ frs (X.env :: X.outer) := fun {h o vs} ff e dd hm => by
      obtain ⟨_, o', e', hnf⟩ := ff.mem hm
      rw [e] at e'; cases e'
      exact hnf _ dd
    have nfr := notFr fl3.2.2.1 he3 hd3
    have nL : a ≠ X.env.locals := fun z => nfr (List.mem_filterMap.mpr ⟨X.env, List.mem_cons_self, by rw [hf, z]⟩)
    have nF : a ∉ X.fs := fun hm => by
      obtain ⟨e, he, q⟩ := List.mem_filterMap.mp hm
      exact nfr (List.mem_filterMap.mpr ⟨e, List.mem_cons_of_mem _ he, q⟩)
    have S3 := J3.suite he3 hd3 na nL nF
    have go : ∀ {hds' : List ExceptHandler} {l' : List (Value × (Addr → Value → Option Addr → TS))}, AsOk X n hds' l' → wAsMany X.K i D l' cls d σ' H' →
        wpAny (model X.prog X.w) X.A (handleBy (.ref a) X.env hds') (SP X pins D) X.xe { s' with heap := h3 } := by
      intro hds' l' hk
      induction hk with
      | nil hds => exact fun w => False.elim w
      | @cons x c ts b₀ suite np pos' hds2 l2 hc hsu r ih =>
        intro w
        obtain ⟨b, hb1, hyes, hno⟩ := w
        refine wpAny_handleBy_cons (codeAny_handlers_test ?_) (by intro q; cases q)
        have LT : PySem.W.Looks (model X.prog X.w) h3 (typeOf (.ref a)) cls := fun A Q E s k q => wpAny_typeOf_ref (k _ _ he3) (by rw [hz3.1]; exact q)
        have LM := PySem.W.exm_one (M := model X.prog X.w) (J3.kIn) LT hb1
        have test : ∀ {Q : Value → Shared → Prop} {E : Value → Shared → Prop}, Q c { s' with heap := h3 } → wpAny (model X.prog X.w) (X.A.mark (some (.ref a))) (eval (.Name x np) X.env) Q E { s' with heap := h3 } := fun {Q E} q => by
          obtain ⟨hg, hdbg, hm | ⟨hm, hv, hnn⟩⟩ := hc
          · exact ld_glob (X := X.suite a ((a, oe3) :: (X.pn ++ pins))) S3 hg hm q hdbg
          · exact ld_blt (X := X.suite a ((a, oe3) :: (X.pn ++ pins))) S3 hg hm hv q hnn hdbg
        refine test (LM.here ?_)
        cases b with
        | true =>
          refine codeAny_handlers_suite_as ?_
          refine HandSPX.lands_againZ fl3 fun h4 fl4 up4 => ?_
          have J4 : Inv X pins σ' H' { s' with heap := h4 } := J.landed nb fl4.1 ((up.trans up3).trans up4) os ag
          obtain ⟨oe4, vs4, he4, hz4, hd4⟩ := fl4.there
          have S4 := J4.suite he4 hd4 na nL nF
          refine store_ok (X := X.suite a ((a, oe4) :: (X.pn ++ pins))) (v := .ref a) S4 hN hi hloc rfl (fun s5 S5 => ?_) (.inr hln)
          refine wpAny_mono ((hsu a oe4 cls d (X.pn ++ pins) hz4 ⟨_, hd4⟩).run [] s5 _ H' _ S5 (hyes rfl a na)) (fun f s6 hsp => ?_) (fun _ _ z => False.elim z)
          have end_ : ∀ {σ6 : L2.St} {H6 : Hp} {Q : Shared → Prop}, Inv (X.suite a ((a, oe4) :: (X.pn ++ pins))) [] σ6 H6 s6 → (∀ s7, Inv X pins (σ6.set i none) H6 s7 → Q s7) →
              wpAny (model X.prog X.w) X.A (do bindName X.env n .none; unbindBehindTheSuite X.env n pos') (fun _ s7 => Q s7) X.xe s6 := fun {σ6 H6 Q} S6 hq => gone_ok (S6.unsuite ok) hN hi hln hq
          cases f with
          | next =>
            obtain ⟨σ6, H6, S6, q6⟩ := hsp
            exact end_ S6 fun s7 J7 => ⟨_, _, J7, q6⟩
          | brk =>
            obtain ⟨σ6, H6, S6, q6⟩ := hsp
            exact end_ S6 fun s7 J7 => ⟨_, _, J7, q6⟩
          | cont =>
            obtain ⟨σ6, H6, S6, q6⟩ := hsp
            exact end_ S6 fun s7 J7 => ⟨_, _, J7, q6⟩
          | ret u =>
            obtain ⟨v6, σ6, H6, S6, r6, q6⟩ := hsp
            exact end_ S6 fun s7 J7 => ⟨_, _, _, J7, r6, q6⟩
        | false =>
          show wpAny _ X.A (handleBy (.ref a) X.env hds2) _ _ _
          exact ih (hno rfl)
    exact go hh w
  · cases f with
    | next =>
      obtain ⟨σ', H', J', q⟩ := hsp
      exact wpAny_execs_nil ⟨σ', H', J'.ofTry ok, q⟩
    | brk =>
      obtain ⟨σ', H', J', q⟩ := hsp
      exact ⟨σ', H', J'.ofTry ok, q⟩
    | cont =>
      obtain ⟨σ', H', J', q⟩ := hsp
      exact ⟨σ', H', J'.ofTry ok, q⟩
    | ret u =>
      obtain ⟨v, σ', H', J', r, q⟩ := hsp
      exact ⟨v, σ', H', J'.ofTry ok, r, q⟩
end
abbrev N__law_caught : List Str := ["_law_thing", "_law_index", "e"]
abbrev P__law_caught : List Str := ["_law_thing", "_law_index"]
theorem sc__law_caught : FnScope N__law_caught P__law_caught (defScope s__law_caught) := ⟨rfl, rfl, rfl, by decide +kernel, rfl, by decide +kernel, by decide +kernel⟩
def sp_caught (K : PySem.W.Frag) : Sp := fun vs H Q _ => ∃ v x, vs = [v, x] ∧
  ((∃ t, TyX K H v t ∧ PySem.W.kitOne K t (.ref (cR K)) = some false ∧ ∀ H' q, Same H H' → H q = none → H' q = some (.lst [.str "list", v]) → Q (.ref q) H') ∨
  ∃ k rs, RlA K H v k rs ∧ KndOk k ∧ RulsOk k rs ∧
    ((PlainT K H x ∧ inB x 0 ((rs.length : Int) - 3) = false ∧ ∀ H' q, Same H H' → H q = none → H' q = some (.lst [.str "rule", x]) → Q (.ref q) H') ∨
    ∃ i c : Nat, x = .int i ∧ i + 3 ≤ rs.length ∧ TestsOk k (allTests rs) ∧ (∀ ms, Paired (MemOk (allTests rs)) ms k.fields → prodL ms = c) ∧ 2000 < c ∧
      ∀ H' q, Same H H' → H q = none → H' q = some (.lst [.str "many", .int c]) → Q (.ref q) H'))
section
variable {X : Cx} {k j : Nat} {x : Str} {sp : Sp} {p pos : Pos} {e : Expr} {es : List Expr} {t : TA}
theorem pcalS {E : L2.St → XK} (c : Cal X.prog X.w X.K X.mg X.base (L2.CX X.prog X.w) k x sp) (hr : Room j X.A) (hk : k ≤ j) (hg : Gl X x) (hx : ∀ σ, PassesAt (L2.CX X.prog X.w) X σ (E σ)) (ha : PA X (e :: es) t)
    (hdb : (x == ("__debug__" : Str)) = false := by decide) (he : starEach (e :: es) X.env = (false, eval e X.env) :: starEach es X.env := by rfl) (hpl : (backTo pos (starEach es X.env)).any (·.1) = false := by rfl) :
    PE X (.Call (.Name x p) (e :: es) [] pos) (tCallS sp E t) := by
  obtain ⟨f, fd, ps, F, hm, kp, b⟩ := c.ex
  exact pe_callS F (hr.mono hk) hg hm kp b hx ha hdb he hpl
end
def ts_one (K : PySem.W.Frag) (x : Str) (C : Addr) (n : Str) : Addr → Value → Option Addr → TS := fun a cls d => tRet (tLst (tCons (tC (.str x)) (tCons (tXf a cls d C n (tVar 2)) tNil)))
section
variable {P : Program} {w : World} {K : PySem.W.Frag} {mg : Str → Option Value} {base : Heap}
theorem ok_caught (T : Top K mg) (Y : TopX K mg) (c_may_swap : Cal P w K mg base (L2.CX P w) 9 "may_swap" (sp_may_swap K)) : Cal P w K mg base CX0 10 "_law_caught" (sp_caught K) := by
  have nd := sc__law_caught.nd
  refine cal_of (ps := P__law_caught) T.d__law_caught (fun _ _ _ _ _ _ us hl => match us, hl with | [_, _], _ => rfl) sc__law_caught (fun vs H Q E h => ?_) (fun f cdv A outer s H vs Q E hr h => ?_)
  · obtain ⟨v, x, rfl, _⟩ := h
    rfl
  · obtain ⟨v, x, rfl, h⟩ := h
    refine ⟨_, pss_one (ps_try_asMany (i := 2) (n := "e") (tb := fun W => tRet (tLst (tCons (tC (.str "told")) (tCons (tCallS (sp_may_swap K) (WE W) (tCons (tVar 0) (tCons (tVar 1) tNil))) tNil))))
      (l := [(.ref (cIL K), ts_one K "list" (cIL K) "value"), (.ref (cNR K), ts_one K "rule" (cNR K) "value"), (.ref (cTM K), ts_one K "many" (cTM K) "count")])
      rfl rfl nd rfl rfl
      (fun W pn xe tk _ => pss_one (ps_ret (pe_lst (pa_cons pe_str (pa_cons (pcalS c_may_swap hr (by decide) rfl (fun σ => passAt tk σ) (pa_cons (pv 0) (pa_cons (pv 1) pa_nil))) pa_nil)))))
      (.cons ⟨rfl, by decide, .inl Y.g_InvalidList⟩ (fun a oe cls d pn hz hf => pss_one (ps_ret (pe_lst (pa_cons pe_str (pa_cons (pe_xf Y.x_InvalidList Y.n_InvalidList hz hf (pv 2)) pa_nil)))))
      (.cons ⟨rfl, by decide, .inl Y.g_NoRule⟩ (fun a oe cls d pn hz hf => pss_one (ps_ret (pe_lst (pa_cons pe_str (pa_cons (pe_xf Y.x_NoRule Y.n_NoRule hz hf (pv 2)) pa_nil)))))
      (.cons ⟨rfl, by decide, .inl Y.g_TooMany⟩ (fun a oe cls d pn hz hf => pss_one (ps_ret (pe_lst (pa_cons pe_str (pa_cons (pe_xf Y.x_TooMany Y.n_TooMany hz hf (pv 2)) pa_nil)))))
      (.nil _))))), ?_⟩
    have two : 2 ≤ sizeLine := by decide
    have fin : ∀ (C : Addr) (y n : Str) (u : V) (H' : Hp) (a d : Addr), Same H H' → H' d = none → (∀ H' q, Same H H' → H q = none → H' q = some (.lst [.str y, u]) → Q (.ref q) H') →
        (ts_one K y C n a (.ref C) (some d)) { nx := fun σ' H' => Q .non H', rt := Q, bk := fun σ' H' => False, ct := fun σ' H' => False } [some v, some x, some (.ref a)] (upd H' d (.xd [(n, u)])) := fun C y n u H' a d s1 hd kk => by
      refine ⟨_, rfl, rfl, rfl, d, _, u, rfl, upd_same, by simp [List.lookup], two, fun q hq => ?_⟩
      have qd : q ≠ d := fun e => by rw [e, upd_same] at hq; cases hq
      have hq' : H' q = none := by rw [upd_ne qd] at hq; exact hq
      refine kk _ q (fun b o e => ?_) (s1.free hq') upd_same
      rw [upd_ne (ne_of_none (s1 b o e) hq'), upd_ne (ne_of_none (s1 b o e) hd)]
      exact s1 b o e
    refine ⟨_, rfl, _, rfl, v, x, rfl, ?_⟩
    rcases h with ⟨t, ty, hq, kk⟩ | ⟨kn, rs, hR, kok, rok, h⟩
    · refine .inl ⟨t, ty, hq, fun d hd => ⟨true, Y.m_II, fun _ a na => ?_, fun z => (by cases z)⟩⟩
      exact fin _ _ _ _ H a d (Same.refl H) hd kk
    · refine .inr ⟨kn, rs, hR, kok, rok, ?_⟩
      rcases h with ⟨pl, hb, kk⟩ | ⟨i, c, rfl, hi, tok, hc, h2, kk⟩
      · refine .inl ⟨pl, hb, fun H' d s1 hd => ⟨false, Y.m_NI, fun z => (by cases z), fun _ => ⟨true, Y.m_NN, fun _ a na => ?_, fun z => (by cases z)⟩⟩⟩
        exact fin _ _ _ _ H' a d s1 hd kk
      · refine .inr ⟨i, rfl, hi, tok, fun ms hM => .inr ?_⟩
        rw [hc ms hM]
        refine ⟨h2, fun H' d s1 hd => ⟨false, Y.m_TI, fun z => (by cases z), fun _ => ⟨false, Y.m_TN, fun z => (by cases z), fun _ => ⟨true, Y.m_TT, fun _ a na => ?_, fun z => (by cases z)⟩⟩⟩⟩
        exact fin _ _ _ _ H' a d s1 hd kk
end
end K5
set_option Elab.async false
set_option linter.all false
set_option maxRecDepth 100000
set_option maxHeartbeats 2000000
/-! The text of a kind: Kind.__str__, Kind.__repr__. -/
namespace K5
open PySem PySem.Spec PyProof.Rows L2
def tFs (ts : List TE) : TE := fun σ H Q => tJs ts Str.empty σ H fun out H1 => Q (.str out) H1
theorem pe_joinedF {X : Cx} {v1 v2 : Expr} {rest : List Expr} {ts : List TE} {pos : Pos} (h : PJ X (v1 :: v2 :: rest) ts) : PE X (.JoinedStr (v1 :: v2 :: rest) pos) (tFs ts) := pe_joined h
abbrev N_Kind___str__ : List Str := ["self", "fields", "name", "sort"]
abbrev P_Kind___str__ : List Str := ["self"]
theorem sc_Kind___str__ : FnScope N_Kind___str__ P_Kind___str__ (defScope s_Kind___str__) := ⟨rfl, rfl, rfl, by decide +kernel, rfl, by decide +kernel, by decide +kernel⟩
abbrev N_Kind___repr__ : List Str := ["self"]
abbrev P_Kind___repr__ : List Str := ["self"]
theorem sc_Kind___repr__ : FnScope N_Kind___repr__ P_Kind___repr__ (defScope s_Kind___repr__) := ⟨rfl, rfl, rfl, by decide +kernel, rfl, by decide +kernel, by decide +kernel⟩
def ftxt (f : Str × Str) : Str := ((Str.empty ++ f.1) ++ ":") ++ f.2
def fjoin (k : Knd) : Str := Txt.join " " (k.fields.map ftxt)
def kstr (k : Knd) : Str := ((((Str.empty ++ ((toString k.width : String) : Str)) ++ " | ") ++ (if ((fjoin k).length : Int) != 0 then fjoin k else "-")) ++ " | ") ++ Txt.join " " k.answers
def krep (k : Knd) : Str := ((Str.empty ++ "Kind.parse(") ++ reprText (kstr k)) ++ ")"
/-- short, of code points -/
def Sml (n : Nat) (x : Str) : Prop := x.length ≤ n ∧ ∀ c ∈ x.cps.toList, c < 16 ^ 8
theorem Sml.app {n m : Nat} {x y : Str} (h : Sml n x) (g : Sml m y) : Sml (n + m) (x ++ y) := by
  refine ⟨by rw [app_len]; exact Nat.add_le_add h.1 g.1, fun c hc => ?_⟩
  have e : (x ++ y).cps.toList = x.cps.toList ++ y.cps.toList := by
    show (x.cps ++ y.cps).toList = _
    simp
  rw [e] at hc
  rcases List.mem_append.mp hc with z | z
  · exact h.2 c z
  · exact g.2 c z
theorem Sml.le {n m : Nat} {x : Str} (h : Sml n x) (l : n ≤ m) : Sml m x := ⟨Nat.le_trans h.1 l, h.2⟩
theorem sum_le {n : Nat} : ∀ {l : List Str}, (∀ x ∈ l, x.length ≤ n) → (l.map (·.length)).sum ≤ l.length * n
  | [], _ => Nat.zero_le _
  | x :: l, h => by
    have h1 := h x (List.mem_cons_self ..)
    have h2 := sum_le (l := l) fun y hy => h y (List.mem_cons_of_mem _ hy)
    rw [List.map_cons, List.sum_cons, List.length_cons, Nat.succ_mul]
    omega
theorem Sml.join {n : Nat} {sep : Str} (hs : Sml 1 sep) : ∀ {l : List Str}, (∀ x ∈ l, Sml n x) → Sml (l.length * (n + 1)) (Str.join sep l)
  | [], _ => ⟨Nat.zero_le _, fun c hc => absurd hc (by simp [Str.join, Str.empty])⟩
  | [x], h => (h x (List.mem_singleton.mpr rfl)).le (by simp)
  | x :: y :: r, h => by
    have h1 := h x (List.mem_cons_self ..)
    have h2 := Sml.join hs (l := y :: r) fun z hz => h z (List.mem_cons_of_mem _ hz)
    have h3 := (h1.app hs).app h2
    refine h3.le ?_
    rw [List.length_cons (a := x), Nat.succ_mul]
    omega
theorem Sml.lit {n : Nat} {x : Str} (h : (decide (x.length ≤ n) && x.cps.toList.all fun c => decide (c < 16 ^ 8)) = true) : Sml n x := by
  rw [Bool.and_eq_true] at h
  exact ⟨of_decide_eq_true h.1, fun c hc => of_decide_eq_true (List.all_eq_true.mp h.2 c hc)⟩
theorem Sml.word {x : Str} (h : WordOk x) : Sml 6 x := by
  refine ⟨h.2.1, fun c hc => ?_⟩
  have hl : (letters.cps.toList.all fun c => decide (c < 16 ^ 8)) = true := by decide +kernel
  exact of_decide_eq_true (List.all_eq_true.mp hl c (h.2.2 c hc))
theorem sml_width {k : Knd} (kok : KndOk k) : Sml 1 ((toString k.width : String) : Str) := by
  have h0 := kok.w0
  have h2 := kok.w2
  rcases (show k.width = 0 ∨ k.width = 1 ∨ k.width = 2 by omega) with e | e | e <;> rw [e] <;> exact Sml.lit (by decide +kernel)
theorem sml_fld {k : Knd} (kok : KndOk k) {f : Str × Str} (hf : f ∈ k.fields) : Sml 14 (ftxt f) := by
  have h1 := Sml.word (kok.fs.2.1 f hf).1
  have h2 : Sml 6 f.2 := by rcases (kok.fs.2.1 f hf).2 with h | h <;> rw [h] <;> exact Sml.lit (by decide +kernel)
  exact (((Sml.lit (n := 1) (x := Str.empty) (by decide +kernel)).app h1).app (Sml.lit (n := 1) (x := ":") (by decide +kernel))).app h2
theorem sml_fjoin {k : Knd} (kok : KndOk k) : Sml 60 (fjoin k) := by
  rw [fjoin, show Txt.join (" " : Str) (k.fields.map ftxt) = Str.join " " (k.fields.map ftxt) from StrLaws.glued_eq_join _ _]
  have h := Sml.join (n := 14) (Sml.lit (n := 1) (x := " ") (by decide +kernel)) (l := k.fields.map ftxt) fun x hx => by
    obtain ⟨f, hf, rfl⟩ := List.mem_map.mp hx
    exact sml_fld kok hf
  refine h.le ?_
  rw [List.length_map]
  have := kok.fs.1
  omega
theorem sml_ans {k : Knd} (kok : KndOk k) : Sml 35 (Txt.join " " k.answers) := by
  rw [show Txt.join (" " : Str) k.answers = Str.join " " k.answers from StrLaws.glued_eq_join _ _]
  have h := Sml.join (n := 6) (Sml.lit (n := 1) (x := " ") (by decide +kernel)) (l := k.answers) fun x hx => Sml.word (kok.an.2.2.1 x hx)
  refine h.le ?_
  have := kok.an.2.1
  omega
theorem sml_mid {k : Knd} (kok : KndOk k) : Sml 60 (if ((fjoin k).length : Int) != 0 then fjoin k else "-") := by
  split
  · exact sml_fjoin kok
  · exact Sml.lit (by decide +kernel)
theorem sml_kstr {k : Knd} (kok : KndOk k) : Sml 103 (kstr k) :=
  ((((((Sml.lit (n := 1) (x := Str.empty) (by decide +kernel)).app (sml_width kok)).app (Sml.lit (n := 3) (x := " | ") (by decide +kernel))).app (sml_mid kok)).app (Sml.lit (n := 3) (x := " | ") (by decide +kernel))).app (sml_ans kok)).le (by decide)
theorem kstr_rep {k : Knd} (kok : KndOk k) : (reprText (kstr k)).length ≤ 1100 := by
  have h := sml_kstr kok
  have := StrLaws.reprText_len (kstr k) h.2
  have := h.1
  omega
def sp_kstr (K : PySem.W.Frag) : Sp := fun vs H Q _ => ∃ v k, vs = [v] ∧ KdA K H v k ∧ KndOk k ∧ ∀ H', Same H H' → Q (.str (kstr k)) H'
section
variable {P : Program} {w : World} {K : PySem.W.Frag} {mg : Str → Option Value} {base : Heap}
theorem ok_kstr (T : Top K mg) : Met P w K mg base CX0 1 (cK K) "__str__" (sp_kstr K) := by
  have nd := sc_Kind___str__.nd
  refine met_of (ps := P_Kind___str__) T.m_Kind___str__ (fun _ _ _ _ _ _ us hl => match us, hl with | [_], _ => rfl) sc_Kind___str__ (fun vs H Q E h => ?_) (fun f cdv A outer s H vs Q E hr h => ?_)
  · obtain ⟨v, f, rfl, _⟩ := h
    rfl
  · obtain ⟨v, kn, rfl, ⟨p, dx, t1, t2, xs, rfl, hp, h1, h2, h3⟩, kok, k⟩ := h
    refine ⟨_, (pss_cons (ps_set (i := 1) nd rfl (by first | exact Or.inl rfl | exact Or.inr rfl) (pe_join pe_str (pe_lc (own := [("name", 2), ("sort", 3)]) (g := (gTup K 2 (gCons (gName 2) (gCons (gName 3) gNil)))) (tt := tYes) rfl nd (pi_tup (pe_fld (pv 0) rfl)) (blkOk_by (own := [("name", 2), ("sort", 3)]) (N := N_Kind___str__) (sc := defScope s_Kind___str__) (by decide +kernel)) (fun _ _ _ _ _ => (pg_tup rfl (pgs_cons (pg_name (i := 2) nd rfl (by first | exact Or.inl rfl | exact Or.inr rfl)) (pgs_cons (pg_name (i := 3) nd rfl (by first | exact Or.inl rfl | exact Or.inr rfl)) pgs_nil)))) (fun _ _ _ _ _ => pts_nil) (fun _ _ _ _ _ => (pe_joinedF (PJ.cons (pe_fmt (pv 2)) (PJ.cons pe_str (PJ.cons (pe_fmt (pv 3)) PJ.nil))))))))
    (pss_one (ps_ret (pe_joinedF (PJ.cons (pe_fmt (pe_fld (pv 0) rfl)) (PJ.cons (pe_fmt (gc rfl T.c_BAR)) (PJ.cons (pe_fmt (pe_orT (pv 1) (pe_one (gc rfl T.c_NO_FIELDS)))) (PJ.cons (pe_fmt (gc rfl T.c_BAR)) (PJ.cons (pe_fmt (pe_join pe_str (pe_fld (pv 0) rfl))) PJ.nil))))))))), ?_⟩
    have h0 := kok.w0
    have h2w := kok.w2
    have sz : ∀ {n : Nat} {x : Str}, Sml n x → n ≤ 2000 → x.length ≤ sizeLine := fun h l => Nat.le_trans h.1 (Nat.le_trans l (by decide))
    refine ⟨⟨_, rfl⟩, _, rfl, p, _, dx, _, _, rfl, hp, T.k_Kind, T.n_own_fields, kfs_fields _ _ _, t1, rfl, ⟨_, SqT.of h1⟩, fun D hD => ?_⟩
    refine lc_it (walk_tup (xs := xs)) (fun i H' => Same H H' ∧ H' D = some (.lst (((kn.fields.take i).map ftxt).map V.str))) ⟨same_new hD, upd_same⟩ (fun i H' _ p => SqT.of (p.1 _ _ h1)) ?_ ?_
    · rintro i v H1 H2 hi ⟨s1, hd⟩ ⟨rfl, hv⟩
      obtain ⟨f, hf, a, rfl, hT⟩ := paired_at h2 hv
      have hfm := List.mem_of_getElem? hf
      have hw := (kok.fs.2.1 _ hfm).1
      have sf := sml_fld kok hfm
      refine ⟨a, _, rfl, same_tup s1 hT, rfl, _, _, rfl, _, _, rfl, rfl, rfl, yesT (iteT ?_)⟩
      have w1 := Sml.word hw
      have w0 : Sml 0 Str.empty := Sml.lit (by decide +kernel)
      have w3 : Sml 1 (":" : Str) := Sml.lit (by decide +kernel)
      have w2 : Sml 6 f.2 := by rcases (kok.fs.2.1 f hfm).2 with h | h <;> rw [h] <;> exact Sml.lit (by decide +kernel)
      refine ⟨_, rfl, .inl ⟨_, rfl, sz w1 (by decide), _, rfl, sz (w0.app w1) (by decide), _, rfl, sz ((w0.app w1).app w3) (by decide), _, rfl, .inl ⟨_, rfl, sz w2 (by decide), _, rfl, sz (((w0.app w1).app w3).app w2) (by decide), ?_⟩⟩⟩
      refine ⟨_, hd, ?_, fun b o e => ?_, ?_⟩
      · rw [List.length_map, List.length_map, List.length_take]
        have := kok.fs.1
        have : 60 < sizeLine := by decide
        omega
      · rw [upd_ne (ne_of_none e hD)]
        exact s1 b o e
      · rw [upd_same, take_succ_of hf, List.map_append, List.map_append]
        rfl
    · rintro H1 ⟨s1, hd⟩
      rw [h2.length, List.take_length] at hd
      have wf := sml_fjoin kok
      refine ⟨(" " : Str), D, kn.fields.map ftxt, rfl, rfl, .inl (SqL.of hd), ?_, ?_⟩
      · have := kok.fs.1
        have h4 : ((kn.fields.map ftxt).map (·.length)).sum ≤ (kn.fields.map ftxt).length * 14 := sum_le fun x hx => by
          obtain ⟨f, hf, rfl⟩ := List.mem_map.mp hx
          exact (sml_fld kok hf).1
        rw [List.length_map] at h4 ⊢
        have : (" " : Str).length = 1 := rfl
        rw [this]
        omega
      · have ww := sml_width kok
        have wa := sml_ans kok
        have wm := sml_mid kok
        have w0 : Sml 0 Str.empty := Sml.lit (by decide +kernel)
        have wb : Sml 3 (" | " : Str) := Sml.lit (by decide +kernel)
        refine ⟨_, rfl, p, _, dx, _, _, rfl, s1 _ _ hp, T.k_Kind, T.n_own_width, kfs_width _ _ _, .inr ⟨_, rfl, ?_, _, rfl, sz (w0.app ww) (by decide), ?_⟩⟩
        · rcases (show kn.width = 0 ∨ kn.width = 1 ∨ kn.width = 2 by omega) with e | e | e <;> rw [e] <;> decide
        refine .inl ⟨_, rfl, sz wb (by decide), _, rfl, sz ((w0.app ww).app wb) (by decide), ?_⟩
        have sum : (kn.answers.map (·.length)).sum + kn.answers.length * (" " : Str).length ≤ 16777216 := by
          have := kok.an.2.1
          have h4 := sum_le (n := 6) (l := kn.answers) fun x hx => (kok.an.2.2.1 x hx).2.1
          have : (" " : Str).length = 1 := rfl
          rw [this]
          omega
        have hk := k _ s1
        refine ⟨_, rfl, ((fjoin kn).length : Int) != 0, ⟨sz wf (by decide), rfl⟩, ?_⟩
        rw [kstr] at hk
        cases hb : (((fjoin kn).length : Int) != 0) with
        | true =>
          rw [hb] at hk wm
          refine iteT (.inl ⟨_, rfl, sz wf (by decide), _, rfl, sz (((w0.app ww).app wb).app wf) (by decide), ?_⟩)
          refine .inl ⟨_, rfl, sz wb (by decide), _, rfl, sz ((((w0.app ww).app wb).app wf).app wb) (by decide), ?_⟩
          refine ⟨⟨_, rfl⟩, _, rfl, p, _, dx, _, _, rfl, s1 _ _ hp, T.k_Kind, T.n_own_answers, kfs_answers _ _ _, (" " : Str), t2, kn.answers, rfl, rfl, .inr (SqT.of (s1 _ _ h3)), sum, .inl ⟨_, rfl, sz wa (by decide), _, rfl, sz (((((w0.app ww).app wb).app wf).app wb).app wa) (by decide), hk⟩⟩
        | false =>
          rw [hb] at hk wm
          have wd : Sml 1 ("-" : Str) := Sml.lit (by decide +kernel)
          refine iteF (.inl ⟨_, rfl, sz wd (by decide), _, rfl, sz (((w0.app ww).app wb).app wd) (by decide), ?_⟩)
          refine .inl ⟨_, rfl, sz wb (by decide), _, rfl, sz ((((w0.app ww).app wb).app wd).app wb) (by decide), ?_⟩
          refine ⟨⟨_, rfl⟩, _, rfl, p, _, dx, _, _, rfl, s1 _ _ hp, T.k_Kind, T.n_own_answers, kfs_answers _ _ _, (" " : Str), t2, kn.answers, rfl, rfl, .inr (SqT.of (s1 _ _ h3)), sum, .inl ⟨_, rfl, sz wa (by decide), _, rfl, sz (((((w0.app ww).app wb).app wd).app wb).app wa) (by decide), hk⟩⟩
end
end K5
set_option Elab.async false
set_option linter.all false
set_option maxRecDepth 100000
set_option maxHeartbeats 2000000
/-! str(x), x of an own class with __str__; Kind.__repr__. -/
namespace K5
open PySem PySem.Spec PyProof.Rows L2
section
variable {P : Program} {w : World} {K : PySem.W.Frag} {mg : Str → Option Value} {base : Heap} {k j : Nat} {C : Addr} {m : Str} {sp : Sp} {A : Around} {outer : List Env} {s : Shared} {H : Hp} {a : Addr} {Q : VK} {E : Value → Shared → Prop}
theorem met_run (c : Met P w K mg base CX0 k C m sp) (hr : Room k A) (e0 : Env0 P w K mg base A outer s H) (h : sp [.ref a] H Q E0) :
    ∃ f, Meth K C m f ∧ wpAny (model P w) A (call (.ref f) [.ref a]) (fun u s' => CE outer P w H s Q u s') E s := by
  obtain ⟨f, fd, ps, hm, F, b⟩ := c.ex
  refine ⟨f, hm, ?_⟩
  have KX : K.In s.heap := e0.mod.kin.keeps fun b o e => (e0.bs b o e).1
  have hl := F.len _ _ _ _ h
  refine wpAny_call (codeAny_mono (F.run A outer s H ⟨[.ref a], []⟩ [.ref a] [.ref a] Q E0 hr e0 (b s [.ref a] KX (by simpa using hl)) (.cons rfl .nil) h) fun r s' hq => ?_)
  cases r with
  | error e => exact False.elim hq
  | ok fl =>
    cases fl with
    | ret u => exact hq
    | next => exact False.elim hq
    | brk => exact False.elim hq
    | cont => exact False.elim hq
end
section
variable {X : Cx} {k j : Nat} {C : Addr} {sp : Sp}
theorem call_strI (c : Met X.prog X.w X.K X.mg X.base CX0 k C "__str__" sp) (hr : Room j X.A) (hk : k + 2 ≤ j) :
    CallR X (.type "str") (fun xs H Q => ∃ a dx fs, xs = [.ref a] ∧ H a = some (.ins C dx fs) ∧ sp [.ref a] H (fun v H' => ∃ y : Str, v = .str y ∧ Q v H') E0) := by
  intro pins s σ H xs us Q I r q
  obtain ⟨a, dx, fs, rfl, ha, h⟩ := q
  cases r with
  | cons r rr =>
    cases rr
    obtain rfl : _ = Value.ref a := r
    obtain ⟨mA, ob, _, _, _, _⟩ := ins_get I.hok ha
    obtain ⟨od, inst, _⟩ := ob.look
    have r2 : Room k X.A.in1.in1 := ((hr.mono hk).in1).in1
    obtain ⟨f, hm, hw⟩ := met_run (E := X.xe) c r2 I.env0.in1.in1 h
    refine PySem.W.kso_call (by have := r2.un; omega) I.kIn inst hm.at_ hm.fn (wpAny_mono hw (fun u s' hu => ?_) fun _ _ z => z)
    obtain ⟨v, H', J, rv, y, rfl, hq⟩ := I.after hu
    obtain ⟨t, rfl⟩ := rv
    exact ⟨.str y, H', J, ⟨t, rfl⟩, hq⟩
end
def sp_krep (K : PySem.W.Frag) : Sp := fun vs H Q _ => ∃ v k, vs = [v] ∧ KdA K H v k ∧ KndOk k ∧ ∀ H', Same H H' → Q (.str (krep k)) H'
section
variable {P : Program} {w : World} {K : PySem.W.Frag} {mg : Str → Option Value} {base : Heap}
theorem krep_len {k : Knd} (kok : KndOk k) : (krep k).length ≤ 1200 := by
  have h := kstr_rep kok
  have e1 : (Str.empty ++ ("Kind.parse(" : Str)).length ≤ 11 := by decide +kernel
  have e2 : (")" : Str).length ≤ 1 := by decide +kernel
  rw [krep, app_len, app_len]
  omega
theorem ok_krep (T : Top K mg) (c_str : Met P w K mg base CX0 1 (cK K) "__str__" (sp_kstr K)) : Met P w K mg base CX0 4 (cK K) "__repr__" (sp_krep K) := by
  have nd := sc_Kind___repr__.nd
  refine met_of (ps := P_Kind___repr__) T.m_Kind___repr__ (fun _ _ _ _ _ _ us hl => match us, hl with | [_], _ => rfl) sc_Kind___repr__ (fun vs H Q E h => ?_) (fun f cdv A outer s H vs Q E hr h => ?_)
  · obtain ⟨v, f, rfl, _⟩ := h
    rfl
  · obtain ⟨v, kn, rfl, hK, kok, k⟩ := h
    obtain ⟨p, dx, t1, t2, xs, rfl, hp, h1, h2, h3⟩ := id hK
    refine ⟨_, (pss_one (ps_ret (pe_joinedF (PJ.cons pe_str (PJ.cons (pe_fmtR (pe_callTy (call_strI c_str hr (by decide)) (by rfl) T.f_str (by decide +kernel) (pa_cons (pv 0) pa_nil))) (PJ.cons pe_str PJ.nil)))))), ?_⟩
    have h := kstr_rep kok
    have hl := krep_len kok
    have e0 : (Str.empty ++ ("Kind.parse(" : Str)).length ≤ 11 := by decide +kernel
    have e1 : ((Str.empty ++ ("Kind.parse(" : Str)) ++ reprText (kstr kn)).length ≤ sizeLine := by
      rw [app_len]
      have : 2000 ≤ sizeLine := by decide
      omega
    refine ⟨_, rfl, Nat.le_trans e0 (by decide), _, rfl, p, dx, _, rfl, hp, _, kn, rfl, hK, kok, fun H1 s1 => ⟨_, rfl, .inl ⟨_, rfl, Nat.le_trans h (by decide), _, rfl, e1, _, rfl, ?_, k _ s1⟩⟩⟩
    exact Nat.le_trans hl (by decide)
end
end K5
set_option Elab.async false
set_option linter.all false
set_option maxRecDepth 100000
set_option maxHeartbeats 2000000
/-! repr of data, and of a list that holds an instance of an own class. -/
namespace K5
open PySem PySem.Spec PyProof.Rows L2
/-! ### data whose text fits -/
structure Sho (n m : Nat) (d : PyData) : Prop where
  c : d.canLay0 = true
  s : d.showable = true
  i : d.intsShort 32 = true
  w : d.weight ≤ n
  d : d.depth ≤ m
structure ShoL (n m : Nat) (ds : List PyData) : Prop where
  c : PyData.canLayAll0 ds = true
  s : PyData.showableAll ds = true
  i : PyData.intsShortAll 32 ds = true
  w : PyData.weightAll ds ≤ n
  d : PyData.depthAll ds ≤ m
theorem Sho.str {n m : Nat} {x : Str} (h : PyData.strOk x = true) (l : x.length ≤ n) : Sho n m (.str x) := ⟨h, rfl, rfl, l, Nat.zero_le _⟩
theorem Sho.non {n m : Nat} : Sho n m .none := ⟨rfl, rfl, rfl, Nat.zero_le _, Nat.zero_le _⟩
theorem Sho.bl {n m : Nat} (b : Bool) : Sho n m (.bool b) := ⟨rfl, rfl, rfl, Nat.zero_le _, Nat.zero_le _⟩
theorem Sho.int {m : Nat} {i : Int} (h : i.natAbs < 10 ^ 31) : Sho 120 m (.int i) := by
  have hl : i.natAbs.log2 < 104 := by
    by_cases h0 : i.natAbs = 0
    · rw [h0]
      decide
    · refine (Nat.log2_lt h0).mpr (Nat.lt_trans h ?_)
      decide
  refine ⟨rfl, ?_, ?_, ?_, Nat.zero_le _⟩
  · show decide (i.natAbs.log2 < 1920) = true
    exact decide_eq_true (by omega)
  · show decide ((PyData.shown (.int i)).length ≤ 32) = true
    have e := int_text_length_le10 (k := 31) (by decide) h
    refine decide_eq_true ?_
    show (Str.ofString (toString i)).length ≤ 32
    rw [PySem.ofString_length]
    exact e
  · show (if i == 0 then 0 else i.natAbs.log2 + 1) ≤ 120
    split <;> omega
theorem ShoL.nil {n m : Nat} : ShoL n m [] := ⟨rfl, rfl, rfl, Nat.zero_le _, Nat.zero_le _⟩
theorem ShoL.cons {n k m : Nat} {d : PyData} {ds : List PyData} (h : Sho n m d) (g : ShoL k m ds) : ShoL (n + 1 + k) m (d :: ds) := by
  refine ⟨?_, ?_, ?_, ?_, ?_⟩
  · show (d.canLay0 && PyData.canLayAll0 ds) = true
    rw [h.c, g.c]
    rfl
  · show (d.showable && PyData.showableAll ds) = true
    rw [h.s, g.s]
    rfl
  · show (d.intsShort 32 && PyData.intsShortAll 32 ds) = true
    rw [h.i, g.i]
    rfl
  · show d.weight + 1 + PyData.weightAll ds ≤ _
    have := h.w
    have := g.w
    omega
  · exact Nat.max_le.mpr ⟨h.d, g.d⟩
theorem ShoL.list {n m : Nat} {ds : List PyData} (h : ShoL n m ds) : Sho n (m + 1) (.list ds) := ⟨h.c, h.s, h.i, h.w, Nat.succ_le_succ h.d⟩
theorem ShoL.tuple {n m : Nat} {ds : List PyData} (h : ShoL n m ds) : Sho n (m + 1) (.tuple ds) := ⟨h.c, h.s, h.i, h.w, Nat.succ_le_succ h.d⟩
theorem Sho.le {n n' m m' : Nat} {d : PyData} (h : Sho n m d) (a : n ≤ n') (b : m ≤ m') : Sho n' m' d := ⟨h.c, h.s, h.i, Nat.le_trans h.w a, Nat.le_trans h.d b⟩
theorem ShoL.le {n n' m m' : Nat} {d : List PyData} (h : ShoL n m d) (a : n ≤ n') (b : m ≤ m') : ShoL n' m' d := ⟨h.c, h.s, h.i, Nat.le_trans h.w a, Nat.le_trans h.d b⟩
theorem ShoL.map {α : Type} {f : α → PyData} {n m : Nat} : ∀ {l : List α}, (∀ x ∈ l, Sho n m (f x)) → ShoL (l.length * (n + 1)) m (l.map f)
  | [], _ => .nil
  | x :: l, h => (ShoL.cons (h x (List.mem_cons_self ..)) (ShoL.map (l := l) fun y hy => h y (List.mem_cons_of_mem _ hy))).le (by rw [List.length_cons, Nat.succ_mul]; omega) (Nat.le_refl _)
theorem Sho.len {n m : Nat} {d : PyData} (h : Sho n m d) (hn : n ≤ 400000) : d.shown.length ≤ sizeLine := by
  have h1 := PyData.shown_le 32 (by decide) d (PyData.leavesShort_of_canLay0 32 d h.c h.i)
  have := h.w
  rw [sizeLine_eq]
  omega
/-! ### repr of it -/
def rReprD (K : PySem.W.Frag) : List V → Hp → VK → Prop := fun xs H Q => ∃ a d n, xs = [.ref a] ∧ Dp K H (.ref a) d ∧ Sho n 60 d ∧ n ≤ 400000 ∧ Q (.str d.shown) H
theorem cr_reprL {X : Cx} {j : Nat} (hr : Room j X.A) (hg : X.A.guards = some []) : CallR X (.builtin "repr") (rReprD X.K) := by
  intro pins s σ H xs us Q I r q
  obtain ⟨a, d, n, rfl, hd, hs, hn, q⟩ := q
  rw [Vals.ref1 r]
  obtain ⟨as, rd⟩ := Dp.reads I d _ _ hd (show RelV (.ref a) (.ref a) from rfl)
  refine repr_of_reads' rd hs.s (PyData.noDict_hsm (PyData.hasDict_of_canLay d hs.c)) hg ?_ (fun _ _ e => e) (fun h' u tk hk => ?_) (hs.len hn)
  · have := hr.un
    have := hs.d
    omega
  · exact ⟨.str d.shown, H, I.kept hk, ⟨_, rfl⟩, q⟩
theorem cr_reprD {X : Cx} {j : Nat} (hr : Room j X.A) (hg : X.A.guards = some []) : CallR X (.builtin "repr") (rReprD X.K) := cr_reprL hr hg
def boolTxt (b : Bool) : Str := if b then "True" else "False"
def rReprB : List V → Hp → VK → Prop := fun xs H Q => ∃ b, xs = [.bl b] ∧ Q (.str (boolTxt b)) H
theorem cr_reprB {X : Cx} : CallR X (.builtin "repr") rReprB := by
  intro pins s σ H xs us Q I r q
  obtain ⟨b, rfl, q⟩ := q
  cases r with
  | cons r rr =>
    cases rr
    obtain rfl : _ = Value.bool b := r
    refine P.repr_of_bool ⟨.str (boolTxt b), H, I.tok _, ⟨s.toks, ?_⟩, q⟩
    cases b <;> rfl
/-! ### a list with an instance in it -/
section
variable {prog : Program} {w : World} {A : Around} {R : Result → Shared → Prop} {a P : Addr} {items : Array Value} {i b na : Nat} {x : Value} {s : Shared} {oa : Obj}
open Builtin Builtin.List
theorem loop_step (ha : s.heap.get? a = some oa) (hda : oa.data = .seq items na) (hx : items[i]? = some x)
    (h : wpAny (model prog w) (A.under (.builtin "list.__repr__.loop" ⟨[.ref a, rawInt i, .ref P, rawInt (b : Int)], []⟩)) (pyReprUnder (b + 1) x)
      (fun t s1 => t.length ≤ sizeLine ∧ ∃ acc c, s1.heap.get? P = some { cls := .type "list", dict := none, data := .seq acc c, slots := #[] } ∧ acc.size ≤ sizeLine ∧
        codeAny (model prog w) A (.builtin "list.__repr__.loop" ⟨[.ref a, rawInt ((i + 1 : Nat) : Int), .ref P, rawInt ((b + (t.length + 2) : Nat) : Int)], []⟩) R { s1 with heap := s1.heap.update P (Obj.mapSeq (·.push (.str t s1.toks))), toks := s1.toks + 1 })
      (fun e s1 => R (.error e) s1) s) :
    codeAny (model prog w) A (.builtin "list.__repr__.loop" ⟨[.ref a, rawInt i, .ref P, rawInt (b : Int)], []⟩) R s := by
  refine codeAny_builtin F.entry_list_repr_loop ?_
  show wpAny _ _ («list.__repr__.loop» ⟨[.ref a, .int i 0, .ref P, .int (b : Int) 0], []⟩) _ _ s
  rw [repr_loop_tree]
  refine wpAny_bind (wpAny_listItems ha hda ?_)
  have hsome : items[(i : Int).toNat]? = some x := by simpa using hx
  simp only [hsome]
  rw [Int.toNat_natCast]
  refine wpAny_bind (wpAny_holding (wpAny_mono h (fun t s1 ht => ?_) fun _ _ e => e))
  obtain ⟨hz, acc, c, hP, hacc, hq⟩ := ht
  refine wpAny_bind (wpAny_mkStr ?_ hz)
  refine wpAny_bind ?_
  show wpAny _ _ (updateSeq P _) _ _ _
  refine wpAny_updateSeq hP rfl (wpAny_pure ⟨F.quiet_list_repr_loop _, ?_⟩) hacc
  have e1 : ((i : Int) + 1) = ((i + 1 : Nat) : Int) := by omega
  rw [e1]
  exact hq
theorem loop_end {done : List (Str × Tok)} {acc : Array Value} {c : Nat} (ha : s.heap.get? a = some oa) (hda : oa.data = .seq items na) (hx : items[i]? = none) (hP : s.heap.get? P = some { cls := .type "list", dict := none, data := .seq acc c, slots := #[] })
    (hacc : acc.toList = strValues done) (hz : (listText (done.map (·.1))).length ≤ sizeLine) (hR : R (.ok (.ret (.str (listText (done.map (·.1))) s.toks))) { s with toks := s.toks + 1 }) :
    codeAny (model prog w) A (.builtin "list.__repr__.loop" ⟨[.ref a, rawInt i, .ref P, rawInt (b : Int)], []⟩) R s := by
  refine codeAny_builtin F.entry_list_repr_loop ?_
  show wpAny _ _ («list.__repr__.loop» ⟨[.ref a, .int i 0, .ref P, .int (b : Int) 0], []⟩) _ _ s
  rw [repr_loop_tree]
  refine wpAny_bind (wpAny_listItems ha hda ?_)
  have hnone : items[(i : Int).toNat]? = none := by simpa using hx
  simp only [hnone]
  unfold reprEnd
  refine wpAny_bind (wpAny_listItems hP rfl ?_)
  rw [hacc, repr_fold]
  refine wpAny_bind (wpAny_pure ?_)
  exact wpAny_bind (wpAny_mkStr (wpAny_pure hR) hz)
end
section
variable {P : Program} {w : World} {K : PySem.W.Frag} {mg : Str → Option Value} {base : Heap} {k j b : Nat} {C p : Addr} {sp : Sp} {A : Around} {outer : List Env} {s : Shared} {H : Hp} {E : Value → Shared → Prop} {ox : Obj} {od : Option Obj} {Q : VK}
theorem under_inst (c : Met P w K mg base CX0 k C "__repr__" sp) (hr : Room k A) (e0 : Env0 P w K mg base A outer s H) (inst : PySem.W.InstAt s.heap p ox C od) (hb : b ≤ sizeLine) (h : sp [.ref p] H (fun v H' => (∃ y : Str, v = .str y) ∧ Q v H') E0) :
    wpAny (model P w) A (pyReprUnder b (.ref p)) (fun y s' => ∃ t, CE outer P w H s Q (.str y t) s') E s := by
  obtain ⟨f, hm, hw⟩ := met_run (E := E) c hr e0 h
  have KX : K.In s.heap := e0.mod.kin.keeps fun b o e => (e0.bs b o e).1
  have hw : wpAny (model P w) A (call (.ref f) [.ref p]) (fun v s' => ∃ y t, v = Value.str y t ∧ ∃ t, CE outer P w H s Q (.str y t) s') E s := wpAny_mono hw (fun u s' hu => by
    obtain ⟨v, H', os, bare, un, hok, rv, ⟨y, rfl⟩, q⟩ := hu
    obtain ⟨t, rfl⟩ := rv
    exact ⟨y, t, rfl, t, .str y, H', os, bare, un, hok, ⟨t, rfl⟩, q⟩) fun _ _ e => e
  refine wpAny_pyReprUnder_ref hb ?_
  unfold pyReprObjUnder pyReprObjBy
  refine wpAny_bind (wpAny_cRoomFor (by have := hr.un; omega) ?_)
  refine wpAny_bind (wpAny_bind (inst.type.here ((PySem.W.looks_findIn KX hm.at_).here ?_)))
  show wpAny _ _ (if (some (Value.ref f)).isNone = true then _ else _) _ _ _
  rw [if_neg (by simp)]
  refine wpAny_bind ?_
  simp only [callSpecialIfBoundBy?, bindSpecialIfBound?]
  refine wpAny_holding (wpAny_bind (wpAny_bind (wpAny_bind (inst.type.here ((PySem.W.looks_findIn KX hm.at_).here ?_)))))
  refine wpAny_bind (wpAny_askSetting (wpAny_ite ?_))
  have back : ∀ {v : Value} {s' : Shared}, (∃ y t, v = Value.str y t ∧ ∃ t, CE outer P w H s Q (.str y t) s') → wpAny (model P w) A ((do if (← isInstance v (.type "str")) = true then pure v else raiseError "TypeError" s!"__repr__ returned non-string (type {← typeNameOf v})") : Sem Value) (fun v s' => ∃ x u, v = Value.str x u ∧ ∃ t, CE outer P w H s Q (.str x t) s') E s' := fun {v s'} hv => by
    obtain ⟨y, t, rfl, hq⟩ := hv
    exact wpAny_bind (wpAny_isInstance (T := "str") (b := true) (typeIs_str _ _ _) isSubtype_str_str (wpAny_pure ⟨y, t, rfl, hq⟩))
  split
  · refine wpAny_bind ((PySem.W.bind_fn KX _ (beq_iff_eq.mp hm.fn)).here (wpAny_pure ?_))
    exact wpAny_bind (wpAny_mono hw (fun v s' hv => wpAny_pure (back hv)) fun _ _ e => e)
  · refine wpAny_tryCatch (wpAny_bind ((PySem.W.bind_fn KX _ (beq_iff_eq.mp hm.fn)).here (wpAny_pure ?_)))
    exact wpAny_bind (wpAny_mono hw (fun v s' hv => wpAny_pure (back hv)) fun _ _ e => e)
end
theorem under_loop_depth {A : Around} {args : Args} : (A.under (.builtin "list.__repr__.loop" args)).depth ≤ A.depth + 1 := by
  first | exact Nat.le_refl _ | exact Nat.le_succ _ | (simp [Around.under, Code.weight, Code.isCreation, Code.isGuard, Code.isCaller, Code.frames, Code.isFrame, guardIds]) | (simp [Around.under, Code.weight, Code.isCreation, Code.isGuard, Code.isCaller, Code.frames, Code.isFrame, guardIds]; omega)
theorem under_loop_frames {A : Around} {args : Args} {l : List Env} (h : A.frames = some l) : (A.under (.builtin "list.__repr__.loop" args)).frames = some l := by
  first | exact h | (simpa [Around.under, Code.envs, Code.isFrame, pushEnvs] using h)
theorem under_loop_handled {A : Around} {args : Args} (h : A.handled = none) : (A.under (.builtin "list.__repr__.loop" args)).handled = none := by
  first | exact h | simpa [Around.under] using h
theorem room_loop {k : Nat} {A : Around} {args : Args} (r : Room (k + 1) A) : Room k (A.under (.builtin "list.__repr__.loop" args)) :=
  ⟨under_loop_handled r.hd, by have := r.dp; have := under_loop_depth (A := A) (args := args); omega, by have := r.un; rw [units_under_list_loop]; omega⟩
def rReprI (K : PySem.W.Frag) (C : Addr) (sp : Sp) (x : Str) : List V → Hp → VK → Prop := fun xs H Q => ∃ a p dx fs, xs = [.ref a] ∧ H a = some (.lst [.str x, .ref p]) ∧ H p = some (.ins C dx fs) ∧
  sp [.ref p] H (fun v H' => (∃ y : Str, v = .str y) ∧ ∃ y : Str, v = .str y ∧ y.length ≤ 2000 ∧ H' a = some (.lst [.str x, .ref p]) ∧ Q (.str (listText [reprText x, y])) H') E0
theorem cr_reprI {X : Cx} {j k : Nat} {C : Addr} {sp : Sp} {x : Str} (hx : (reprText x).length ≤ 2000) (c : Met X.prog X.w X.K X.mg X.base CX0 k C "__repr__" sp) (hr : Room j X.A) (hk : k + 4 ≤ j) (hg : X.A.guards = some []) : CallR X (.builtin "repr") (rReprI X.K C sp x) := by
  intro pins s σ H xs us Q I r q
  obtain ⟨a, p, dx, fs, rfl, ha, hp, h⟩ := q
  rw [Vals.ref1 r]
  obtain ⟨its, rv, ⟨o, n, ho, hc, _, hd⟩, _⟩ := I.list (SqL.of (K := X.K) ha)
  cases rv with
  | cons r1 rv =>
    cases rv with
    | cons r2 rv =>
      cases rv
      obtain ⟨t0, rfl⟩ := r1
      obtain rfl : _ = Value.ref p := r2
      have hu := hr.un
      have z2 : 9000 ≤ sizeLine := by decide
      refine call_repr_slot (by omega) ⟨o, ho, hc⟩ PySem.F.slot_list_repr.toG ?_
      refine wpAny_call (codeAny_call_builtin PySem.F.slot_list_repr.plain PySem.F.entry_list_repr (PySem.F.slot_list_repr.check _ _ _ _ _ _ _ _ ⟨o, ho, hc⟩ (PySem.F.args_list_repr_1 _) ?_))
      refine wpAny_list_repr_head (A := X.A.in1.in1) (b := 0) hg (fun v rest kw hm => nomatch hm) ho hd ?_
      refine wpAny_bind (m := newList []) (wpAny_newObj_type ?_)
      refine wpAny_pure ⟨PySem.F.quiet_list_repr_loop _, ?_⟩
      have I1 : Inv X pins σ H { s with heap := s.heap.push { cls := .type "list", data := .seq ([] : List Value).toArray 0 } } := I.kept (t' := s.toks) fun b o e => Heap.get?_push_of_some _ e
      obtain ⟨f0, f1, f2, f3, f4, f5⟩ := I.fpOk (b := s.heap.objs.size) (Nat.le_refl _) (I.hok.fresh (Nat.le_refl _))
      have aP : a ≠ s.heap.objs.size := Nat.ne_of_lt (Heap.lt_size ho)
      generalize hP : s.heap.objs.size = P at f0 f1 f2 f3 f4 f5 aP ⊢
      refine loop_step (i := 0) (b := 0) (x := .str x t0) (Heap.get?_push_of_some _ ho) hd rfl ?_
      refine ReprIs.str x t0 (by omega) (0 + 1) (by omega) _ _ _ _ fun tk => ⟨by omega, #[], _, by rw [← hP]; exact Heap.get?_push_size _ rfl, Nat.zero_le _, ?_⟩
      have gP : (s.heap.push { cls := .type "list", data := .seq ([] : List Value).toArray 0 }).get? P = some { cls := .type "list", data := .seq ([] : List Value).toArray 0 } := by rw [← hP]; exact Heap.get?_push_size _ rfl
      have I2 : Inv X pins σ H { s with heap := (s.heap.push { cls := .type "list", data := .seq ([] : List Value).toArray 0 }).update P (Obj.mapSeq (·.push (.str (reprText x) tk))), toks := tk + 1 } :=
        I1.turned (t' := tk + 1) (fun b o hb e => (Heap.get?_update_other _ _ (Ne.symm hb)).trans e) f0 f1 f3 f4 f5
      have gP2 := Heap.get?_update_self (Obj.mapSeq (·.push (.str (reprText x) tk))) gP rfl
      have ga2 : ((s.heap.push { cls := .type "list", data := .seq ([] : List Value).toArray 0 }).update P (Obj.mapSeq (·.push (.str (reprText x) tk)))).get? a = some o := (Heap.get?_update_other _ _ (Ne.symm aP)).trans (Heap.get?_push_of_some _ ho)
      show codeAny (model X.prog X.w) X.A.in1 (Code.builtin "list.__repr__.loop" ⟨[.ref a, rawInt ((1 : Nat) : Int), .ref P, rawInt ((0 + ((reprText x).length + 2) : Nat) : Int)], []⟩) _ { s with heap := (s.heap.push { cls := .type "list", data := .seq ([] : List Value).toArray 0 }).update P (Obj.mapSeq (·.push (.str (reprText x) tk))), toks := tk + 1 }
      generalize (s.heap.push { cls := .type "list", data := .seq ([] : List Value).toArray 0 }).update P (Obj.mapSeq (·.push (.str (reprText x) tk))) = h2 at I2 gP2 ga2 ⊢
      have I3 := I2.pinned (fp := [P]) (fun b hb => by rw [List.mem_singleton.mp hb]; exact ⟨f0, f1, f2, f3, f4, f5⟩) (fun b hb => by rw [List.mem_singleton.mp hb]; exact ⟨_, gP2, fun v z => by cases z⟩)
      refine loop_step (i := 1) (x := .ref p) ga2 hd rfl ?_
      obtain ⟨mA, ob, _, _, _, _⟩ := ins_get I3.hok hp
      obtain ⟨od, inst, _⟩ := ob.look
      have e0 := I3.env0
      refine wpAny_mono (under_inst (E := fun e s1 => X.xe e s1) c (room_loop ((hr.mono (show k + 2 ≤ j by omega)).in1)) ⟨under_loop_frames e0.frames, e0.mod, e0.bs, e0.bsz, e0.funs, e0.frf, e0.hok, e0.bare⟩ inst (by omega) h) (fun y s3 hy => ?_) fun _ _ e => e
      obtain ⟨t1, ce⟩ := hy
      obtain ⟨v, H', I4, rv, y', rfl, hy2, ha4, hq⟩ := I3.after ce
      obtain ⟨t2, e2⟩ := rv
      cases e2
      have gP3 := (I4.pin (P, _) (List.mem_append_right _ (List.mem_append_right _ (mem_pinsAt (List.mem_singleton.mpr rfl) gP2)))).1
      obtain ⟨g0, g1, g2, g3, g4⟩ := I4.pin (P, _) (List.mem_append_right _ (List.mem_append_right _ (mem_pinsAt (List.mem_singleton.mpr rfl) gP2)))
      obtain ⟨its4, rv4, ⟨o4, n4, ho4, hc4, _, hd4⟩, _⟩ := I4.list (SqL.of (K := X.K) ha4)
      have len4 : its4.length = 2 := by
        have := rv4.length
        simpa using this.symm
      have I5 : Inv X pins σ H' { s3 with heap := s3.heap.update P (Obj.mapSeq (·.push (.str y s3.toks))), toks := s3.toks + 1 } :=
        I4.unpinned.turned (t' := s3.toks + 1) (fun b o hb e => (Heap.get?_update_other _ _ (Ne.symm hb)).trans e) g1 g2 f3 f4 f5
      have gP5 := Heap.get?_update_self (Obj.mapSeq (·.push (.str y s3.toks))) gP3 rfl
      have ga5 : (s3.heap.update P (Obj.mapSeq (·.push (.str y s3.toks)))).get? a = some o4 := (Heap.get?_update_other _ _ (Ne.symm aP)).trans ho4
      refine ⟨by omega, #[.str (reprText x) tk], _, gP3, by show 1 ≤ sizeLine; omega, ?_⟩
      have hl := listText_len_le [reprText x, y]
      refine loop_end (i := 2) (done := [(reprText x, tk), (y, s3.toks)]) (acc := #[.str (reprText x) tk, .str y s3.toks]) ga5 hd4 (by simp [len4]) gP5 rfl ?_ ⟨_, _, rfl, ?_⟩
      · simp only [List.map_cons, List.map_nil, List.length_cons, List.length_nil, List.sum_cons, List.sum_nil] at hl ⊢
        omega
      · exact ⟨.str (listText [reprText x, y]), H', I5.tok _, ⟨_, rfl⟩, hq⟩
end K5
set_option Elab.async false
set_option linter.all false
set_option maxRecDepth 100000
set_option maxHeartbeats 2000000
/-! Defs whose promise needs the empty guards: no repr is under way. -/
namespace K5
open PySem PySem.Spec PyProof.Rows L2
structure FnG (P : Program) (w : World) (K : PySem.W.Frag) (mg : Str → Option Value) (base : Heap) (k : Nat) (f : Addr) (fd : FuncData) (ps : List Str) (sp : Sp) : Prop where
  len : ∀ vs H Q E, sp vs H Q E → vs.length = ps.length
  run : ∀ (A : Around) (outer : List Env) (s : Shared) (H : Hp) (args : Args) (us : List Value) (vs : List V) (Q : VK) (E : XK), A.guards = some [] → Room k A → Env0 P w K mg base A outer s H → BindsTo s fd args (ps.zip us) → Vals vs us → sp vs H Q E →
    codeAny (model P w) A (.call (.ref f) args) (CR CX0 outer P w H s Q E) s
section
variable {P : Program} {w : World} {K : PySem.W.Frag} {mg : Str → Option Value} {base : Heap} {x m qual : Str} {st : Stmt} {N ps : List Str} {k : Nat} {sp : Sp} {C : Addr}
abbrev BodyG (P : Program) (w : World) (K : PySem.W.Frag) (mg : Str → Option Value) (base : Heap) (st : Stmt) (x : Str) (N : List Str) (k : Nat) (sp : Sp) : Prop :=
  ∀ (f : Addr) (cdv : Value) (A : Around) (outer : List Env) (s : Shared) (H : Hp) (vs : List V) (Q : VK) (E : XK), (A.deeper (envOfC x (defScope st) s.heap.objs.size f cdv)).guards = some [] → Room k (A.deeper (envOfC x (defScope st) s.heap.objs.size f cdv)) → sp vs H Q E →
    ∃ t, PSs (cxOf CX0 P w K mg base N x (defScope st) f cdv A outer s H E).nox (defBody st) t ∧ t { nx := fun _ H' => Q .non H', rt := Q } (start N vs) H
theorem fnG_of {f : Addr} {fd : FuncData} (F : FunD K x x (defArgs st) (defBody st) (defScope st) [] [] f fd) (S : FnScope N ps (defScope st)) (len : ∀ vs H Q E, sp vs H Q E → vs.length = ps.length) (body : BodyG P w K mg base st x N k sp) : FnG P w K mg base (k + 1) f fd ps sp := by
  obtain ⟨oc, od, dV, kV, doc, pm, an, cdv, ct, osl, rfl, lk, hcd, _, _⟩ := F.ex
  refine ⟨len, fun A outer s H args us vs Q E hg hr e0 hb r hsp => ?_⟩
  have KX : K.In s.heap := e0.mod.kin.keeps fun b o e => (e0.bs b o e).1
  have hkind : ∀ y ∈ ps.zip us, (defScope st).names.lookup y.1 = some .local ∨ ((defScope st).names.lookup y.1 = some .cell ∧ ((cellsFrom (s.heap.objs.size + 1) (defScope st).names []).lookup y.1).isSome = true) := fun y hy => by
    rcases S.par y.1 (List.of_mem_zip (a := y.1) (b := y.2) hy).1 with q | q
    · exact .inl q
    · exact .inr ⟨q, PySem.W.cellsFrom_some _ _ _ (.inl q)⟩
  refine codeAny_call_function hr.depth (KX _ _ lk) rfl S.co S.gen rfl (PySem.W.codeRec_of KX hcd) (hb _ _ _ _ (wpAny_newFunctionEnv_cells S.kind hkind fun env he s1 xx => ?_))
  subst he
  refine ⟨(e0.mod.nolimit.keeps fun b o e => (e0.bs b o e).1).keeps xx.toInCall.keep, codeAny_func ?_⟩
  obtain ⟨t, ht, hq⟩ := body f cdv A outer s H vs Q E hg (hr.deeper _) hsp
  refine wpAny_mono (ht.nox.run [] s1 (start N vs) H _ (inv_start S hr.hd e0 (len _ _ _ _ hsp) r xx) hq) (fun fl s' hs => ?_) fun e s' hs => hs
  cases fl with
  | ret u =>
    obtain ⟨v, σ', H', J, rv, q⟩ := hs
    exact ⟨v, H', J.os, J.bare, J.base, J.hok, rv, q⟩
  | next =>
    obtain ⟨σ', H', J, q⟩ := hs
    exact ⟨V.non, H', J.os, J.bare, J.base, J.hok, rfl, q⟩
  | brk =>
    obtain ⟨_, _, _, q⟩ := hs
    exact False.elim q
  | cont =>
    obtain ⟨_, _, _, q⟩ := hs
    exact False.elim q
structure CalG (P : Program) (w : World) (K : PySem.W.Frag) (mg : Str → Option Value) (base : Heap) (k : Nat) (x : Str) (sp : Sp) : Prop where
  ex : ∃ f fd ps, FnG P w K mg base k f fd ps sp ∧ mg x = some (.ref f) ∧ PySem.W.keepIn K (.ref f) = true ∧ Binds K fd ps []
theorem calG_of (D : HasDef K mg x st) (hb : BindOk st x x ps) (S : FnScope N ps (defScope st)) (len : ∀ vs H Q E, sp vs H Q E → vs.length = ps.length) (body : BodyG P w K mg base st x N k sp) : CalG P w K mg base (k + 1) x sp := by
  obtain ⟨f, fd, hm, F⟩ := D.ex
  exact ⟨f, fd, ps, fnG_of F S len body, hm, F.kp, F.bindsN hb⟩
end
section
variable {X : Cx} {k j : Nat} {x : Str} {sp : Sp} {p pos : Pos} {e : Expr} {es : List Expr} {t : TA}
theorem pcalG (hgd : X.A.guards = some []) (c : CalG X.prog X.w X.K X.mg X.base k x sp) (hr : Room j X.A) (hk : k ≤ j) (hg : Gl X x) (ha : PA X (e :: es) t)
    (hdb : (x == ("__debug__" : Str)) = false := by decide) (he : starEach (e :: es) X.env = (false, eval e X.env) :: starEach es X.env := by rfl) (hpl : (backTo pos (starEach es X.env)).any (·.1) = false := by rfl) :
    PE X (.Call (.Name x p) (e :: es) [] pos) (tCall sp [] E0 t) := by
  obtain ⟨f, fd, ps, F, hm, kp, b⟩ := c.ex
  refine ⟨fun pins s σ H Q I h => wpAny_Call_Name_kw (ld_glob I hg hm ?_ hdb)⟩
  refine PySem.W.callWith_K (h₀ := X.base) I.ok.mod.kin kp (thn (ha.run pos pins s σ H _ I h) fun us s1 ⟨vs, H1, I1, r, q⟩ => ⟨I1.kIn, ?_⟩) he hpl
  have q' : sp vs H1 Q E0 := by
    have z : sp (vs ++ []) H1 Q E0 := q
    rw [List.append_nil] at z
    exact z
  have hl : (us ++ []).length = ps.length := by rw [List.append_nil, ← r.length]; exact F.len _ _ _ _ q'
  have hb := b s1 us I1.kIn hl
  rw [List.append_nil] at hb
  refine wpAny_call (codeAny_mono (F.run X.A X.stack s1 H1 ⟨us, []⟩ us vs Q E0 hgd (hr.mono hk) I1.env0 hb r q') fun r s' hq => ?_)
  cases r with
  | error e => exact False.elim hq
  | ok fl =>
    cases fl with
    | ret u => exact I1.after hq
    | next => exact False.elim hq
    | brk => exact False.elim hq
    | cont => exact False.elim hq
end
end K5
set_option Elab.async false
set_option linter.all false
set_option maxRecDepth 100000
set_option maxHeartbeats 2000000
namespace K5
open PySem PySem.Spec PyProof.Rows L2
abbrev N__law_great_right : List Str := ["_law_number", "_law_kind_here", "_law_great_here", "_law_good", "_law_index", "_law_due"]
abbrev P__law_great_right : List Str := ["_law_number"]
theorem sc__law_great_right : FnScope N__law_great_right P__law_great_right (defScope s__law_great_right) := ⟨rfl, rfl, rfl, by decide +kernel, rfl, by decide +kernel, by decide +kernel⟩
def sp_great_right : Sp := fun vs _ Q _ => ∃ n : Int, vs = [.int n] ∧ ∀ H', Q (.bl true) H'
def dueL (w : Str) (c : V) : TE := tLst (tCons (tC (.str w)) (tCons (tC c) tNil))
def t_tail (K : PySem.W.Frag) : TS := tSeq (tFor (iList K (tLst (tCons (tTup (tCons (tC (.int 0)) (tCons (dueL "many" (.int 2100)) tNil))) (tCons (tTup (tCons (tC (.int 19)) (tCons (dueL "many" (.int 2100)) tNil))) (tCons (tTup (tCons (tC (.int 20)) (tCons (dueL "rule" (.int 20)) tNil))) (tCons (tTup (tCons (tC .non) (tCons (dueL "rule" .non) tNil))) tNil)))))) (gTup K 2 (gCons (gName 4) (gCons (gName 5) gNil)))
    (tIfS (tTest (tOp rNe (tCB (rReprD K) (tCons (tCall (sp_caught K) [] E0 (tCons (tVar 2) (tCons (tVar 4) tNil))) tNil)) (tCB (rReprD K) (tCons (tVar 5) tNil)))) (tRet (tC (.bl false))) tNext)) (tRet (tC (.bl true)))
theorem great_tests {m a : Nat} (h : (m = 20 ∧ a = 3) ∨ (m = 19 ∧ a < 19)) : TestsOk kn0 (allTests (great m a)) := by
  rcases h with ⟨rfl, rfl⟩ | ⟨rfl, ha⟩
  · exact ⟨great_few.2.1, great_few.2.2, tests_ok (great_ok (by decide) (by decide))⟩
  · exact ⟨(great_few.1 a ha).1, (great_few.1 a ha).2, tests_ok (great_ok (by decide) ha)⟩
theorem sho_pair {x : Str} (hx : PyData.strOk x = true) (hl : x.length ≤ 100) {n : Nat} {d : PyData} (h : Sho n 50 d) : Sho (102 + n) 51 (.list [.str x, d]) :=
  (ShoL.list (ShoL.cons (Sho.str hx hl) (ShoL.cons h .nil (k := 0)))).le (by omega) (Nat.le_refl _)
section
variable {P : Program} {w : World} {K : PySem.W.Frag} {mg : Str → Option Value} {base : Heap}
theorem ok_great_right (T : Top K mg) (c__law_great : Cal P w K mg base CX0 2 "_law_great" (sp_great K)) (c__law_caught : Cal P w K mg base CX0 10 "_law_caught" (sp_caught K)) (c_may_swap : Cal P w K mg base (L2.CX P w) 9 "may_swap" (sp_may_swap K))
    {fK : Addr} {fdK : FuncData} (hM : Mk K (cK K) fK) (FK : FnOk P w K mg base CX0 4 fK fdK P_Kind___init__ (sp_kind_init K)) (hKB : KBn K fdK P_Kind___init__ 3 ["width"] (fun us ws => us ++ ws) (fun vs zs => vs ++ zs))
    {fR : Addr} {fdR : FuncData} (mR : Mk K (cR K) fR) (FR : FnOk P w K mg base CX0 7 fR fdR P_RuleList___init__ (sp_rules_init K)) (bR : Binds K fdR P_RuleList___init__ []) :
    CalG P w K mg base 11 "_law_great_right" sp_great_right := by
  have nd := sc__law_great_right.nd
  refine calG_of (ps := P__law_great_right) T.d__law_great_right (fun _ _ _ _ _ _ us hl => match us, hl with | [_], _ => rfl) sc__law_great_right (fun vs H Q E h => ?_) (fun f cdv A outer s H vs Q E hgd hr h => ?_)
  · obtain ⟨n, rfl, _⟩ := h
    rfl
  · obtain ⟨n, rfl, k⟩ := h
    refine ⟨_, (pss_cons (ps_set (i := 1) nd rfl (by first | exact Or.inl rfl | exact Or.inr rfl) (pe_makeK hM FK (hr.mono (by decide)) rfl T.g_Kind hKB pass0 (pa_cons (pe_lst (pa_cons (pe_tup (pa_cons pe_str (pa_cons pe_str pa_nil))) (pa_cons (pe_tup (pa_cons pe_str (pa_cons pe_str pa_nil))) (pa_cons (pe_tup (pa_cons pe_str (pa_cons pe_str pa_nil))) pa_nil)))) (pa_cons (pe_lst (pa_cons pe_str (pa_cons pe_str pa_nil))) pa_nil)) (pk_cons pe_int pk_nil)))
    (pss_cons (ps_set (i := 2) nd rfl (by first | exact Or.inl rfl | exact Or.inr rfl) (pe_make mR FR (hr.mono (by decide)) rfl T.g_RuleList bR .nil pass0 (pa_cons (pv 1) (pa_cons (pcal c__law_great hr (by decide) (by rfl) (pa_cons pe_int (pa_cons pe_int (pa_cons (pe_lst (pa_cons pe_str (pa_cons pe_str pa_nil))) (pa_cons pe_int pa_nil))))) pa_nil))))
    (pss_cons (ps_if (pt_cmpR op_eq (pe_op op_modN (pe_callTy call_int1 (by rfl) T.f_int (by decide +kernel) (pa_cons (pv 0) pa_nil)) pe_int) pe_int (nomark _)) (pss_cons (ps_set (i := 3) nd rfl (by first | exact Or.inl rfl | exact Or.inr rfl) (pe_make mR FR (hr.mono (by decide)) rfl T.g_RuleList bR .nil pass0 (pa_cons (pv 1) (pa_cons (pcal c__law_great hr (by decide) (by rfl) (pa_cons pe_int (pa_cons (pe_op op_modN (pe_op op_fdivN (pe_callTy call_int1 (by rfl) T.f_int (by decide +kernel) (pa_cons (pv 0) pa_nil)) pe_int) pe_int) (pa_cons (pe_lst (pa_cons pe_str (pa_cons pe_str pa_nil))) (pa_cons pe_int pa_nil))))) pa_nil))))
    (pss_one (ps_if (pt_cmpR op_isnot_bl (pcalL c_may_swap hr (by decide) (by rfl) (pa_cons (pv 3) (pa_cons (pe_op op_modN (pe_op op_fdivN (pe_callTy call_int1 (by rfl) T.f_int (by decide +kernel) (pa_cons (pv 0) pa_nil)) pe_int) pe_int) pa_nil))) pe_bl (nomark _)) (pss_one (ps_ret pe_bl)) pss_nil))) pss_nil)
    (pss_cons (ps_for PassesOwn.never rfl (pi_list (pe_lst (pa_cons (pe_tup (pa_cons pe_int (pa_cons (pe_lst (pa_cons pe_str (pa_cons pe_int pa_nil))) pa_nil))) (pa_cons (pe_tup (pa_cons pe_int (pa_cons (pe_lst (pa_cons pe_str (pa_cons pe_int pa_nil))) pa_nil))) (pa_cons (pe_tup (pa_cons pe_int (pa_cons (pe_lst (pa_cons pe_str (pa_cons pe_int pa_nil))) pa_nil))) (pa_cons (pe_tup (pa_cons pe_non (pa_cons (pe_lst (pa_cons pe_str (pa_cons pe_non pa_nil))) pa_nil))) pa_nil)))))) (pg_tup rfl (pgs_cons (pg_name (i := 4) nd rfl (by first | exact Or.inl rfl | exact Or.inr rfl)) (pgs_cons (pg_name (i := 5) nd rfl (by first | exact Or.inl rfl | exact Or.inr rfl)) pgs_nil))) (pss_one (ps_if (pt_cmpR op_ne (pe_callB (cr_reprD hr hgd) (by rfl) T.f_repr (by decide +kernel) (pa_cons (pcal c__law_caught hr (by decide) (by rfl) (pa_cons (pv 2) (pa_cons (pv 4) pa_nil))) pa_nil)) (pe_callB (cr_reprD hr hgd) (by rfl) T.f_repr (by decide +kernel) (pa_cons (pv 5) pa_nil)) (nomark _)) (pss_one (ps_ret pe_bl)) pss_nil)))
    (pss_one (ps_ret pe_bl)))))), ?_⟩
    have two : 2 ≤ sizeLine := by decide
    have three : 3 ≤ sizeLine := by decide
    have sB : Same (fun _ => none) H := fun b o e => by cases e
    refine ⟨two, fun a1 h1 => ⟨two, fun a2 h2 => ⟨two, fun a3 h3 => ⟨three, fun lf hlf => ⟨two, fun la hla => ?_⟩⟩⟩⟩⟩
    have b1 := Step.new (o := .tup [.str "x", .str "word"]) sB h1
    have b2 := b1.trans (Step.new (o := .tup [.str "y", .str "number"]) b1.bh h2)
    have b3 := b2.trans (Step.new (o := .tup [.str "z", .str "word"]) b2.bh h3)
    have b4 := b3.trans (Step.tmp (o := .lst [.ref a1, .ref a2, .ref a3]) b3.bh hlf)
    have b5 := b4.trans (Step.tmp (o := .lst [.str "yes", .str "no"]) b4.bh hla)
    have n12 : a1 ≠ a2 := ne_of_none upd_same h2
    have n13 : a1 ≠ a3 := ne_of_none (b2.bh _ _ (show (upd (upd _ a1 _) a2 _) a1 = _ by rw [upd_ne n12, upd_same])) h3
    have n23 : a2 ≠ a3 := ne_of_none (b2.bh _ _ upd_same) h3
    have nlf : lf ≠ la := ne_of_none upd_same hla
    have e1 : (upd (upd (upd (fun _ => none) a1 (.tup [.str "x", .str "word"])) a2 (.tup [.str "y", .str "number"])) a3 (.tup [.str "z", .str "word"]) : Hp) a1 = some (.tup [.str "x", .str "word"]) := by rw [upd_ne n13, upd_ne n12, upd_same]
    have e2 : (upd (upd (upd (fun _ => none) a1 (.tup [.str "x", .str "word"])) a2 (.tup [.str "y", .str "number"])) a3 (.tup [.str "z", .str "word"]) : Hp) a2 = some (.tup [.str "y", .str "number"]) := by rw [upd_ne n23, upd_same]
    have e3 : (upd (upd (upd (fun _ => none) a1 (.tup [.str "x", .str "word"])) a2 (.tup [.str "y", .str "number"])) a3 (.tup [.str "z", .str "word"]) : Hp) a3 = some (.tup [.str "z", .str "word"]) := upd_same
    have elf : (upd (upd (upd (upd (upd H a1 (.tup [.str "x", .str "word"])) a2 (.tup [.str "y", .str "number"])) a3 (.tup [.str "z", .str "word"])) lf (.lst [.ref a1, .ref a2, .ref a3])) la (.lst [.str "yes", .str "no"])) lf = some (.lst [.ref a1, .ref a2, .ref a3]) := by rw [upd_ne nlf, upd_same]
    have ela : (upd (upd (upd (upd (upd H a1 (.tup [.str "x", .str "word"])) a2 (.tup [.str "y", .str "number"])) a3 (.tup [.str "z", .str "word"])) lf (.lst [.ref a1, .ref a2, .ref a3])) la (.lst [.str "yes", .str "no"])) la = some (.lst [.str "yes", .str "no"]) := upd_same
    generalize (upd (upd (upd (upd (upd H a1 (.tup [.str "x", .str "word"])) a2 (.tup [.str "y", .str "number"])) a3 (.tup [.str "z", .str "word"])) lf (.lst [.ref a1, .ref a2, .ref a3])) la (.lst [.str "yes", .str "no"])) = H1 at b5 elf ela ⊢
    generalize (upd (upd (upd (fun _ => none) a1 (.tup [.str "x", .str "word"])) a2 (.tup [.str "y", .str "number"])) a3 (.tup [.str "z", .str "word"]) : Hp) = B1 at b5 e1 e2 e3
    refine ⟨rfl, rfl, fun p dx hp hdx hne => ?_⟩
    have sn : Same H1 (upd (upd H1 dx (.own p)) p (.ins (cK K) dx [])) := fun b o e => by
      rw [upd_ne (ne_of_none e hp), upd_ne (ne_of_none e hdx)]
      exact e
    refine ⟨B1, p, dx, lf, [.ref a1, .ref a2, .ref a3], kn0.fields, la, kn0.answers, kn0.width, rfl, b5.bh.trans sn, b5.bh.free hp, upd_same, SqL.of (sn _ _ elf), .cons ⟨a1, rfl, .inl (.inl e1)⟩ (.cons ⟨a2, rfl, .inl (.inl e2)⟩ (.cons ⟨a3, rfl, .inl (.inl e3)⟩ .nil)), SqL.of (sn _ _ ela), kn0_ok, fun B2 H2 ini hKd => ⟨rfl, ?_⟩⟩
    have st2 := Ini.step b5.bh hp hdx ini
    have s2 := st2.bh
    refine ⟨_, rfl, (show 2 ≤ sizeLine by decide), fun lgp hlgp => ?_⟩
    have sagp := Step.tmp (o := .lst [.str "yes", .str "no"]) s2 hlgp
    refine ⟨B2, 20, 3, lgp, rfl, by decide, (by decide), sagp.bh, upd_same, fun qgp xsgp Dgp Jgp sbgp nqgp nDgp hqgp hPgp => ?_⟩
    intro gp dxgp hpgp hdxgp hnegp
    have scgp := sagp.trans sbgp
    have sngp : Same Jgp (upd (upd Jgp dxgp (.own gp)) gp (.ins (cR K) dxgp [])) := fun b o e => by
      rw [upd_ne (ne_of_none e hpgp), upd_ne (ne_of_none e hdxgp)]
      exact e
    refine ⟨Dgp, gp, dxgp, _, kn0, qgp, xsgp, great 20 3, rfl, scgp.bh.trans sngp, scgp.bh.free hpgp, upd_same, KdA.mono _ _ _ _ _ scgp.bb hKd, kn0_ok, SqL.of (sngp _ _ hqgp), hPgp, great_ok (by decide) (by decide), fun B3 H3 ingp hG => ⟨rfl, ?_⟩⟩
    have st3 := scgp.trans (Ini.step scgp.bh hpgp hdxgp ingp)
    have fin : ∀ (v3 : Option V) (B4 H4 : Hp), Same B4 H4 → RlA K B4 (.ref gp) kn0 (great 20 3) → t_tail K { nx := fun x H' => Q .non H', rt := Q } [some (.int n), some (.ref p), some (.ref gp), v3, none, none] H4 := fun v3 B4 H4 s4 hG4 => by
      have mk : ∀ {H : Hp} {l : Addr} {o : HO} {Q : Hp → Prop}, H l = none → Q (upd H l o) → Q (upd H l o) := fun _ h => h
      refine ⟨two, fun d1 hd1 => ⟨two, fun t1 ht1 => ⟨two, fun d2 hd2 => ⟨two, fun t2 ht2 => ⟨two, fun d3 hd3 => ⟨two, fun t3 ht3 => ⟨two, fun d4 hd4 => ⟨two, fun t4 ht4 => ⟨(show 4 ≤ sizeLine by decide), fun L hL => ?_⟩⟩⟩⟩⟩⟩⟩⟩⟩
      have w1 := Step.new (o := .lst [.str "many", .int 2100]) s4 hd1
      have w2 := w1.trans (Step.new (o := .tup [.int 0, .ref d1]) w1.bh ht1)
      have w3 := w2.trans (Step.new (o := .lst [.str "many", .int 2100]) w2.bh hd2)
      have w4 := w3.trans (Step.new (o := .tup [.int 19, .ref d2]) w3.bh ht2)
      have w5 := w4.trans (Step.new (o := .lst [.str "rule", .int 20]) w4.bh hd3)
      have w6 := w5.trans (Step.new (o := .tup [.int 20, .ref d3]) w5.bh ht3)
      have w7 := w6.trans (Step.new (o := .lst [.str "rule", .non]) w6.bh hd4)
      have w8 := w7.trans (Step.new (o := .tup [.non, .ref d4]) w7.bh ht4)
      have w9 := w8.trans (Step.new (o := .lst [.ref t1, .ref t2, .ref t3, .ref t4]) w8.bh hL)
      have up : ∀ {B H : Hp} {q : Addr} {o : HO}, Same B H → H q = none → Same B (upd H q o) := fun s h => s.trans (same_new h)
      have x1 := (Same.refl (upd H4 d1 (.lst [.str "many", .int 2100]))) _ _ upd_same
      have D1 : (upd (upd (upd (upd (upd (upd (upd (upd (upd H4 d1 (.lst [.str "many", .int 2100])) t1 (.tup [.int 0, .ref d1])) d2 (.lst [.str "many", .int 2100])) t2 (.tup [.int 19, .ref d2])) d3 (.lst [.str "rule", .int 20])) t3 (.tup [.int 20, .ref d3])) d4 (.lst [.str "rule", .non])) t4 (.tup [.non, .ref d4])) L (.lst [.ref t1, .ref t2, .ref t3, .ref t4])) d1 = some (.lst [.str "many", .int 2100]) := (up (up (up (up (up (up (up (same_new ht1) hd2) ht2) hd3) ht3) hd4) ht4) hL) _ _ upd_same
      have T1 : (upd (upd (upd (upd (upd (upd (upd (upd (upd H4 d1 (.lst [.str "many", .int 2100])) t1 (.tup [.int 0, .ref d1])) d2 (.lst [.str "many", .int 2100])) t2 (.tup [.int 19, .ref d2])) d3 (.lst [.str "rule", .int 20])) t3 (.tup [.int 20, .ref d3])) d4 (.lst [.str "rule", .non])) t4 (.tup [.non, .ref d4])) L (.lst [.ref t1, .ref t2, .ref t3, .ref t4])) t1 = some (.tup [.int 0, .ref d1]) := (up (up (up (up (up (up (same_new hd2) ht2) hd3) ht3) hd4) ht4) hL) _ _ upd_same
      have D2 : (upd (upd (upd (upd (upd (upd (upd (upd (upd H4 d1 (.lst [.str "many", .int 2100])) t1 (.tup [.int 0, .ref d1])) d2 (.lst [.str "many", .int 2100])) t2 (.tup [.int 19, .ref d2])) d3 (.lst [.str "rule", .int 20])) t3 (.tup [.int 20, .ref d3])) d4 (.lst [.str "rule", .non])) t4 (.tup [.non, .ref d4])) L (.lst [.ref t1, .ref t2, .ref t3, .ref t4])) d2 = some (.lst [.str "many", .int 2100]) := (up (up (up (up (up (same_new ht2) hd3) ht3) hd4) ht4) hL) _ _ upd_same
      have T2 : (upd (upd (upd (upd (upd (upd (upd (upd (upd H4 d1 (.lst [.str "many", .int 2100])) t1 (.tup [.int 0, .ref d1])) d2 (.lst [.str "many", .int 2100])) t2 (.tup [.int 19, .ref d2])) d3 (.lst [.str "rule", .int 20])) t3 (.tup [.int 20, .ref d3])) d4 (.lst [.str "rule", .non])) t4 (.tup [.non, .ref d4])) L (.lst [.ref t1, .ref t2, .ref t3, .ref t4])) t2 = some (.tup [.int 19, .ref d2]) := (up (up (up (up (same_new hd3) ht3) hd4) ht4) hL) _ _ upd_same
      have D3 : (upd (upd (upd (upd (upd (upd (upd (upd (upd H4 d1 (.lst [.str "many", .int 2100])) t1 (.tup [.int 0, .ref d1])) d2 (.lst [.str "many", .int 2100])) t2 (.tup [.int 19, .ref d2])) d3 (.lst [.str "rule", .int 20])) t3 (.tup [.int 20, .ref d3])) d4 (.lst [.str "rule", .non])) t4 (.tup [.non, .ref d4])) L (.lst [.ref t1, .ref t2, .ref t3, .ref t4])) d3 = some (.lst [.str "rule", .int 20]) := (up (up (up (same_new ht3) hd4) ht4) hL) _ _ upd_same
      have T3 : (upd (upd (upd (upd (upd (upd (upd (upd (upd H4 d1 (.lst [.str "many", .int 2100])) t1 (.tup [.int 0, .ref d1])) d2 (.lst [.str "many", .int 2100])) t2 (.tup [.int 19, .ref d2])) d3 (.lst [.str "rule", .int 20])) t3 (.tup [.int 20, .ref d3])) d4 (.lst [.str "rule", .non])) t4 (.tup [.non, .ref d4])) L (.lst [.ref t1, .ref t2, .ref t3, .ref t4])) t3 = some (.tup [.int 20, .ref d3]) := (up (up (same_new hd4) ht4) hL) _ _ upd_same
      have D4 : (upd (upd (upd (upd (upd (upd (upd (upd (upd H4 d1 (.lst [.str "many", .int 2100])) t1 (.tup [.int 0, .ref d1])) d2 (.lst [.str "many", .int 2100])) t2 (.tup [.int 19, .ref d2])) d3 (.lst [.str "rule", .int 20])) t3 (.tup [.int 20, .ref d3])) d4 (.lst [.str "rule", .non])) t4 (.tup [.non, .ref d4])) L (.lst [.ref t1, .ref t2, .ref t3, .ref t4])) d4 = some (.lst [.str "rule", .non]) := (up (same_new ht4) hL) _ _ upd_same
      have T4 : (upd (upd (upd (upd (upd (upd (upd (upd (upd H4 d1 (.lst [.str "many", .int 2100])) t1 (.tup [.int 0, .ref d1])) d2 (.lst [.str "many", .int 2100])) t2 (.tup [.int 19, .ref d2])) d3 (.lst [.str "rule", .int 20])) t3 (.tup [.int 20, .ref d3])) d4 (.lst [.str "rule", .non])) t4 (.tup [.non, .ref d4])) L (.lst [.ref t1, .ref t2, .ref t3, .ref t4])) t4 = some (.tup [.non, .ref d4]) := (same_new hL) _ _ upd_same
      have LL : (upd (upd (upd (upd (upd (upd (upd (upd (upd H4 d1 (.lst [.str "many", .int 2100])) t1 (.tup [.int 0, .ref d1])) d2 (.lst [.str "many", .int 2100])) t2 (.tup [.int 19, .ref d2])) d3 (.lst [.str "rule", .int 20])) t3 (.tup [.int 20, .ref d3])) d4 (.lst [.str "rule", .non])) t4 (.tup [.non, .ref d4])) L (.lst [.ref t1, .ref t2, .ref t3, .ref t4])) L = some (.lst [.ref t1, .ref t2, .ref t3, .ref t4]) := upd_same
      have s49 := w9.hh
      generalize (upd (upd (upd (upd (upd (upd (upd (upd (upd H4 d1 (.lst [.str "many", .int 2100])) t1 (.tup [.int 0, .ref d1])) d2 (.lst [.str "many", .int 2100])) t2 (.tup [.int 19, .ref d2])) d3 (.lst [.str "rule", .int 20])) t3 (.tup [.int 20, .ref d3])) d4 (.lst [.str "rule", .non])) t4 (.tup [.non, .ref d4])) L (.lst [.ref t1, .ref t2, .ref t3, .ref t4])) = H9 at D1 T1 D2 T2 D3 T3 D4 T4 LL s49 ⊢
      have hG9 : RlA K H9 (.ref gp) kn0 (great 20 3) := hG4.mono (s4.trans s49)
      have turn : ∀ (tp d : Addr) (idx c : V) (wd : Str) (dd : PyData) (v4 v5 : Option V) (H1 : Hp) (D : Ends), H9 tp = some (.tup [idx, .ref d]) → H9 d = some (.lst [.str wd, c]) → PyData.strOk wd = true → wd.length ≤ 100 → Sho 120 50 dd → (∀ H', Dp K H' c dd) →
          (∀ (H1 : Hp) (Q : VK), Same H9 H1 → (∀ H' q, Same H1 H' → H1 q = none → H' q = some (.lst [.str wd, c]) → Q (.ref q) H') → sp_caught K [.ref gp, idx] H1 Q E0) → Same H9 H1 →
          (∀ H', Same H9 H' → D.nx [some (.int n), some (.ref p), some (.ref gp), v3, some idx, some (.ref d)] H') →
          gTup K 2 (gCons (gName 4) (gCons (gName 5) gNil)) (.ref tp) [some (.int n), some (.ref p), some (.ref gp), v3, v4, v5] H1 fun σ2 H2 => tIfS (tTest (tOp rNe (tCB (rReprD K) (tCons (tCall (sp_caught K) [] E0 (tCons (tVar 2) (tCons (tVar 4) tNil))) tNil)) (tCB (rReprD K) (tCons (tVar 5) tNil)))) (tRet (tC (.bl false))) tNext D σ2 H2 := by
        intro tp d idx c wd dd v4 v5 H1 D htp hd ok len sho hdp hc s1 kk
        have hs := sho_pair ok len sho
        refine ⟨tp, _, rfl, SqT.of (s1 _ _ htp), rfl, _, _, rfl, _, _, rfl, rfl, ?_⟩
        refine ⟨_, rfl, _, rfl, ?_⟩
        dsimp only [tNil]
        refine hc H1 _ s1 fun H' q s2 nq hq => ?_
        have s12 := s1.trans s2
        refine ⟨q, _, _, rfl, .lst (SqL.of hq) (.cons (.str wd) (.cons (hdp H') .nil)), hs.le (Nat.le_refl _) (by decide), by decide, _, rfl, d, _, _, rfl, .lst (SqL.of (s12 _ _ hd)) (.cons (.str wd) (.cons (hdp H') .nil)), hs.le (Nat.le_refl _) (by decide), by decide, rfl, _, rfl, ?_⟩
        rw [show ∀ x : V, (!decide (x = x)) = false by simp]
        exact iteF (kk _ s12)
      have many : ∀ i : Nat, i < 20 → ∀ (H1 : Hp) (Q : VK), Same H9 H1 → (∀ H' q, Same H1 H' → H1 q = none → H' q = some (.lst [.str "many", .int 2100]) → Q (.ref q) H') → sp_caught K [.ref gp, .int i] H1 Q E0 := fun i hi H1 Q s1 kk =>
        ⟨_, _, rfl, .inr ⟨kn0, great 20 3, hG9.mono s1, kn0_ok, great_ok (by decide) (by decide), .inr ⟨i, 2100, rfl, by rw [great_len]; omega, great_tests (.inl ⟨rfl, rfl⟩), fun ms hM => by rw [prodL, prod_cnt 1 hM]; exact great_20, by decide, kk⟩⟩⟩
      have rule : ∀ x : V, PlainT K H9 x → inB x 0 ((22 : Nat) - 3 : Int) = false → ∀ (H1 : Hp) (Q : VK), Same H9 H1 → (∀ H' q, Same H1 H' → H1 q = none → H' q = some (.lst [.str "rule", x]) → Q (.ref q) H') → sp_caught K [.ref gp, x] H1 Q E0 := fun x hx hb H1 Q s1 kk =>
        ⟨_, _, rfl, .inr ⟨kn0, great 20 3, hG9.mono s1, kn0_ok, great_ok (by decide) (by decide), .inl ⟨plain_mono s1 hx, by rw [great_len]; exact hb, kk⟩⟩⟩
      refine ⟨L, rfl, ⟨_, SqL.of LL⟩, ?_⟩
      refine for_it (walk_list (xs := [.ref t1, .ref t2, .ref t3, .ref t4])) (fun i σ H' => (∃ v4 v5, σ = [some (.int n), some (.ref p), some (.ref gp), v3, v4, v5]) ∧ Same H9 H') ⟨⟨_, _, rfl⟩, Same.refl _⟩ (fun i σ H' _ p => SqL.of (p.2 _ _ LL)) ?_ ?_
      · rintro i z σ H1 H2 hi ⟨⟨v4, v5, rfl⟩, s1⟩ ⟨rfl, hv0⟩
        match i, hi, hv0 with
        | 0, _, e =>
          obtain rfl := Option.some.inj e
          exact turn t1 d1 _ _ _ (.int 2100) _ _ _ _ T1 D1 (by decide +kernel) (by decide +kernel) (Sho.int (by decide)) (fun _ => .int _) (many 0 (by decide)) s1 fun H' s' => ⟨⟨_, _, rfl⟩, s'⟩
        | 1, _, e =>
          obtain rfl := Option.some.inj e
          exact turn t2 d2 _ _ _ (.int 2100) _ _ _ _ T2 D2 (by decide +kernel) (by decide +kernel) (Sho.int (by decide)) (fun _ => .int _) (many 19 (by decide)) s1 fun H' s' => ⟨⟨_, _, rfl⟩, s'⟩
        | 2, _, e =>
          obtain rfl := Option.some.inj e
          exact turn t3 d3 _ _ _ (.int 20) _ _ _ _ T3 D3 (by decide +kernel) (by decide +kernel) (Sho.int (by decide)) (fun _ => .int _) (rule _ (.int _) (by decide)) s1 fun H' s' => ⟨⟨_, _, rfl⟩, s'⟩
        | 3, _, e =>
          obtain rfl := Option.some.inj e
          exact turn t4 d4 _ _ _ .none _ _ _ _ T4 D4 (by decide +kernel) (by decide +kernel) Sho.non (fun _ => .non) (rule _ .non (by decide)) s1 fun H' s' => ⟨⟨_, _, rfl⟩, s'⟩
        | i + 4, hi, _ => exact absurd hi (by simp)
      · rintro σ H1 ⟨⟨v4, v5, rfl⟩, s1⟩
        exact k _
    refine ⟨_, rfl, .inl ⟨n, rfl, _, _, rfl, rfl, (show (4 : Int) ≠ 0 by decide), rfl, _, rfl, ?_⟩⟩
    by_cases h4 : n.fmod 4 = 1
    · rw [decide_eq_true (show (fun i j : Int => V.int (i.fmod j)) n 4 = V.int 1 by dsimp only; rw [h4])]
      refine iteT ?_
      obtain ⟨a, ha, ea⟩ : ∃ a : Nat, a < 19 ∧ (n.fdiv 4).fmod 19 = (a : Int) := ⟨((n.fdiv 4).fmod 19).toNat, by have := Int.fmod_lt_of_pos (n.fdiv 4) (show (0 : Int) < 19 by decide); have := Int.fmod_nonneg_of_pos (n.fdiv 4) (show (0 : Int) < 19 by decide); omega, by have := Int.fmod_nonneg_of_pos (n.fdiv 4) (show (0 : Int) < 19 by decide); omega⟩
      obtain ⟨i, hi, ei⟩ : ∃ a : Nat, a < 19 ∧ (n.fdiv 76).fmod 19 = (a : Int) := ⟨((n.fdiv 76).fmod 19).toNat, by have := Int.fmod_lt_of_pos (n.fdiv 76) (show (0 : Int) < 19 by decide); have := Int.fmod_nonneg_of_pos (n.fdiv 76) (show (0 : Int) < 19 by decide); omega, by have := Int.fmod_nonneg_of_pos (n.fdiv 76) (show (0 : Int) < 19 by decide); omega⟩
      refine ⟨_, rfl, _, rfl, .inl ⟨n, rfl, _, _, rfl, rfl, (show (4 : Int) ≠ 0 ∧ (4 : Int).natAbs < 1073741824 by decide), _, _, rfl, rfl, (show (19 : Int) ≠ 0 by decide), (show 2 ≤ sizeLine by decide), fun lgq hlgq => ?_⟩⟩
      have sagq := Step.tmp (o := .lst [.str "yes", .str "no"]) st3.bh hlgq
      refine ⟨B3, 19, a, lgq, by dsimp only; rw [ea]; rfl, by decide, ha, sagq.bh, upd_same, fun qgq xsgq Dgq Jgq sbgq nqgq nDgq hqgq hPgq => ?_⟩
      intro gq dxgq hpgq hdxgq hnegq
      have scgq := sagq.trans sbgq
      have sngq : Same Jgq (upd (upd Jgq dxgq (.own gq)) gq (.ins (cR K) dxgq [])) := fun b o e => by
        rw [upd_ne (ne_of_none e hpgq), upd_ne (ne_of_none e hdxgq)]
        exact e
      refine ⟨Dgq, gq, dxgq, _, kn0, qgq, xsgq, great 19 a, rfl, scgq.bh.trans sngq, scgq.bh.free hpgq, upd_same, KdA.mono _ _ _ _ _ scgq.bb (KdA.mono _ _ _ _ _ st3.bb hKd), kn0_ok, SqL.of (sngq _ _ hqgq), hPgq, great_ok (by decide) ha, fun B4 H4 ingq hG4 => ⟨rfl, ?_⟩⟩
      have st4 := scgq.trans (Ini.step scgq.bh hpgq hdxgq ingq)
      refine ⟨_, rfl, _, rfl, .inl ⟨n, rfl, _, _, rfl, rfl, (show (76 : Int) ≠ 0 ∧ (76 : Int).natAbs < 1073741824 by decide), _, _, rfl, rfl, (show (19 : Int) ≠ 0 by decide), .ref gq, .int i, by dsimp only; rw [ei]; rfl, .inr ⟨kn0, great 19 a, hG4.mono st4.bh, kn0_ok, great_ok (by decide) ha, .inr ⟨i, rfl, by rw [great_len]; omega, great_tests (.inr ⟨rfl, ha⟩), fun ms hM => .inl ⟨?_, fun b H5 s5 hb => ?_⟩⟩⟩⟩⟩
      · rw [prodL, prod_cnt 1 hM]
        exact Nat.le_of_eq (great_19 a ha)
      · obtain rfl : b = true := hb.mpr (great_swp ha hi)
        refine ⟨true, true, rfl, rfl, _, rfl, iteF ?_⟩
        exact fin _ B4 H5 (st4.bh.trans s5) (hG.mono st4.bb)
    · rw [decide_eq_false (show ¬ (fun i j : Int => V.int (i.fmod j)) n 4 = V.int 1 from fun z => h4 (by dsimp only at z; exact V.int.inj z))]
      exact iteF (fin _ B3 H3 st3.bh hG)
end
end K5
set_option Elab.async false
set_option linter.all false
set_option maxRecDepth 100000
set_option maxHeartbeats 2000000
/-! law, in parts. -/
namespace K5
open PySem PySem.Spec PyProof.Rows L2
theorem cr_or {X : Cx} {f : Value} {r1 r2 : List V → Hp → VK → Prop} (h1 : CallR X f r1) (h2 : CallR X f r2) : CallR X f (fun xs H Q => r1 xs H Q ∨ r2 xs H Q) := fun pins s σ H xs us Q I r q =>
  q.elim (fun q => h1 pins s σ H xs us Q I r q) fun q => h2 pins s σ H xs us Q I r q
/-! ### the text of rules fits -/
theorem sho_val {so : Str} {v : V} (h : ValOk so v) {m : Nat} : Sho 120 m (dV v) := by
  rcases h with ⟨_, x, rfl, h⟩ | ⟨_, i, rfl, h⟩
  · exact Sho.str (word_lay h) (Nat.le_trans h.2.1 (by decide))
  · refine Sho.int ?_
    have h1 := h.1
    have h2 := h.2
    have : i.natAbs ≤ 9999 := by omega
    exact Nat.lt_of_le_of_lt this (by decide)
theorem sho_test {k : Knd} (kok : KndOk k) {t : Tst} (h : TstOk k t) : Sho 150 1 (dT t) := by
  have hl := tst_lay kok h
  obtain ⟨s, h1, h2, h3⟩ := h
  have w1 := (kok.fs.2.1 _ h1).1
  have w2 : t.2.1.length ≤ 10 := by rcases h3 with ⟨_, h | h⟩ | ⟨_, h | h⟩ <;> rw [h] <;> decide +kernel
  exact (ShoL.tuple (m := 0) (ShoL.cons (Sho.str (n := 6) hl.n w1.2.1) (ShoL.cons (Sho.str (n := 10) hl.o w2) (ShoL.cons (sho_val h2) (ShoL.nil (n := 0)))))).le (by decide) (Nat.le_refl _)
theorem rul_lay {k : Knd} (kok : KndOk k) {r : Rul} (h : RulOk k r) : RulLay r := ⟨fun t ht => tst_lay kok (h.tst t ht), word_lay (kok.an.2.2.1 _ h.ans)⟩
theorem sho_rule {k : Knd} (kok : KndOk k) {r : Rul} (h : RulOk k r) : Sho 320 3 (dR r) := by
  have hs := h.small kok
  have ha := kok.an.2.2.1 _ h.ans
  have h1 : ShoL (r.1.length * 151) 1 (r.1.map dT) := ShoL.map fun t ht => sho_test kok (h.tst t ht)
  have h2 := ShoL.list h1
  refine (ShoL.tuple (m := 2) (ShoL.cons h2 (ShoL.cons (Sho.str (n := 6) (word_lay ha) ha.2.1) (ShoL.nil (n := 0))))).le ?_ (Nat.le_refl _)
  omega
theorem sho_rules {k : Knd} (kok : KndOk k) {rs : List Rul} (ok : RulsOk k rs) : Sho 8000 4 (.list (rs.map dR)) := by
  have h1 : ShoL (rs.length * 321) 3 (rs.map dR) := ShoL.map fun r hr => sho_rule kok (ok.rul hr)
  have h2 := ok.len
  exact (ShoL.list h1).le (by omega) (Nat.le_refl _)
theorem dp_ruls {K : PySem.W.Frag} {H : Hp} {a : Addr} {xs : List V} {k : Knd} (kok : KndOk k) {rs : List Rul} (ok : RulsOk k rs) (hs : SqL K H a xs) (hP : Paired (RuA K H) xs rs) : Dp K H (.ref a) (.list (rs.map dR)) :=
  .lst hs (dp_rules hP fun r hr => rul_lay kok (ok.rul hr))
/-! ### the three checks by repr -/
def rReprO (K : PySem.W.Frag) : List V → Hp → VK → Prop := fun xs H Q => rReprD K xs H Q ∨ rReprI K (cK K) (sp_krep K) "list" xs H Q
def t_checks (K : PySem.W.Frag) : TS :=
  tSeq (tIfS (tTest (tOp rNe (tCB (rReprD K) (tCons (tCall (sp_caught K) [] E0 (tCons (tVar 9) (tCons (tVar 13) tNil))) tNil)) (tCB (rReprD K) (tCons (tLst (tCons (tC (.str "rule")) (tCons (tVar 13) tNil))) tNil)))) (tRet (tC (.bl false))) tNext)
    (tSeq (tIfS (tTest (tOp rNe (tCB (rReprO K) (tCons (tCall (sp_caught K) [] E0 (tCons (tVar 14) (tCons (tVar 13) tNil))) tNil)) (tCB (rReprO K) (tCons (tLst (tCons (tC (.str "list")) (tCons (tVar 14) tNil))) tNil)))) (tRet (tC (.bl false))) tNext)
      (tIfS (tTest (tOp rNe (tCB (rReprD K) (tCons (tMeth (cR K) "rules" (sp_rules K) [] E0 (tVar 9) tNil) tNil)) (tCB (rReprD K) (tCons (tVar 8) tNil)))) (tRet (tC (.bl false))) tNext))
/-- a value whose text is known -/
def TxA (K : PySem.W.Frag) (H : Hp) (v : V) : Prop := ∃ d, Sho 9000 50 d ∧ ∀ H', Same H H' → Dp K H' v d
/-- the odd thing -/
def OddA (K : PySem.W.Frag) (H : Hp) (v : V) : Prop := (∃ t, PySem.W.kitOne K t (.ref (cR K)) = some false ∧ ∀ H', Same H H' → TyX K H' v t) ∧ (TxA K H v ∨ ∃ p kn, v = .ref p ∧ KdA K H (.ref p) kn ∧ KndOk kn)
theorem sho_two {x : Str} (hx : PyData.strOk x = true) (hl : x.length ≤ 100) {d : PyData} (h : Sho 9000 50 d) : Sho 10000 60 (.list [.str x, d]) :=
  (ShoL.list (ShoL.cons (Sho.str hx hl) (ShoL.cons h .nil (k := 0)))).le (by omega) (by decide)
theorem law_checks {K : PySem.W.Frag} {D : Ends} {H : Hp} {kn : Knd} {rs : List Rul} {ra p : Addr} {xs : List V} {wv ov : V} {c0 c1 c2 c3 c4 c5 c6 c7 c10 c11 c12 : Option V} (kok : KndOk kn) (ok : RulsOk kn rs)
    (hra : SqL K H ra xs) (hP : Paired (RuA K H) xs rs) (hR : RlA K H (.ref p) kn rs) (hw : PlainT K H wv) (hi : inB wv 0 ((rs.length : Int) - 3) = false) (hwt : TxA K H wv) (ho : OddA K H ov)
    (k : ∀ H', Same H H' → D.nx [c0, c1, c2, c3, c4, c5, c6, c7, some (.ref ra), some (.ref p), c10, c11, c12, some wv, some ov] H') :
    t_checks K D [c0, c1, c2, c3, c4, c5, c6, c7, some (.ref ra), some (.ref p), c10, c11, c12, some wv, some ov] H := by
  have two : 2 ≤ sizeLine := by decide
  have nn : ∀ x : V, (!decide (x = x)) = false := by simp
  obtain ⟨wd, hws, hwd⟩ := hwt
  have sw := sho_two (x := "rule") (by decide +kernel) (by decide +kernel) hws
  refine ⟨_, rfl, _, rfl, _, _, rfl, .inr ⟨kn, rs, hR, kok, ok, .inl ⟨hw, hi, fun H1 q s1 nq hq => ?_⟩⟩⟩
  refine ⟨q, _, _, rfl, .lst (SqL.of hq) (.cons (.str _) (.cons (hwd _ s1) .nil)), sw, by decide, ?_⟩
  refine ⟨_, rfl, two, fun q2 hq2 => ?_⟩
  have s2 := s1.trans (same_new (o := .lst [.str "rule", wv]) hq2)
  refine ⟨q2, _, _, rfl, .lst (SqL.of upd_same) (.cons (.str _) (.cons (hwd _ s2) .nil)), sw, by decide, rfl, _, rfl, ?_⟩
  rw [nn]
  refine iteF ?_
  generalize upd H1 q2 (.lst [.str "rule", wv]) = H2 at s2 ⊢
  have rest : ∀ H3, Same H H3 → (tIfS (tTest (tOp rNe (tCB (rReprD K) (tCons (tMeth (cR K) "rules" (sp_rules K) [] E0 (tVar 9) tNil) tNil)) (tCB (rReprD K) (tCons (tVar 8) tNil)))) (tRet (tC (.bl false))) tNext : TS) D [c0, c1, c2, c3, c4, c5, c6, c7, some (.ref ra), some (.ref p), c10, c11, c12, some wv, some ov] H3 := fun H3 s3 => by
    obtain ⟨p', dx, kv, r, ys, e, hp, hK, hr, hP2⟩ := hR.mono s3
    obtain rfl := V.ref.inj e
    have sr := (sho_rules kok ok).le (Nat.le_refl _) (show 4 ≤ 60 by decide)
    refine ⟨_, rfl, p, dx, _, rfl, hp, rfs_no _ _ (by decide +kernel), H3, _, kn, rs, rfl, Same.refl H3, hR.mono s3, ok, kok, fun q zs B4 H4 st4 nq nq4 hq hZ => ?_⟩
    have s4 := s3.trans st4.hh
    refine ⟨q, _, _, rfl, dp_ruls kok ok (SqL.of hq) (paired_mono RuA.mono st4.bh hZ), sr, by decide, _, rfl, ra, _, _, rfl, dp_ruls kok ok (s4.seq hra) (paired_mono RuA.mono s4 hP), sr, by decide, rfl, _, rfl, ?_⟩
    rw [nn]
    exact iteF (k _ s4)
  obtain ⟨⟨t, hk, hty⟩, ho⟩ := ho
  refine ⟨_, rfl, _, rfl, _, _, rfl, .inl ⟨t, hty _ s2, hk, fun H3 q3 s23 nq3 hq3 => ?_⟩⟩
  have s3 := s2.trans s23
  rcases ho with ⟨od, hos, hod⟩ | ⟨po, ko, rfl, hKo, koko⟩
  · have so := sho_two (x := "list") (by decide +kernel) (by decide +kernel) hos
    refine .inl ⟨q3, _, _, rfl, .lst (SqL.of hq3) (.cons (.str _) (.cons (hod _ s3) .nil)), so, by decide, ?_⟩
    refine ⟨_, rfl, two, fun q4 hq4 => ?_⟩
    have s4 := s3.trans (same_new (o := .lst [.str "list", ov]) hq4)
    refine .inl ⟨q4, _, _, rfl, .lst (SqL.of upd_same) (.cons (.str _) (.cons (hod _ s4) .nil)), so, by decide, rfl, _, rfl, ?_⟩
    rw [nn]
    exact iteF (rest _ s4)
  · obtain ⟨po', dxo, t1, t2, ys, e, hpo, _⟩ := id hKo
    obtain rfl := V.ref.inj e
    have kl := krep_len koko
    refine .inr ⟨q3, po, dxo, _, rfl, hq3, s3 _ _ hpo, _, ko, rfl, KdA.mono _ _ _ _ _ s3 hKo, koko, fun H4 s34 => ⟨⟨_, rfl⟩, _, rfl, by omega, s34 _ _ hq3, ?_⟩⟩
    have s4 := s3.trans s34
    refine ⟨_, rfl, two, fun q5 hq5 => ?_⟩
    have s5 := s4.trans (same_new (o := .lst [.str "list", .ref po]) hq5)
    refine .inr ⟨q5, po, dxo, _, rfl, upd_same, s5 _ _ hpo, _, ko, rfl, KdA.mono _ _ _ _ _ s5 hKo, koko, fun H6 s56 => ⟨⟨_, rfl⟩, _, rfl, by omega, s56 _ _ upd_same, rfl, _, rfl, ?_⟩⟩
    rw [nn]
    exact iteF (rest _ (s5.trans s56))
end K5
set_option Elab.async false
set_option linter.all false
set_option maxRecDepth 100000
set_option maxHeartbeats 2000000
/-! law, in parts: the wrong index, the odd thing. -/
namespace K5
open PySem PySem.Spec PyProof.Rows L2
def rLenK (K : PySem.W.Frag) : List V → Hp → VK → Prop := fun xs H Q => ∃ p ys, xs = [V.ref p] ∧ (SqL K H p ys ∨ SqT K H p ys) ∧ Q (V.int (ys.length : Nat)) H
def t_odd (K : PySem.W.Frag) : TS := tSeq (tAsg (tOp (rIxL K) (tLst (tCons (tC .non) (tCons (tC (.int 7)) (tCons (tVar 8) (tCons (tC (.str "yes")) (tCons (tVar 5) tNil)))))) (tCall sp_take [] E0 (tCons (tVar 2) (tCons (tC (.int 5)) tNil)))) (gName 14)) (t_checks K)
def t_wrong (K : PySem.W.Frag) : TS := tSeq (tAsg (tOp (rIxL K) (tLst (tCons (tUn (rU fun i => V.int (-i)) (tC (V.int 1))) (tCons (tOp (rI0 fun i j => V.int (i - j)) (tCB (rLenK K) (tCons (tVar 8) tNil)) (tC (V.int 2))) (tCons (tOp (rI0 fun i j => V.int (i - j)) (tCB (rLenK K) (tCons (tVar 8) tNil)) (tC (V.int 1)))
  (tCons (tC V.non) (tCons (tC (V.bl true)) (tCons (tC (V.str "0")) (tCons (tTup (tCons (tC (V.int 0)) tNil)) (tCons (tOp (rI CPow fun i j => V.int (i ^ j.toNat)) (tC (V.int 10)) (tC (V.int 29))) (tCons (tC (V.bl false)) tNil))))))))))
  (tCall sp_take [] E0 (tCons (tVar 2) (tCons (tC (V.int 9)) tNil)))) (gName 13)) (t_odd K)
section
variable {K : PySem.W.Frag} {mg : Str → Option Value} {D : Ends} {B H : Hp} {kn : Knd} {rs : List Rul} {ra p x : Addr} {xs : List V} {kv wv : V} {c0 c1 c3 c4 c6 c7 c10 c11 c12 c13 c14 : Option V}
theorem TxA.non : TxA K H .non := ⟨_, Sho.non, fun _ _ => .non⟩
theorem TxA.bl (b : Bool) : TxA K H (.bl b) := ⟨_, Sho.bl b, fun _ _ => .bl b⟩
theorem TxA.int {i : Int} (h : i.natAbs < 10 ^ 31) : TxA K H (.int i) := ⟨_, (Sho.int h).le (by decide) (Nat.le_refl _), fun _ _ => .int i⟩
theorem TxA.str {y : Str} (h : PyData.strOk y = true) (l : y.length ≤ 9000) : TxA K H (.str y) := ⟨_, Sho.str h l, fun _ _ => .str y⟩
theorem law_odd (T : Top K mg) (kok : KndOk kn) (ok : RulsOk kn rs) (sB : Same B H) (nB : B x = none) (hx : Box x H) (hra : SqL K B ra xs) (hP : Paired (RuA K B) xs rs) (hR : RlA K B (.ref p) kn rs) (hK : KdA K B kv kn)
    (hw : PlainT K B wv) (hi : inB wv 0 ((rs.length : Int) - 3) = false) (hwt : TxA K B wv)
    (k : ∀ c14 H', (∀ b o, b ≠ x → H b = some o → H' b = some o) → D.nx [c0, c1, some (.ref x), c3, c4, some kv, c6, c7, some (.ref ra), some (.ref p), c10, c11, c12, some wv, c14] H') :
    t_odd K D [c0, c1, some (.ref x), c3, c4, some kv, c6, c7, some (.ref ra), some (.ref p), c10, c11, c12, some wv, c14] H := by
  refine ⟨_, rfl, _, rfl, (show 5 ≤ sizeLine by decide), fun L hL => ⟨_, rfl, x, 5, rfl, by decide, by decide, ?_, fun d b1 b2 b3 h0 h5 => ?_⟩⟩
  · obtain ⟨a, b, c, e⟩ := hx
    exact ⟨a, b, c, same_new hL _ _ e⟩
  obtain ⟨o, eo⟩ := hx.some
  have xL : x ≠ L := ne_of_none eo hL
  have sB2 : Same B (upd (upd H L (.lst [.non, .int 7, .ref ra, .str "yes", kv])) x (.lst [.int b1, .int b2, .int b3])) := fun b o e => by
    rw [upd_ne (ne_of_none e nB), upd_ne (ne_of_none (sB _ _ e) hL)]
    exact sB _ _ e
  have hLL : (upd (upd H L (.lst [.non, .int 7, .ref ra, .str "yes", kv])) x (.lst [.int b1, .int b2, .int b3])) L = some (.lst [.non, .int 7, .ref ra, .str "yes", kv]) := by rw [upd_ne xL.symm, upd_same]
  have hh : ∀ b o, b ≠ x → H b = some o → (upd (upd H L (.lst [.non, .int 7, .ref ra, .str "yes", kv])) x (.lst [.int b1, .int b2, .int b3])) b = some o := fun b o n e => by
    rw [upd_ne n, upd_ne (ne_of_none e hL)]
    exact e
  have hbx : (upd (upd H L (.lst [.non, .int 7, .ref ra, .str "yes", kv])) x (.lst [.int b1, .int b2, .int b3])) x ≠ none := by
    rw [upd_same]
    exact fun z => by cases z
  generalize (upd (upd H L (.lst [.non, .int 7, .ref ra, .str "yes", kv])) x (.lst [.int b1, .int b2, .int b3])) = H2 at sB2 hLL hh hbx ⊢
  have fin : ∀ ov : V, OddA K B ov → t_checks K D [c0, c1, some (.ref x), c3, c4, some kv, c6, c7, some (.ref ra), some (.ref p), c10, c11, c12, some wv, some ov] H2 := fun ov ho => by
    refine law_checks kok ok (sB2.seq hra) (paired_mono RuA.mono sB2 hP) (hR.mono sB2) (plain_mono sB2 hw) hi ?_ ?_ fun H' s' => k _ H' fun b o n e => s' _ _ (hh b o n e)
    · obtain ⟨d, h1, h2⟩ := hwt
      exact ⟨d, h1, fun H' s => h2 H' (sB2.trans s)⟩
    · obtain ⟨⟨t, h1, h2⟩, h3⟩ := ho
      refine ⟨⟨t, h1, fun H' s => h2 H' (sB2.trans s)⟩, ?_⟩
      rcases h3 with ⟨d, h1, h2⟩ | ⟨q, ko, e, h1, h2⟩
      · exact .inl ⟨d, h1, fun H' s => h2 H' (sB2.trans s)⟩
      · exact .inr ⟨q, ko, e, KdA.mono _ _ _ _ _ sB2 h1, h2⟩
  obtain ⟨n, rfl⟩ := Int.eq_ofNat_of_zero_le h0
  obtain ⟨ov, hov, hodd⟩ : ∃ ov, ([.non, .int 7, .ref ra, .str "yes", kv] : List V)[n]? = some ov ∧ OddA K B ov := by
    match n, h5 with
    | 0, _ => exact ⟨_, rfl, ⟨_, T.q_NoneType_RuleList, fun H' s => .base .non⟩, .inl .non⟩
    | 1, _ => exact ⟨_, rfl, ⟨_, T.q_int_RuleList, fun H' s => .base (.int 7)⟩, .inl (.int (by decide))⟩
    | 2, _ => exact ⟨_, rfl, ⟨_, T.q_list_RuleList, fun H' s => ty_seqL (s.seq hra)⟩, .inl ⟨_, (sho_rules kok ok).le (by decide) (by decide), fun H' s => dp_ruls kok ok (s.seq hra) (paired_mono RuA.mono s hP)⟩⟩
    | 3, _ => exact ⟨_, rfl, ⟨_, T.q_str_RuleList, fun H' s => .base (.str _)⟩, .inl (.str (by decide +kernel) (by decide +kernel))⟩
    | 4, _ =>
      obtain ⟨q, dx, t1, t2, zs, rfl, hq, _⟩ := id hK
      exact ⟨_, rfl, ⟨_, T.q_Kind_RuleList, fun H' s => T.y_Kind _ _ _ _ (s _ _ hq)⟩, .inr ⟨q, kn, rfl, hK, kok⟩⟩
    | m + 5, h => omega
  exact ⟨L, _, _, ov, rfl, rfl, SqL.of hLL, atI_nat hov, fin ov hodd⟩
theorem law_wrong (T : Top K mg) (kok : KndOk kn) (ok : RulsOk kn rs) (sB : Same B H) (nB : B x = none) (hx : Box x H) (hra : SqL K B ra xs) (hP : Paired (RuA K B) xs rs) (hR : RlA K B (.ref p) kn rs) (hK : KdA K B kv kn)
    (k : ∀ c13 c14 H', (∀ b o, b ≠ x → H b = some o → H' b = some o) → D.nx [c0, c1, some (.ref x), c3, c4, some kv, c6, c7, some (.ref ra), some (.ref p), c10, c11, c12, c13, c14] H') :
    t_wrong K D [c0, c1, some (.ref x), c3, c4, some kv, c6, c7, some (.ref ra), some (.ref p), c10, c11, c12, c13, c14] H := by
  have hl := hP.length
  have hlen := ok.len
  refine ⟨_, rfl, _, rfl, ra, xs, rfl, .inl (sB.seq hra), _, _, rfl, rfl, _, rfl, ra, xs, rfl, .inl (sB.seq hra), _, _, rfl, rfl, (show 1 ≤ sizeLine by decide), fun t ht => ⟨_, _, rfl, rfl, (show CPow 10 29 from ⟨by decide, by decide, by decide⟩), (show 9 ≤ sizeLine by decide), fun L hL => ⟨_, rfl, x, 9, rfl, by decide, by decide, ?_, fun d b1 b2 b3 h0 h9 => ?_⟩⟩⟩
  · obtain ⟨a, b, c, e⟩ := hx
    exact ⟨a, b, c, same_new hL _ _ (same_new ht _ _ e)⟩
  obtain ⟨o, eo⟩ := hx.some
  have xt : x ≠ t := ne_of_none eo ht
  have xL : x ≠ L := ne_of_none (same_new ht _ _ eo) hL
  have tL : t ≠ L := ne_of_none upd_same hL
  have sBB : Same B (upd B t (.tup [.int 0])) := fun b o e => by
    rw [upd_ne (ne_of_none (sB _ _ e) ht)]
    exact e
  have nB2 : (upd B t (.tup [.int 0])) x = none := by rw [upd_ne xt]; exact nB
  have htB : (upd B t (.tup [.int 0])) t = some (.tup [.int 0]) := upd_same
  have sB2 : Same (upd B t (.tup [.int 0])) (upd (upd (upd H t (.tup [.int 0])) L (.lst [.int (-1), .int ((xs.length : Nat) - 2), .int ((xs.length : Nat) - 1), .non, .bl true, .str "0", .ref t, .int ((10 : Int) ^ (29 : Int).toNat), .bl false])) x (.lst [.int b1, .int b2, .int b3])) := fun b o e => by
    rw [upd_ne (ne_of_none e nB2)]
    by_cases hb : b = t
    · subst hb
      rw [upd_ne tL, upd_same]
      rw [upd_same] at e
      exact e
    · rw [upd_ne hb] at e
      rw [upd_ne (ne_of_none (same_new ht _ _ (sB _ _ e)) hL), upd_ne hb]
      exact sB _ _ e
  have hLL : (upd (upd (upd H t (.tup [.int 0])) L (.lst [.int (-1), .int ((xs.length : Nat) - 2), .int ((xs.length : Nat) - 1), .non, .bl true, .str "0", .ref t, .int ((10 : Int) ^ (29 : Int).toNat), .bl false])) x (.lst [.int b1, .int b2, .int b3])) L = some (.lst [.int (-1), .int ((xs.length : Nat) - 2), .int ((xs.length : Nat) - 1), .non, .bl true, .str "0", .ref t, .int ((10 : Int) ^ (29 : Int).toNat), .bl false]) := by rw [upd_ne xL.symm, upd_same]
  have hh : ∀ b o, b ≠ x → H b = some o → (upd (upd (upd H t (.tup [.int 0])) L (.lst [.int (-1), .int ((xs.length : Nat) - 2), .int ((xs.length : Nat) - 1), .non, .bl true, .str "0", .ref t, .int ((10 : Int) ^ (29 : Int).toNat), .bl false])) x (.lst [.int b1, .int b2, .int b3])) b = some o := fun b o n e => by
    rw [upd_ne n]
    exact same_new hL _ _ (same_new ht _ _ e)
  have hbx : Box x (upd (upd (upd H t (.tup [.int 0])) L (.lst [.int (-1), .int ((xs.length : Nat) - 2), .int ((xs.length : Nat) - 1), .non, .bl true, .str "0", .ref t, .int ((10 : Int) ^ (29 : Int).toNat), .bl false])) x (.lst [.int b1, .int b2, .int b3])) := ⟨b1, b2, b3, upd_same⟩
  generalize (upd (upd (upd H t (.tup [.int 0])) L (.lst [.int (-1), .int ((xs.length : Nat) - 2), .int ((xs.length : Nat) - 1), .non, .bl true, .str "0", .ref t, .int ((10 : Int) ^ (29 : Int).toNat), .bl false])) x (.lst [.int b1, .int b2, .int b3])) = H2 at sB2 hLL hh hbx ⊢
  generalize (upd B t (.tup [.int 0])) = B2 at sBB nB2 htB sB2
  have hra2 := sBB.seq hra
  have hP2 := paired_mono RuA.mono sBB hP
  have hR2 := hR.mono sBB
  have hK2 := KdA.mono _ _ _ _ _ sBB hK
  have fin : ∀ wv : V, PlainT K B2 wv → inB wv 0 ((rs.length : Int) - 3) = false → TxA K B2 wv → t_odd K D [c0, c1, some (.ref x), c3, c4, some kv, c6, c7, some (.ref ra), some (.ref p), c10, c11, c12, some wv, c14] H2 := fun wv hw hi hwt =>
    law_odd T kok ok sB2 nB2 hbx hra2 hP2 hR2 hK2 hw hi hwt fun c H' s' => k _ c H' fun b o n e => s' _ _ n (hh b o n e)
  obtain ⟨n, rfl⟩ := Int.eq_ofNat_of_zero_le h0
  have out : ∀ i : Int, (rs.length : Int) - 3 < i ∨ i < 0 → inB (.int i) 0 ((rs.length : Int) - 3) = false := fun i h => by
    simp only [inB, Bool.and_eq_false_iff, decide_eq_false_iff_not]
    omega
  obtain ⟨wv, hwv, hw, hi, hwt⟩ : ∃ wv, ([.int (-1), .int ((xs.length : Nat) - 2), .int ((xs.length : Nat) - 1), .non, .bl true, .str "0", .ref t, .int ((10 : Int) ^ (29 : Int).toNat), .bl false] : List V)[n]? = some wv ∧ PlainT K B2 wv ∧ inB wv 0 ((rs.length : Int) - 3) = false ∧ TxA K B2 wv := by
    match n, h9 with
    | 0, _ => exact ⟨_, rfl, .int _, out _ (.inr (by decide)), .int (by decide)⟩
    | 1, _ => exact ⟨_, rfl, .int _, out _ (by omega), .int (Nat.lt_of_le_of_lt (show _ ≤ 24 by omega) (by decide))⟩
    | 2, _ => exact ⟨_, rfl, .int _, out _ (by omega), .int (Nat.lt_of_le_of_lt (show _ ≤ 24 by omega) (by decide))⟩
    | 3, _ => exact ⟨_, rfl, .non, rfl, .non⟩
    | 4, _ => exact ⟨_, rfl, .bl _, rfl, .bl _⟩
    | 5, _ => exact ⟨_, rfl, .str _, rfl, .str (by decide +kernel) (by decide +kernel)⟩
    | 6, _ => exact ⟨_, rfl, .tup htB, rfl, _, ((ShoL.tuple (m := 0) (ShoL.cons (Sho.int (i := 0) (by decide)) (ShoL.nil (n := 0)))).le (by decide) (by decide)), fun H' s => .tup (SqT.of (s _ _ htB)) (.cons (.int 0) .nil)⟩
    | 7, _ => exact ⟨_, rfl, .int _, out _ (.inl (by have : (10 : Int) ^ (29 : Int).toNat = 100000000000000000000000000000 := by decide
                                                     omega)), .int (by decide)⟩
    | 8, _ => exact ⟨_, rfl, .bl _, rfl, .bl _⟩
    | m + 9, h => omega
  exact ⟨L, _, _, wv, rfl, rfl, SqL.of hLL, atI_nat hwv, fin wv hw hi hwt⟩
end
end K5
set_option Elab.async false
set_option linter.all false
set_option maxRecDepth 100000
set_option maxHeartbeats 2000000
/-! law, in parts: the loop over the indices. -/
namespace K5
open PySem PySem.Spec PyProof.Rows L2
def t_loop (K : PySem.W.Frag) : TS := tSeq (tFor (iList K (tOp rCat (tVar 11) (tRevL K (tVar 11)))) (gName 12)
  (tIfS (tTest (tOp rNe (tCB rReprB (tCons (tCall (sp_may_swap K) [] E0 (tCons (tVar 9) (tCons (tVar 12) tNil))) tNil)) (tCB rReprB (tCons (tCall (sp_law_may K) [] E0 (tCons (tVar 6) (tCons (tVar 8) (tCons (tVar 12) (tCons (tVar 10) tNil))))) tNil)))) (tRet (tC (.bl false))) tNext)) (t_wrong K)
def t_order (K : PySem.W.Frag) : TS := tSeq (tAsg (tLstRg (tRg1 (tCB (fun xs H Q => ∃ i j, xs = [V.int i, V.int j] ∧ Q (V.int (if j > i then j else i)) H) (tCons (tC (V.int 0)) (tCons (tOp (rI0 fun i j => V.int (i - j)) (tCB (rLenK K) (tCons (tVar 8) tNil)) (tC (V.int 2))) tNil))))) (gName 11)) (t_loop K)
section
variable {K : PySem.W.Frag} {mg : Str → Option Value} {D : Ends} {B H : Hp} {kn : Knd} {rs : List Rul} {ra p x lf ca : Addr} {xs fxs czs : List V} {cs : List Cse} {ms : List (List V)} {kv : V} {c0 c1 c3 c4 c7 c11 c12 c13 c14 : Option V}
theorem law_order (T : Top K mg) (kok : KndOk kn) (ok : RulsOk kn rs) (h7 : rs.length ≤ 7) (sB : Same B H) (nB : B x = none) (hx : Box x H) (hra : SqL K B ra xs) (hP : Paired (RuA K B) xs rs) (hR : RlA K B (.ref p) kn rs) (hK : KdA K B kv kn)
    (hlf : SqL K B lf fxs) (hF : Paired (FiA K B) fxs kn.fields) (hca : SqL K B ca czs) (hC : Paired (CaA K B) czs cs) (hM : Paired (FullMem (allTests rs)) ms kn.fields) (hmem : ∀ c, c ∈ cs ↔ Paired (fun v m => v ∈ m) c ms) (hcl : cs.length < sizeLine)
    (k : ∀ c11 c12 c13 c14 H', (∀ b o, b ≠ x → H b = some o → H' b = some o) → D.nx [c0, c1, some (.ref x), c3, c4, some kv, some (.ref lf), c7, some (.ref ra), some (.ref p), some (.ref ca), c11, c12, c13, c14] H') :
    t_order K D [c0, c1, some (.ref x), c3, c4, some kv, some (.ref lf), c7, some (.ref ra), some (.ref p), some (.ref ca), c11, c12, c13, c14] H := by
  have hl := hP.length
  have ht12 := small_tests kok ok h7
  have hn : ∀ i : Nat, i < (rs.length - 2) → i + 3 ≤ rs.length := fun i h => by omega
  have en : (if ((xs.length : Nat) : Int) - 2 > 0 then ((xs.length : Nat) : Int) - 2 else 0) = ((rs.length - 2 : Nat) : Int) := by
    split <;> omega
  have h24 := ok.len
  refine ⟨_, rfl, ra, xs, rfl, .inl (sB.seq hra), _, _, rfl, rfl, _, _, rfl, _, rfl, ?_⟩
  dsimp only
  rw [en]
  refine ⟨RgOk.of_le (by decide) (by omega) (by decide) (by omega), fun oa hoa => ?_⟩
  have eos : rgV 0 ((rs.length - 2 : Nat) : Int) = (List.range (rs.length - 2)).map fun i => V.int ((i : Nat) : Int) := by
    unfold rgV
    rw [show (((rs.length - 2 : Nat) : Int) - 0).toNat = rs.length - 2 by omega]
    exact List.map_congr_left fun i _ => by rw [Int.zero_add]
  rw [eos]
  have hos : ∀ v ∈ (List.range (rs.length - 2)).map fun i => V.int ((i : Nat) : Int), ∃ i : Nat, v = .int (i : Nat) ∧ i + 3 ≤ rs.length := fun v hv => by
    obtain ⟨i, hi, rfl⟩ := List.mem_map.mp hv
    exact ⟨i, rfl, hn i (List.mem_range.mp hi)⟩
  have hol : ((List.range (rs.length - 2)).map fun i => V.int ((i : Nat) : Int)).length ≤ 24 := by
    rw [List.length_map, List.length_range]
    omega
  generalize ((List.range (rs.length - 2)).map fun i => V.int ((i : Nat) : Int)) = os at hos hol ⊢
  obtain ⟨o, eo⟩ := hx.some
  refine ⟨_, rfl, _, rfl, oa, os, rfl, SqL.of upd_same, fun rv hrv => ?_⟩
  have oar : oa ≠ rv := ne_of_none upd_same hrv
  refine ⟨oa, rv, os, os.reverse, rfl, rfl, by rw [upd_ne oar, upd_same], upd_same, ?_, fun L hL => ?_⟩
  · rw [List.length_reverse]
    have : 60 < sizeLine := by decide
    omega
  have sH : Same H (upd (upd (upd H oa (.lst os)) rv (.lst os.reverse)) L (.lst (os ++ os.reverse))) := ((same_new hoa).trans (same_new hrv)).trans (same_new hL)
  have hLL : (upd (upd (upd H oa (.lst os)) rv (.lst os.reverse)) L (.lst (os ++ os.reverse))) L = some (.lst (os ++ os.reverse)) := upd_same
  generalize (upd (upd (upd H oa (.lst os)) rv (.lst os.reverse)) L (.lst (os ++ os.reverse))) = H1 at sH hLL ⊢
  have hall : ∀ v ∈ os ++ os.reverse, ∃ i : Nat, v = .int (i : Nat) ∧ i + 3 ≤ rs.length := fun v hv => by
    rcases List.mem_append.mp hv with h | h
    · exact hos v h
    · exact hos v (List.mem_reverse.mp h)
  have nn : ∀ x : V, (!decide (x = x)) = false := by simp
  refine ⟨L, rfl, ⟨_, SqL.of hLL⟩, ?_⟩
  refine for_it (walk_list (xs := os ++ os.reverse)) (fun i σ H' => (∃ c12, σ = [c0, c1, some (.ref x), c3, c4, some kv, some (.ref lf), c7, some (.ref ra), some (.ref p), some (.ref ca), some (.ref oa), c12, c13, c14]) ∧ Same H1 H') ⟨⟨_, rfl⟩, Same.refl _⟩ (fun i σ H' _ p => SqL.of (p.2 _ _ hLL)) ?_ ?_
  · rintro i z σ H2 H3 hi ⟨⟨c, rfl⟩, s2⟩ ⟨rfl, hv⟩
    obtain ⟨j, rfl, hj⟩ := hall _ (List.mem_of_getElem? hv)
    have sBH := sB.trans (sH.trans s2)
    have tok : TestsOk kn (allTests rs) := ⟨Nat.le_trans ht12 (by decide), fun f _ => Nat.le_trans (nTests_le _ _) (Nat.le_trans ht12 (by decide)), tests_ok ok⟩
    refine ⟨_, rfl, _, rfl, _, _, rfl, .inr ⟨kn, rs, hR.mono sBH, kok, ok, .inr ⟨j, rfl, hj, tok, fun ms' hM' => .inl ⟨small_prod hM' kok.fs.1 kok.fs.2.2 ht12, fun b H4 s4 hb => ?_⟩⟩⟩⟩
    have sB4 := sBH.trans s4
    refine ⟨b, rfl, _, rfl, _, rfl, _, rfl, _, rfl, _, kn, _, rs, j, ca, czs, cs, ms, rfl, ⟨lf, fxs, rfl, sB4.seq hlf, paired_mono FiA.mono sB4 hF⟩, kok, ⟨ra, xs, rfl, sB4.seq hra, paired_mono RuA.mono sB4 hP⟩, ok, hj, sB4.seq hca, paired_mono CaA.mono sB4 hC, hM, hmem, hcl, fun b' H5 s5 hb' => ?_⟩
    have e : b' = b := Bool.eq_iff_iff.mpr (hb'.trans hb.symm)
    subst e
    refine ⟨b', rfl, rfl, _, rfl, ?_⟩
    rw [nn]
    exact iteF ⟨⟨_, rfl⟩, s2.trans (s4.trans s5)⟩
  · rintro σ H2 ⟨⟨c, rfl⟩, s2⟩
    have sH2 := sH.trans s2
    have hx2 : Box x H2 := by
      obtain ⟨a, b, c, e⟩ := hx
      exact ⟨a, b, c, sH2 _ _ e⟩
    exact law_wrong T kok ok (sB.trans sH2) nB hx2 hra hP hR hK fun c13 c14 H' h' => k _ _ c13 c14 H' fun b o n e => h' b o n (sH2 _ _ e)
end
end K5
set_option Elab.async false
set_option linter.all false
set_option maxRecDepth 100000
set_option maxHeartbeats 2000000
/-! law, in parts: the list and the grid are made. -/
namespace K5
open PySem PySem.Spec PyProof.Rows L2
def t_made (K : PySem.W.Frag) : TS := tSeq (tPar 9 10 (tCons (tMake (cR K) (sp_rules_init K) [] E0 (tCons (tVar 5) (tCons (tVar 8) tNil))) (tCons (tCall (sp_law_grid K) [] E0 (tCons (tVar 6) (tCons (tVar 8) tNil))) tNil))) (t_order K)
theorem sqt_wo {K : PySem.W.Frag} {B : Hp} {x a : Addr} {xs zs : List V} (hx : B x = some (.lst zs)) (h : SqT K B a xs) : SqT K (wo x B) a xs := by
  rcases h with (h | ⟨o, h⟩) | h
  · have n : a ≠ x := fun e => by rw [e, hx] at h; cases h
    exact .inl (.inl (by rw [wo_ne n]; exact h))
  · have n : a ≠ x := fun e => by rw [e, hx] at h; cases h
    exact .inl (.inr ⟨o, by rw [wo_ne n]; exact h⟩)
  · exact .inr h
theorem paired_imp {α β : Type} {F G : α → β → Prop} (h : ∀ a b, F a b → G a b) : ∀ {xs : List α} {l : List β}, Paired F xs l → Paired G xs l
  | _, _, .nil => .nil
  | _, _, .cons r t => .cons (h _ _ r) (paired_imp h t)
section
variable {K : PySem.W.Frag} {mg : Str → Option Value} {D : Ends} {B H : Hp} {kn : Knd} {rs : List Rul} {ra x lf : Addr} {xs fxs : List V} {kv : V} {c0 c1 c3 c4 c7 c9 c10 c11 c12 c13 c14 : Option V}
theorem law_made (T : Top K mg) (kok : KndOk kn) (ok : RulsOk kn rs) (h7 : rs.length ≤ 7) (sB : Same B H) (nB : B x = none) (hx : Box x H) (hra : SqL K B ra xs) (hP : Paired (RuA K B) xs rs) (hK : KdA K B kv kn)
    (hlf : SqL K B lf fxs) (hF : Paired (FiA K B) fxs kn.fields)
    (k : ∀ c9 c10 c11 c12 c13 c14 H', (∀ b o, b ≠ x → H b = some o → H' b = some o) → D.nx [c0, c1, some (.ref x), c3, c4, some kv, some (.ref lf), c7, some (.ref ra), c9, c10, c11, c12, c13, c14] H') :
    t_made K D [c0, c1, some (.ref x), c3, c4, some kv, some (.ref lf), c7, some (.ref ra), c9, c10, c11, c12, c13, c14] H := by
  have ht12 := small_tests kok ok h7
  refine ⟨_, rfl, _, rfl, fun q dx hq hdx hne => ?_⟩
  have sn : Same H (upd (upd H dx (.own q)) q (.ins (cR K) dx [])) := fun b o e => by
    rw [upd_ne (ne_of_none e hq), upd_ne (ne_of_none e hdx)]
    exact e
  refine ⟨B, q, dx, kv, kn, ra, xs, rs, rfl, sB.trans sn, sB.free hq, upd_same, hK, kok, (sB.trans sn).seq hra, hP, ok, fun B1 H1 ini hR => ⟨rfl, ?_⟩⟩
  have st1 := Ini.step sB hq hdx ini
  have s1 := st1.bh
  have sB1 := st1.bb.trans s1
  refine ⟨_, rfl, _, rfl, _, kn, _, rs, rfl, ⟨lf, fxs, rfl, sB1.seq hlf, paired_mono FiA.mono sB1 hF⟩, kok, ⟨ra, xs, rfl, sB1.seq hra, paired_mono RuA.mono sB1 hP⟩, ok, by omega, fun a zs cs ms B2 H2 st2 ha nB2 hzs hC hM hmem hcl => ?_⟩
  obtain ⟨b1, b2, b3, ex⟩ := hx
  have ex1 := st1.hh _ _ ex
  have ex2 := st2.bb _ _ ex1
  have ex3 := st2.hh _ _ ex1
  have n1 : B1 x = none := st1.none ex nB
  have st3 := st2.frz ha hzs
  have xa : x ≠ a := fun e => by rw [e, ha] at ex1; cases ex1
  have e3 : (upd B2 a (.lst zs)) x = some (.lst [.int b1, .int b2, .int b3]) := by rw [upd_ne xa]; exact ex2
  have s13 : Same B1 (wo x (upd B2 a (.lst zs))) := into_wo (s1.trans st3.bb) n1
  have s3 : Same (wo x (upd B2 a (.lst zs))) H2 := (wo_sub _ _).trans st3.bh
  have hca : (wo x (upd B2 a (.lst zs))) a = some (.lst zs) := by rw [wo_ne xa.symm, upd_same]
  have s2u : Same B2 (upd B2 a (.lst zs)) := fun b o e => by
    rw [upd_ne (ne_of_none e nB2)]
    exact e
  have hC3 : Paired (CaA K (wo x (upd B2 a (.lst zs)))) zs cs := paired_imp (fun v c ⟨t, e, h⟩ => ⟨t, e, sqt_wo e3 (same_tup s2u h)⟩) hC
  have sB3 := st1.bb.trans s13
  refine ⟨_, _, rfl, ?_⟩
  refine law_order T kok ok h7 s3 wo_same ⟨_, _, _, ex3⟩ (sB3.seq hra) (paired_mono RuA.mono sB3 hP) (hR.mono s13) (KdA.mono _ _ _ _ _ sB3 hK) (sB3.seq hlf) (paired_mono FiA.mono sB3 hF) (SqL.of hca) hC3 hM hmem hcl fun c11 c12 c13 c14 H' h' => k _ _ c11 c12 c13 c14 H' fun b o n e => h' b o n (st2.hh _ _ (st1.hh _ _ e))
end
end K5
set_option Elab.async false
set_option linter.all false
set_option maxRecDepth 100000
set_option maxHeartbeats 2000000
/-! law, in parts: the rule that is put in. -/
namespace K5
open PySem PySem.Spec PyProof.Rows L2
def dupR (rs : List Rul) (r : Rul) : List Rul := rs.take 1 ++ [r] ++ rs.drop 1
theorem dup_mem {rs : List Rul} {r u : Rul} (h : u ∈ dupR rs r) : u ∈ rs ∨ u = r := by
  rcases List.mem_append.mp h with h | h
  · rcases List.mem_append.mp h with h | h
    · exact .inl (List.mem_of_mem_take h)
    · exact .inr (List.mem_singleton.mp h)
  · exact .inl (List.mem_of_mem_drop h)
theorem dup_len {rs : List Rul} {r : Rul} : (dupR rs r).length ≤ rs.length + 1 := by
  rw [dupR, List.length_append, List.length_append, List.length_take, List.length_drop]
  show _ + 1 + _ ≤ _
  omega
theorem dup_ok {k : Knd} {rs : List Rul} {r0 : Rul} {ans : Str} (ok : RulsOk k rs) (h0 : rs[0]? = some r0) (ha : ans ∈ k.answers) (h7 : rs.length ≤ 6) : RulsOk k (dupR rs (r0.1, ans)) := by
  have hm := List.mem_of_getElem? h0
  have all : ∀ u ∈ dupR rs (r0.1, ans), RulOk k u := fun u hu => by
    rcases dup_mem hu with h | h
    · exact ok.rul h
    · rw [h]
      exact ⟨(ok.rul hm).tst, (ok.rul hm).wid, ha⟩
  refine ⟨fun r hr => (all r hr).tst, fun r hr => (all r hr).wid, fun r hr => (all r hr).ans, Nat.le_trans dup_len (by omega), ?_⟩
  obtain ⟨a, hl⟩ := ok.last
  match rs, h0, hl with
  | [r], h0, hl =>
    obtain rfl := Option.some.inj h0
    have e : r = ([], a) := Option.some.inj hl
    exact ⟨ans, by rw [e]; rfl⟩
  | r :: u :: t, h0, hl =>
    refine ⟨a, ?_⟩
    show ([r] ++ [(r0.1, ans)] ++ (u :: t)).getLast? = _
    rw [List.getLast?_append]
    have e : (u :: t).getLast? = some ([], a) := by
      rw [← hl]
      exact (List.getLast?_cons_cons ..).symm
    rw [e]
    rfl
end K5
set_option Elab.async false
set_option linter.all false
set_option maxRecDepth 100000
set_option maxHeartbeats 2000000
namespace K5
open PySem PySem.Spec PyProof.Rows L2
abbrev N_law : List Str := ["_law_script", "_law_k", "_law_box_here", "_law_shape", "_law_pools_here", "_law_kind_here", "_law_fields", "_law_answers", "_law_rules_here", "_law_made", "_law_cases", "_law_order", "_law_at", "_law_wrong", "_law_odd"]
abbrev P_law : List Str := ["_law_script"]
theorem sc_law : FnScope N_law P_law (defScope s_law) := ⟨rfl, rfl, rfl, by decide +kernel, rfl, by decide +kernel, by decide +kernel⟩
theorem sql_carry {K : PySem.W.Frag} {H H' : Hp} {x a : Addr} {xs : List V} (h : SqL K H a xs) (hx : H x = none) (hh : ∀ b o, b ≠ x → H b = some o → H' b = some o) : SqL K H' a xs := by
  rcases h with (h | ⟨o, h⟩) | h
  · exact .inl (.inl (hh _ _ (fun e => by rw [e, hx] at h; cases h) h))
  · exact .inl (.inr ⟨o, hh _ _ (fun e => by rw [e, hx] at h; cases h) h⟩)
  · exact .inr h
def sp_law (K : PySem.W.Frag) : Sp := fun vs H Q _ => ∃ a, ∃ ns : List Int, vs = [.ref a] ∧ SqL K H a (ns.map V.int) ∧ ns.length ≤ 1000000 ∧ ∀ H', Q (.bl true) H'
section
variable {P : Program} {w : World} {K : PySem.W.Frag} {mg : Str → Option Value} {base : Heap}
theorem ok_law {fl : Addr} {fdl : FuncData} (Fl : FunD K "law" "law" (defArgs s_law) (defBody s_law) (defScope s_law) [] [] fl fdl) (T : Top K mg) (c__law_great_right : CalG P w K mg base 11 "_law_great_right" sp_great_right) (c__law_caught : Cal P w K mg base CX0 10 "_law_caught" (sp_caught K)) (c_may_swap : Cal P w K mg base (L2.CX P w) 9 "may_swap" (sp_may_swap K))
    (c__law_cell : Cal P w K mg base CX0 1 "_law_cell" (sp_cell K)) (c__law_box : Cal P w K mg base CX0 1 "_law_box" sp_box) (c__law_take : Cal P w K mg base CX0 1 "_law_take" sp_take) (c__law_scene : Cal P w K mg base CX0 6 "_law_scene" (sp_scene K)) (c__law_rules : Cal P w K mg base CX0 3 "_law_rules" (sp_mrules K))
    (c__law_grid : Cal P w K mg base CX0 3 "_law_grid" (sp_law_grid K)) (c__law_may : Cal P w K mg base CX0 5 "_law_may" (sp_law_may K)) (c_rules : Met P w K mg base CX0 1 (cR K) "rules" (sp_rules K)) (c_repr : Met P w K mg base CX0 4 (cK K) "__repr__" (sp_krep K))
    {fR : Addr} {fdR : FuncData} (mR : Mk K (cR K) fR) (FR : FnOk P w K mg base CX0 7 fR fdR P_RuleList___init__ (sp_rules_init K)) (bR : Binds K fdR P_RuleList___init__ []) :
    FnG P w K mg base 13 fl fdl P_law (sp_law K) := by
  have nd := sc_law.nd
  refine fnG_of Fl sc_law (fun vs H Q E h => ?_) (fun f cdv A outer s H vs Q E hgd hr h => ?_)
  · obtain ⟨a, ns, rfl, _⟩ := h
    rfl
  · obtain ⟨sa, ns, rfl, hsa, hns, k⟩ := h
    refine ⟨_, (pss_cons (ps_for PassesOwn.never rfl (pi_range1 (by rfl) T.f_range (pa_cons (pe_callB (call_max2 rfl) (by rfl) T.f_max (by decide +kernel) (pa_cons pe_int (pa_cons (pe_callB (call_min2 rfl) (by rfl) T.f_min (by decide +kernel) (pa_cons pe_int (pa_cons (pe_callB call_len_seq (by rfl) T.f_len (by decide +kernel) (pa_cons (pv 0) pa_nil)) pa_nil))) pa_nil))) pa_nil)) (pg_name (i := 1) nd rfl (by first | exact Or.inl rfl | exact Or.inr rfl)) (pss_cons (ps_set (i := 2) nd rfl (by first | exact Or.inl rfl | exact Or.inr rfl) (pcal c__law_box hr (by decide) (by rfl) (pa_cons (pcal c__law_cell hr (by decide) (by rfl) (pa_cons (pv 0) (pa_cons (pv 1) pa_nil))) pa_nil)))
    (pss_cons (ps_asg (pcal c__law_scene hr (by decide) (by rfl) (pa_cons (pv 2) (pa_cons pe_int pa_nil))) (pg_unl rfl (pgs_cons (pg_name (i := 3) nd rfl (by first | exact Or.inl rfl | exact Or.inr rfl)) (pgs_cons (pg_name (i := 4) nd rfl (by first | exact Or.inl rfl | exact Or.inr rfl)) (pgs_cons (pg_name (i := 5) nd rfl (by first | exact Or.inl rfl | exact Or.inr rfl)) pgs_nil)))))
    (pss_cons (ps_par (i := 6) (j := 7) (by rfl) nd rfl rfl (by decide) rfl rfl (pa_cons (pe_ix (ix_listK (K := K)) (pv 3) pe_int (fun _ _ => rfl)) (pa_cons (pe_ix (ix_listK (K := K)) (pv 3) pe_int (fun _ _ => rfl)) pa_nil)) (by rfl))
    (pss_cons (ps_set (i := 8) nd rfl (by first | exact Or.inl rfl | exact Or.inr rfl) (pcal c__law_rules hr (by decide) (by rfl) (pa_cons (pv 2) (pa_cons (pv 3) (pa_cons (pv 4) (pa_cons (pcal c__law_take hr (by decide) (by rfl) (pa_cons (pv 2) (pa_cons pe_int pa_nil))) pa_nil))))))
    (pss_cons (ps_if (pt_cmpR op_eq (pcal c__law_take hr (by decide) (by rfl) (pa_cons (pv 2) (pa_cons pe_int pa_nil))) pe_int (nomark _)) (pss_one (ps_set (i := 8) nd rfl (by first | exact Or.inl rfl | exact Or.inr rfl) (pe_op op_cat (pe_op op_cat (pe_slice (sl_listK (K := K)) (pv 8) po_none (po_some pe_int)) (pe_lst (pa_cons (pe_tup (pa_cons (pe_ix ix_tup (pe_ix (ix_listK (K := K)) (pv 8) pe_int (fun _ _ => rfl)) pe_int (fun _ _ => rfl)) (pa_cons (pe_ix (ix_listK (K := K)) (pv 7) (pcal c__law_take hr (by decide) (by rfl) (pa_cons (pv 2) (pa_cons (pe_callB call_len_seq (by rfl) T.f_len (by decide +kernel) (pa_cons (pv 7) pa_nil)) pa_nil))) (fun _ _ => rfl)) pa_nil))) pa_nil))) (pe_slice (sl_listK (K := K)) (pv 8) (po_some pe_int) po_none)))) pss_nil)
    (pss_cons (ps_par (i := 9) (j := 10) (by rfl) nd rfl rfl (by decide) rfl rfl (pa_cons (pe_make mR FR (hr.mono (by decide)) rfl T.g_RuleList bR .nil pass0 (pa_cons (pv 5) (pa_cons (pv 8) pa_nil))) (pa_cons (pcal c__law_grid hr (by decide) (by rfl) (pa_cons (pv 6) (pa_cons (pv 8) pa_nil))) pa_nil)) (by rfl))
    (pss_cons (ps_set (i := 11) nd rfl (by first | exact Or.inl rfl | exact Or.inr rfl) (pe_listRg rfl (by rfl) T.f_list (prg_1 (by rfl) T.f_range (pe_callB (call_max2 rfl) (by rfl) T.f_max (by decide +kernel) (pa_cons pe_int (pa_cons (pe_op op_sub (pe_callB (call_len_seqK (K := K)) (by rfl) T.f_len (by decide +kernel) (pa_cons (pv 8) pa_nil)) pe_int) pa_nil))))))
    (pss_cons (ps_for PassesOwn.never rfl (pi_list (pe_op op_cat (pv 11) (pe_revL (pv 11)))) (pg_name (i := 12) nd rfl (by first | exact Or.inl rfl | exact Or.inr rfl)) (pss_one (ps_if (pt_cmpR op_ne (pe_callB cr_reprB (by rfl) T.f_repr (by decide +kernel) (pa_cons (pcalL c_may_swap hr (by decide) (by rfl) (pa_cons (pv 9) (pa_cons (pv 12) pa_nil))) pa_nil)) (pe_callB cr_reprB (by rfl) T.f_repr (by decide +kernel) (pa_cons (pcal c__law_may hr (by decide) (by rfl) (pa_cons (pv 6) (pa_cons (pv 8) (pa_cons (pv 12) (pa_cons (pv 10) pa_nil))))) pa_nil)) (nomark _)) (pss_one (ps_ret pe_bl)) pss_nil)))
    (pss_cons (ps_set (i := 13) nd rfl (by first | exact Or.inl rfl | exact Or.inr rfl) (pe_ix ix_list (pe_lst (pa_cons (pe_un un_neg pe_int) (pa_cons (pe_op op_sub (pe_callB call_len_seq (by rfl) T.f_len (by decide +kernel) (pa_cons (pv 8) pa_nil)) pe_int) (pa_cons (pe_op op_sub (pe_callB call_len_seq (by rfl) T.f_len (by decide +kernel) (pa_cons (pv 8) pa_nil)) pe_int) (pa_cons pe_non (pa_cons pe_bl (pa_cons pe_str (pa_cons (pe_tup (pa_cons pe_int pa_nil)) (pa_cons (pe_op op_pow pe_int pe_int) (pa_cons pe_bl pa_nil)))))))))) (pcal c__law_take hr (by decide) (by rfl) (pa_cons (pv 2) (pa_cons pe_int pa_nil))) (fun _ _ => rfl)))
    (pss_cons (ps_set (i := 14) nd rfl (by first | exact Or.inl rfl | exact Or.inr rfl) (pe_ix ix_list (pe_lst (pa_cons pe_non (pa_cons pe_int (pa_cons (pv 8) (pa_cons pe_str (pa_cons (pv 5) pa_nil)))))) (pcal c__law_take hr (by decide) (by rfl) (pa_cons (pv 2) (pa_cons pe_int pa_nil))) (fun _ _ => rfl)))
    (pss_cons (ps_if (pt_cmpR op_ne (pe_callB (cr_reprD hr hgd) (by rfl) T.f_repr (by decide +kernel) (pa_cons (pcal c__law_caught hr (by decide) (by rfl) (pa_cons (pv 9) (pa_cons (pv 13) pa_nil))) pa_nil)) (pe_callB (cr_reprD hr hgd) (by rfl) T.f_repr (by decide +kernel) (pa_cons (pe_lst (pa_cons pe_str (pa_cons (pv 13) pa_nil))) pa_nil)) (nomark _)) (pss_one (ps_ret pe_bl)) pss_nil)
    (pss_cons (ps_if (pt_cmpR op_ne (pe_callB (cr_or (cr_reprL hr hgd) (cr_reprI (x := "list") (by decide +kernel) c_repr hr (by decide) hgd)) (by rfl) T.f_repr (by decide +kernel) (pa_cons (pcal c__law_caught hr (by decide) (by rfl) (pa_cons (pv 14) (pa_cons (pv 13) pa_nil))) pa_nil)) (pe_callB (cr_or (cr_reprL hr hgd) (cr_reprI (x := "list") (by decide +kernel) c_repr hr (by decide) hgd)) (by rfl) T.f_repr (by decide +kernel) (pa_cons (pe_lst (pa_cons pe_str (pa_cons (pv 14) pa_nil))) pa_nil)) (nomark _)) (pss_one (ps_ret pe_bl)) pss_nil)
    (pss_one (ps_if (pt_cmpR op_ne (pe_callB (cr_reprD hr hgd) (by rfl) T.f_repr (by decide +kernel) (pa_cons (pmet0 c_rules hr (by decide) T.k_RuleList (pv 9)) pa_nil)) (pe_callB (cr_reprD hr hgd) (by rfl) T.f_repr (by decide +kernel) (pa_cons (pv 8) pa_nil)) (nomark _)) (pss_one (ps_ret pe_bl)) pss_nil)))))))))))))))
    (pss_one (ps_ret ((pcalG hgd) c__law_great_right hr (by decide) (by rfl) (pa_cons (pcal c__law_cell hr (by decide) (by rfl) (pa_cons (pv 0) (pa_cons pe_int pa_nil))) pa_nil))))), ?_⟩
    refine ⟨_, rfl, sa, _, rfl, .inl hsa, _, _, rfl, _, _, rfl, _, rfl, by split <;> (try split) <;> omega, by split <;> (try split) <;> omega, ?_⟩
    refine for_it (walk_range (lo := 0)) (fun i σ H' => (∃ c1 c2 c3 c4 c5 c6 c7 c8 c9 c10 c11 c12 c13 c14, σ = [some (.ref sa), c1, c2, c3, c4, c5, c6, c7, c8, c9, c10, c11, c12, c13, c14]) ∧ SqL K H' sa (ns.map V.int)) ⟨⟨_, _, _, _, _, _, _, _, _, _, _, _, _, _, rfl⟩, hsa⟩ (fun _ _ _ _ _ => trivial) ?_ ?_
    · rintro i z σ H0 H1 hi ⟨⟨c1, c2, c3, c4, c5, c6, c7, c8, c9, c10, c11, c12, c13, c14, rfl⟩, hs0⟩ ⟨rfl, rfl⟩
      refine ⟨_, rfl, _, rfl, sa, ns, i, by dsimp only; rw [Int.zero_add]; rfl, hs0, fun z => ⟨z, rfl, fun x a b c hx => ?_⟩⟩
      have sB : Same (fun _ => none) (upd H1 x (.lst [.int a, .int b, .int c])) := fun b o e => by cases e
      have hbx : Box x (upd H1 x (.lst [.int a, .int b, .int c])) := ⟨a, b, c, upd_same⟩
      have carry : ∀ H', (∀ r o, r ≠ x → (upd H1 x (.lst [.int a, .int b, .int c])) r = some o → H' r = some o) → SqL K H' sa (ns.map V.int) := fun H' h' => sql_carry hs0 hx fun r o n e => h' r o n (by rw [upd_ne n]; exact e)
      generalize (upd H1 x (.lst [.int a, .int b, .int c])) = Hx at sB hbx carry ⊢
      refine ⟨_, rfl, (fun _ => none), x, rfl, sB, rfl, hbx, fun q sv kn kv pa ys ps B1 H2 st1 hq hSh kok hK hpa hY hPO => ?_⟩
      obtain ⟨shq, lf, fxs, la, rfl, hsh, hlf, hF, hla⟩ := id hSh
      refine ⟨q, _, rfl, SqL.of (st1.bh _ _ hq), rfl, _, _, rfl, _, _, rfl, _, _, rfl, rfl, ?_⟩
      refine ⟨_, rfl, shq, _, _, _, rfl, rfl, SqL.of (st1.bh _ _ hsh), rfl, _, rfl, shq, _, _, _, rfl, rfl, SqL.of (st1.bh _ _ hsh), rfl, _, _, rfl, ?_⟩
      have nB1 := st1.nx hbx rfl
      refine ⟨_, rfl, _, rfl, _, rfl, _, rfl, x, 6, rfl, by decide, by decide, st1.box, fun d a1 a2 a3 h0 h6 => ?_⟩
      have st2 := st1.trans hbx (Stb.put (a := a1) (b := a2) (c := a3) st1.bh nB1)
      obtain ⟨m, rfl⟩ := Int.eq_ofNat_of_zero_le h0
      refine ⟨B1, x, _, kn, pa, ys, ps, m, rfl, by omega, st2.bh, nB1, st2.box, hSh, kok, hpa, hY, hPO, fun ra xs rs B3 H3 st3 hra0 hra hP ok hlen => ?_⟩
      have st4 := st2.trans hbx st3
      have fin : ∀ (ra : Addr) (xs : List V) (rs : List Rul) (B5 H5 : Hp), Stb x (fun _ => none) Hx B5 H5 → Same B1 B5 → B5 ra = some (.lst xs) → Paired (RuA K B5) xs rs → RulsOk kn rs → rs.length ≤ 7 → ∀ D : Ends,
          (∀ c9 c10 c11 c12 c13 c14 H', (∀ b o, b ≠ x → H5 b = some o → H' b = some o) → D.nx [some (.ref sa), some (.int (0 + (i : Nat))), some (.ref x), some (.ref shq), some (.ref pa), some kv, some (.ref lf), some (.ref la), some (.ref ra), c9, c10, c11, c12, c13, c14] H') →
          t_made K D [some (.ref sa), some (.int (0 + (i : Nat))), some (.ref x), some (.ref shq), some (.ref pa), some kv, some (.ref lf), some (.ref la), some (.ref ra), c9, c10, c11, c12, c13, c14] H5 := fun ra xs rs B5 H5 st5 s15 hra hP ok h7 D kD =>
        law_made T kok ok h7 st5.bh (st5.nx hbx rfl) st5.box (SqL.of hra) hP (KdA.mono _ _ _ _ _ s15 hK) (SqL.of (s15 _ _ hlf)) (paired_mono FiA.mono s15 hF) kD
      have nB3 := st4.nx hbx rfl
      refine ⟨_, rfl, x, 3, rfl, by decide, by decide, st4.box, fun d2 b1 b2 b3 g0 g3 => ⟨rfl, _, rfl, ?_⟩⟩
      have st5 := st4.trans hbx (Stb.put (a := b1) (b := b2) (c := b3) st4.bh nB3)
      by_cases hd2 : d2 = 0
      · rw [decide_eq_true (show V.int d2 = V.int 0 by rw [hd2])]
        refine iteT ?_
        have h0r : 0 < rs.length := by omega
        have hl := hP.length
        have h0x : 0 < xs.length := by omega
        have e0 : xs[0]? = some xs[0] := List.getElem?_eq_getElem h0x
        obtain ⟨r0, hr0, T0, u0, eT0, hT0, hU0⟩ := paired_at hP e0
        have s5 := st5.bh
        generalize (upd H3 x (.lst [.int b1, .int b2, .int b3])) = H5 at st5 s5 ⊢
        refine ⟨_, rfl, _, rfl, ra, xs, rfl, SqL.of (s5 _ _ hra), fun p1 hp1 => ?_⟩
        rw [show (1 : Int) = ((1 : Nat) : Int) from rfl, cut_to xs (by omega)]
        have st6 := st5.trans hbx (Stb.of st5.box (Step.tmp (o := .lst (xs.take 1)) st5.bh hp1))
        have hp1' : (upd H5 p1 (.lst (xs.take 1))) p1 = some (.lst (xs.take 1)) := upd_same
        generalize (upd H5 p1 (.lst (xs.take 1))) = H6 at st6 hp1' ⊢
        have s6 := st6.bh
        refine ⟨_, rfl, ra, xs, _, _, rfl, rfl, SqL.of (s6 _ _ hra), atI_nat (j := 0) e0, ?_⟩
        rw [eT0]
        refine ⟨T0, _, _, _, rfl, rfl, same_tup s6 hT0, rfl, ?_⟩
        have s13 := st3.bb
        have xD : ∀ {q : Addr}, Hx q = none → q ≠ x := fun {q} h e => by
          obtain ⟨o, eo⟩ := hbx.some
          rw [e, eo] at h
          cases h
        have p1x : p1 ≠ x := xD (st5.free hbx hp1)
        refine ⟨_, rfl, _, rfl, _, rfl, la, _, rfl, .inl (SqL.of (s6 _ _ (s13 _ _ hla))), x, _, rfl, ?_, ?_, st6.box, fun g e1 e2 e3 hg0 hg1 => ?_⟩
        · rw [List.length_map]
          have := kok.an.1
          omega
        · rw [List.length_map]
          have := kok.an.2.1
          omega
        have st7 := st6.trans hbx (Stb.put (a := e1) (b := e2) (c := e3) st6.bh nB3)
        obtain ⟨gn, rfl⟩ := Int.eq_ofNat_of_zero_le hg0
        rw [List.length_map] at hg1
        have hgl : gn < kn.answers.length := by omega
        have hp7 : (upd H6 x (.lst [.int e1, .int e2, .int e3])) p1 = some (.lst (xs.take 1)) := by rw [upd_ne p1x]; exact hp1'
        generalize (upd H6 x (.lst [.int e1, .int e2, .int e3])) = H7 at st7 hp7 ⊢
        refine ⟨la, _, _, V.str kn.answers[gn], rfl, rfl, SqL.of (st7.bh _ _ (s13 _ _ hla)), atI_nat (by rw [List.getElem?_map, List.getElem?_eq_getElem hgl]; rfl), (show 2 ≤ sizeLine by decide), fun T1 hT1 => ⟨(show 1 ≤ sizeLine by decide), fun l1 hl1 => ?_⟩⟩
        have b1 := Step.new (o := .tup [u0, .str kn.answers[gn]]) st7.bh hT1
        have b2 := b1.trans (Step.tmp (o := .lst [.ref T1]) b1.bh hl1)
        have hp8 : (upd (upd H7 T1 (.tup [u0, .str kn.answers[gn]])) l1 (.lst [.ref T1])) p1 = some (.lst (xs.take 1)) := b2.hh _ _ hp7
        have hl8 : (upd (upd H7 T1 (.tup [u0, .str kn.answers[gn]])) l1 (.lst [.ref T1])) l1 = some (.lst [.ref T1]) := upd_same
        have hT8 : (upd B3 T1 (.tup [u0, .str kn.answers[gn]])) T1 = some (.tup [u0, .str kn.answers[gn]]) := upd_same
        generalize (upd (upd H7 T1 (.tup [u0, .str kn.answers[gn]])) l1 (.lst [.ref T1])) = H8 at b2 hp8 hl8 ⊢
        generalize (upd B3 T1 (.tup [u0, .str kn.answers[gn]])) = B8 at b1 b2 hT8
        have big : 60 < sizeLine := by decide
        refine ⟨p1, l1, _, _, rfl, rfl, hp8, hl8, ?_, fun p2 hp2 => ?_⟩
        · rw [List.length_take]
          show _ + 1 ≤ _
          omega
        have b3 := b2.trans (Step.tmp (o := .lst (xs.take 1 ++ [.ref T1])) b2.bh hp2)
        have hp9 : (upd H8 p2 (.lst (xs.take 1 ++ [.ref T1]))) p2 = some (.lst (xs.take 1 ++ [.ref T1])) := upd_same
        generalize (upd H8 p2 (.lst (xs.take 1 ++ [.ref T1]))) = H9 at b3 hp9 ⊢
        have s38 : Same B3 B8 := b3.bb
        refine ⟨_, rfl, _, rfl, ra, xs, rfl, SqL.of (b3.bh _ _ (s38 _ _ hra)), fun p3 hp3 => ?_⟩
        rw [cut_from xs (i := 1) (by omega)]
        have b4 := b3.trans (Step.tmp (o := .lst (xs.drop 1)) b3.bh hp3)
        have hpa9 : (upd H9 p3 (.lst (xs.drop 1))) p2 = some (.lst (xs.take 1 ++ [.ref T1])) := same_new hp3 _ _ hp9
        have hp3' : (upd H9 p3 (.lst (xs.drop 1))) p3 = some (.lst (xs.drop 1)) := upd_same
        generalize (upd H9 p3 (.lst (xs.drop 1))) = H10 at b4 hpa9 hp3' ⊢
        refine ⟨p2, p3, _, _, rfl, rfl, hpa9, hp3', ?_, fun p4 hp4 => ?_⟩
        · rw [List.length_append, List.length_take, List.length_drop]
          show _ + 1 + _ ≤ _
          omega
        have b5 := b4.trans (Step.new (o := .lst (xs.take 1 ++ [.ref T1] ++ xs.drop 1)) b4.bh hp4)
        have T4 : T1 ≠ p4 := ne_of_none (b4.bh _ _ hT8) hp4
        have hT10 : (upd B8 p4 (.lst (xs.take 1 ++ [.ref T1] ++ xs.drop 1))) T1 = some (.tup [u0, .str kn.answers[gn]]) := by rw [upd_ne T4]; exact hT8
        have st10 := st7.trans hbx (Stb.of st7.box b5)
        have s310 : Same B3 (upd B8 p4 (.lst (xs.take 1 ++ [.ref T1] ++ xs.drop 1))) := b5.bb
        have hP10 : Paired (RuA K (upd B8 p4 (.lst (xs.take 1 ++ [.ref T1] ++ xs.drop 1)))) (xs.take 1 ++ [.ref T1] ++ xs.drop 1) (dupR rs (r0.1, kn.answers[gn])) :=
          paired_app (paired_app (paired_mono RuA.mono s310 (paired_take 1 hP)) (.cons ⟨T1, u0, rfl, .inl (.inl hT10), LiA.mono TsA.mono _ _ _ _ _ s310 hU0⟩ .nil)) (paired_mono RuA.mono s310 (paired_drop 1 hP))
        exact fin p4 _ _ _ _ st10 (s13.trans s310) upd_same hP10 (dup_ok ok hr0 (List.getElem_mem hgl) (by omega)) (Nat.le_trans dup_len (by omega)) _ fun c9 c10 c11 c12 c13 c14 H' h' => ⟨⟨_, _, _, _, _, _, _, _, _, _, _, _, _, _, rfl⟩, carry H' fun b o n e => h' b o n (st10.hh b o n e)⟩
      · rw [decide_eq_false (show ¬ V.int d2 = V.int 0 from fun z => hd2 (V.int.inj z))]
        refine iteF ?_
        exact fin ra xs rs B3 _ st5 st3.bb hra hP ok (by omega) _ fun c9 c10 c11 c12 c13 c14 H' h' => ⟨⟨_, _, _, _, _, _, _, _, _, _, _, _, _, _, rfl⟩, carry H' fun b o n e => h' b o n (st5.hh b o n e)⟩
    · rintro σ H1 ⟨⟨c1, c2, c3, c4, c5, c6, c7, c8, c9, c10, c11, c12, c13, c14, rfl⟩, hs1⟩
      exact ⟨_, rfl, sa, ns, 0, rfl, hs1, fun z => ⟨z, rfl, k⟩⟩
end
end K5
set_option Elab.async false
set_option linter.all false
set_option maxRecDepth 100000
set_option maxHeartbeats 2000000
/-! The law's end for a promise that needs the empty guards. -/
namespace K5
open PySem PySem.Spec PyProof.Rows L2
theorem end_core {P : Program} {w : World} {K : PySem.W.Frag} {mg mb : Str → Option Value} {k : Nat} {fa a : Addr} {fd : FuncData} {x : Str} {sp : Sp} {s₁ : Shared} {H : Hp}
    (KX : K.In s₁.heap) (hns : s₁.heap.Ns mainGlobals mg) (hb : s₁.heap.Ns builtinsNs mb) (hbb : ∀ x : Str, x ≠ "__name__" → mb x = bootBuiltins x) (hlim : s₁.heap.NoLimit) (hg : s₁.gens = #[]) (hr : Room k callerA)
    (F : ∀ base : Heap, K.In base → base.Ns mainGlobals mg → FnG P w K mg base k fa fd [x] sp) (hbind : ∀ (s : Shared) (u : Value), BindsTo s fd ⟨[u], []⟩ [(x, u)])
    (hO : Only H) (hsp : sp [.ref a] H (fun v _ => v = .bl true) E0) (hok : HOk P w H s₁.heap) (hbase : ∀ b o, s₁.heap.get? b = some o → (∀ vs n, o.data ≠ .seq vs n) → H b = none) (hK : ∀ b o, K.lookup b = some o → H b = none)  :
    codeAny (model P w) callerA (.call (.ref fa) ⟨[.ref a], []⟩) (fun r s' => r = .ok (.ret (.bool true)) ∧ OldK s₁.heap s'.heap ∧ s'.os = s₁.os ∧ AllBare s'.gens) s₁ := by
  have noA : ∀ {b : Addr} {o : Obj} {es : Array DictEntry} {ep : Nat}, s₁.heap.get? b = some o → o.data = .dict es ep → H b = none := fun {b o es ep} e d => hbase b o e fun vs n z => by
    rw [d] at z
    cases z
  have nsK : ∀ {b : Addr} {m : Str → Option Value}, s₁.heap.Ns b m → (hidT s₁.heap H).Ns b m := fun {b m} ⟨o, es, ep, e, d, r⟩ => ⟨o, es, ep, hidT_get e (noA e d), d, r⟩
  have hKb : K.In (hidT s₁.heap H) := fun b o e => hidT_get (KX b o e) (hK b o e)
  have hM : Mod K mg (hidT s₁.heap H) := ⟨hKb, nsK hns, ⟨mb, nsK hb, hbb⟩, let ⟨mc, h1, h2⟩ := hlim; ⟨mc, nsK h1, h2⟩⟩
  have e0 : Env0 P w K mg (hidT s₁.heap H) callerA [] s₁ H := ⟨rfl, hM, fun b o e => of_hidT e, Nat.le_of_eq (hidT_size _ _), trivial, fun b hb => absurd (show b ∈ ([] : List Addr) from hb) (by simp), hok, .of_eq hg⟩
  refine codeAny_mono ((F _ hKb (nsK hns)).run callerA [] s₁ H ⟨[.ref a], []⟩ [.ref a] [.ref a] _ _ rfl hr e0 (hbind s₁ (.ref a)) (.cons rfl .nil) hsp) fun r s' h => ?_
  cases r with
  | error e => exact False.elim h
  | ok fl =>
    cases fl with
    | next => exact False.elim h
    | brk => exact False.elim h
    | cont => exact False.elim h
    | ret u =>
      obtain ⟨v, H', os, bare, un, hok', r', q⟩ := h
      obtain rfl : v = V.bl true := q
      obtain rfl : u = Value.bool true := r'
      refine ⟨rfl, OldK.of_keep fun b o e => ?_, os, bare⟩
      cases q : H b with
      | none => exact un.keep b o e q (by intro z; exact absurd (show b ∈ ([] : List Addr) from z) (by simp)) (by simp)
      | some u =>
        rcases hO b with z | ⟨ob, xs, z⟩
        · rw [q] at z; cases z
        · obtain ⟨e1, _⟩ := hok b _ z
          obtain ⟨e2, _⟩ := hok' b _ (un.frzs b ob _ z)
          rw [e] at e1; cases e1
          exact e2
theorem end_call {P : Program} {w : World} {K : PySem.W.Frag} {mg mb : Str → Option Value} {k : Nat} {fa a : Addr} {fd : FuncData} {x : Str} {sp : Sp} {s₁ : Shared} {vs : List Value} {ns : List Int}
    (KX : K.In s₁.heap) (hns : s₁.heap.Ns mainGlobals mg) (hb : s₁.heap.Ns builtinsNs mb) (hbb : ∀ x : Str, x ≠ "__name__" → mb x = bootBuiltins x) (hlim : s₁.heap.NoLimit) (hg : s₁.gens = #[]) (hr : Room k callerA)
    (ha : s₁.heap.get? a = some { cls := .type "list", data := .seq vs.toArray }) (hi : IntsAre vs ns) (hl : ns.length ≤ sizeLine)
    (F : ∀ base : Heap, K.In base → base.Ns mainGlobals mg → FnG P w K mg base k fa fd [x] sp) (hbind : ∀ (s : Shared) (u : Value), BindsTo s fd ⟨[u], []⟩ [(x, u)])
    (hsp : ∀ H : Hp, Only H → SqL K H a (ns.map V.int) → sp [.ref a] H (fun v _ => v = .bl true) E0) :
    codeAny (model P w) callerA (.call (.ref fa) ⟨[.ref a], []⟩) (fun r s' => r = .ok (.ret (.bool true)) ∧ OldK s₁.heap s'.heap ∧ s'.os = s₁.os ∧ AllBare s'.gens) s₁ := by
  have rv := vals_ints hi
  cases hk : K.lookup a with
  | some o =>
    have e := KX a o hk
    rw [ha] at e
    cases e
    have hO : Only (fun _ => none) := fun _ => .inl rfl
    exact end_core KX hns hb hbb hlim hg hr F hbind hO (hsp _ hO (.inr ⟨_, vs.toArray, _, hk, rfl, rfl, rfl, by rw [List.size_toArray, hi.length]; exact hl, by simpa using rv⟩)) (fun b u z => by cases z) (fun _ _ _ _ => rfl) (fun _ _ _ => rfl)
  | none =>
    have hO : Only (fun b => if b = a then some (.frz { cls := .type "list", data := .seq vs.toArray } (.lst (ns.map V.int))) else none) := fun b => by
      by_cases hb : b = a
      · exact .inr ⟨_, _, if_pos hb⟩
      · exact .inl (if_neg hb)
    refine end_core KX hns hb hbb hlim hg hr F hbind hO (hsp _ hO (.inl (.inr ⟨_, if_pos rfl⟩))) (fun b u z => ?_) (fun b o e h => ?_) fun b o e => if_neg fun z => by rw [z, hk] at e; cases e
    · by_cases hb : b = a
      · have z' := (if_pos hb).symm.trans z
        cases z'
        subst hb
        exact ⟨ha, by rw [List.length_map]; exact hl, vs, _, rv, ha⟩
      · have z' := (if_neg hb).symm.trans z
        cases z'
    · refine if_neg fun z => ?_
      rw [z, ha] at e
      cases e
      exact h _ _ rfl
theorem walk_end {l : PySem.W.OpenLaw} {n k : Nat} {q : Program} {loose : List Str} {XP : (Str → Option Value) → Heap → Prop} {YP : World → Heap → Prop} {d : DefRec} {x : Str}
    (hn : l.most = some n) (hn2 : n ≤ sizeLine) (hdf : d.params.defaults = []) (hr : Room k callerA)
    (F : ∀ (w : World) (mg : Str → Option Value) (fa : Addr) (h : Heap), YP w h → h.Ns mainGlobals mg → mg d.name = some (.ref fa) →
      ∃ (K : PySem.W.Frag) (fd : FuncData) (sp : Sp), K.In h ∧ (∀ (s : Shared) (u : Value), BindsTo s fd ⟨[u], []⟩ [(x, u)]) ∧
        (∀ (H : Hp) (a : Addr) (ns : List Int), ns.length ≤ n → Only H → SqL K H a (ns.map V.int) → sp [.ref a] H (fun v _ => v = .bl true) E0) ∧
        ∀ base : Heap, K.In base → base.Ns mainGlobals mg → FnG l.prog w K mg base k fa fd [x] sp) :
    PySem.W.WalkO q loose XP YP l.row.toRowW d [] (fun f vs => PySem.call f vs) := by
  refine Att.attach_call hn hdf fun w s₀ s₁ mg mb fa o pm cd doc a vs ns G Y ho hd hcd hmg hobj hints hlen hg => ?_
  obtain ⟨K, fd, sp, KX, hb, hsp, hF⟩ := F w mg fa _ Y G.T.g hmg
  exact end_call KX G.T.g G.T.b G.T.builtins G.T.nolimit hg hr hobj hints (Nat.le_trans hlen hn2) hF hb fun H hO hS => hsp H a ns hlen hO hS
end K5
set_option Elab.async false
set_option linter.all false
set_option maxRecDepth 100000
set_option maxHeartbeats 8000000
/-! The law. -/
namespace K5
open PySem PySem.Spec PyProof.Rows L2
theorem fn_law {P : Program} {w : World} {K : PySem.W.Frag} {mg : Str → Option Value} {base : Heap} {fl : Addr} {fdl : FuncData} (T : Top K mg) (Y : TopX K mg) (Fl : FunD K "law" "law" (defArgs s_law) (defBody s_law) (defScope s_law) [] [] fl fdl) : FnG P w K mg base 13 fl fdl P_law (sp_law K) := by
  have iIL : IniOk P w K mg base (cIL K) "value" := ini_InvalidList Y
  have iTM : IniOk P w K mg base (cTM K) "count" := ini_TooMany Y
  have iNR : IniOk P w K mg base (cNR K) "value" := ini_NoRule Y
  have is_integer := ok_is_integer (P := P) (w := w) (base := base) T
  have is_number := ok_is_number T is_integer
  have is_sequence := ok_is_sequence (P := P) (w := w) (base := base) T
  have is_word := ok_is_word (P := P) (w := w) (base := base) T
  have all_unlike := ok_all_unlike (P := P) (w := w) (base := base) T
  have first_other := ok_first_other T is_sequence is_word
  have is_field := ok_is_field T is_word
  have is_value := ok_is_value T is_word is_number
  have width := ok_width (P := P) (w := w) (base := base) T
  have fields := ok_fields (P := P) (w := w) (base := base) T
  have answers := ok_answers (P := P) (w := w) (base := base) T
  have kinds := ok_names (P := P) (w := w) (base := base) T
  have are_fields := ok_are_fields T is_sequence is_field all_unlike
  have are_answers := ok_are_answers T is_sequence is_word all_unlike
  have sort_of := ok_sort_of (P := P) (w := w) (base := base) T
  have place_of := ok_place_of T kinds
  have is_test := ok_is_test T sort_of is_value
  obtain ⟨fK, fdK, hM, FK, mv, hKB⟩ := (ok_kind_init T are_fields are_answers is_integer).ex
  have need_kind := ok_need_kind (P := P) (w := w) (base := base) T
  have meets_test := ok_meets_test T place_of
  have meets_all := ok_meets_all T meets_test
  have is_answer := ok_is_answer T answers
  have is_rule := ok_is_rule T is_sequence width is_test is_answer
  have are_rules := ok_are_rules T is_sequence is_rule
  have kind := ok_kind (P := P) (w := w) (base := base) T
  have rules := ok_rules (P := P) (w := w) (base := base) T
  have place_for := ok_place_for T meets_all
  have answer_for := ok_answer_for T place_for
  obtain ⟨fR, fdR, mR, FR, bR⟩ := ok_rules_init T need_kind are_rules
  have tests_of := ok_tests_of (P := P) (w := w) (base := base) T
  have word_members := ok_word_members T first_other
  have number_members := ok_number_members (P := P) (w := w) (base := base) T
  have members := ok_members T fields word_members number_members
  have first_difference := ok_first_difference T answer_for
  have grid := ok_grid T Y iTM members
  have need_list := ok_need_list T Y iIL
  have may_swap := ok_may_swap T Y iNR need_list rules kind is_integer tests_of grid first_difference mR FR bR
  have lmeets := ok_law_meets (P := P) (w := w) (base := base) T
  have lall := ok_law_all T lmeets
  have ldecides := ok_law_decides T lall
  have lanswer := ok_law_answer T ldecides
  have ltests_of := ok_law_tests_of (P := P) (w := w) (base := base) T
  have lmembers := ok_law_members T ltests_of
  have lgrid := ok_law_grid T lmembers
  have lmay := ok_law_may T lanswer
  have cell := ok_cell (P := P) (w := w) (base := base) T
  have box := ok_box (P := P) (w := w) (base := base) T
  have tak := ok_take (P := P) (w := w) (base := base) T
  have words := ok_words T tak
  have numbers := ok_numbers T tak
  have mkind := ok_mkind T tak words
  have pools := ok_pools T tak words numbers
  have test := ok_test T tak
  have mrules := ok_mrules T tak test
  have scene := ok_scene T mkind pools hM FK hKB
  have two := ok_two (P := P) (w := w) (base := base) T
  have border := ok_border (P := P) (w := w) (base := base) T
  have great := ok_great T two border
  have caught := ok_caught T Y may_swap
  have kstr := ok_kstr (P := P) (w := w) (base := base) T
  have krep := ok_krep T kstr
  have great_right := ok_great_right T great caught may_swap hM FK hKB mR FR bR
  exact ok_law Fl T great_right caught may_swap cell box tak scene mrules lgrid lmay rules krep mR FR bR
theorem facts {P : Program} {w : World} {K : PySem.W.Frag} {h : Heap} {mg : Str → Option Value} {f : Addr} (X : K.In h) (G : h.Ns mainGlobals mg) (hfa : mg ("law" : Str) = some (.ref f)) (c : SaysK K) :
    ∃ fd : FuncData, (∀ (s : Shared) (v : Value), BindsTo s fd ⟨[v], []⟩ [("_law_script", v)]) ∧ ∀ base : Heap, K.In base → base.Ns mainGlobals mg → FnG P w K mg base 13 f fd ["_law_script"] (sp_law K) := by
  have T := top_of X G c
  have Y := topx_of X G c
  obtain ⟨fl, fdl, hl, Fl⟩ := (law_of X G c).ex
  have e := hfa.symm.trans hl
  cases e
  have b := FunD.bindsA (ps := ["_law_script"]) Fl fun _ _ _ _ _ _ us hl => match us, hl with | [_], _ => rfl
  exact ⟨fdl, fun s v => b s [v] rfl, fun base _ _ => fn_law T Y Fl⟩
end K5
set_option Elab.async false
set_option linter.all false
open PySem PySem.W PySem.Calls PyProof.Rows
set_option maxRecDepth 100000 in
set_option maxHeartbeats 0 in
theorem PySem.Challenge.cw_seenrules_k56_whole_neighbours_exchanged_holds : PySem.Challenge.rw_seenrules_k56_whole_neighbours_exchanged.Holds := by
  w_on; o_law
  refine HandSHeadRun.head_any (r := K5.R) (q := K5.qv) (H := K5.hookK) (ob := K5.ob) (M := 20000) (loose := K5.names) (d := HandSHeadRun.topDef K5.R.prog 96) (kwd := []) K5.ob_eq
    (by kernel_rfl) (fun s => by kernel_rfl) K5.run (by kernel_rfl) (by kernel_rfl) (by kernel_rfl) (by rfl) (by first | assumption | decide +kernel) (by decide +kernel) ⟨rfl, rfl, rfl, rfl, rfl, by decide +kernel⟩ ?hw ?hc
  case hw => w_witness2
  case hc =>
    refine K5.walk_end (l := PySem.Challenge.rw_seenrules_k56_whole_neighbours_exchanged) (n := 63) (k := 13) (x := "_law_script") rfl (by decide) (by kernel_rfl) ⟨rfl, by decide, by decide⟩ ?F
    intro w mg fa h Y G hmg0
    obtain ⟨K, KX, c⟩ := Y
    have hmg : mg ("law" : PySem.Str) = some (.ref fa) := by
      have e : (HandSHeadRun.topDef K5.R.prog 96).name = ("law" : PySem.Str) := by kernel_rfl
      rw [← e]
      exact hmg0
    obtain ⟨fd, hb, hF⟩ := K5.facts (P := PySem.Challenge.rw_seenrules_k56_whole_neighbours_exchanged.prog) (w := w) KX G hmg c
    exact ⟨K, fd, K5.sp_law K, KX, hb, fun H a ns hl _ hS => ⟨a, ns, rfl, hS, Nat.le_trans hl (by decide), fun _ => rfl⟩, hF⟩
