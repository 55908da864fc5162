import PyProof.Rows.All
import Wide.All
import OpenK.AllK
import Wide.FinOn
import HandS.ForExc
import HandS.ForMost
import HandS.Wide
import HandS.Flow
import HandS.NoneIn
import HandS.IsInst
import HandS.Conv
import HandS.Strs
import HandS.TupSets
import HandS.Defaults
import HandS.Walk
import HandS.ClsMeth
import HandS.SetFor
import KE.GoesMore
import PyProof.EnumMake
import HandS.ExcInit
import KE.KExcSuper
import KE.Datum
import HandS.TryMany
import HandS.ExcField
import HandS.ExcIs
import KE.KExcIs
import HandS.ExcOwn
import KE.KStateDown
import HandS.HeadHook1
import HandS.HeadHook2
import PyProof.InstNe
import PyProof.NeData
import HandS.Head0
import HandS.Head1
import HandS.Head2
import HandS.HeadWalk
import HandS.HeadEnd
import PySem.Challenge.RW_turnrings_k81_plans_made_and_their_runs
set_option Elab.async false
set_option linter.all false
set_option maxRecDepth 100000
set_option maxHeartbeats 4000000
/-! part Gk -/
/-! The ground of these proofs: what stands still (F) below what is (H), typed readings of values, calls by name. -/
namespace G
open PySem PySem.Spec PyProof.Rows L2

/-! ### heaps that grow -/
theorem Same.new {H : Hp} {p : Addr} {o : HO} (h : H p = none) : Same H (upd H p o) := fun a u e => by
  rw [upd_ne (ne_of_none e h)]
  exact e
theorem Same.at {H H' : Hp} (s : Same H H') {a : Addr} {o : HO} (h : H a = some o) : H' a = some o := s a o h
theorem look_new {H : Hp} {a p : Addr} {o u : HO} (h : H a = some u) (n : H p = none) : upd H p o a = some u := by
  rw [upd_ne (ne_of_none h n)]
  exact h
theorem look_mut {H : Hp} {a p : Addr} {o u : HO} (h : H a = some u) (n : a ≠ p) : upd H p o a = some u := by
  rw [upd_ne n]
  exact h
/-- a part that stands still grows with the heap: what is new in it was free -/
structure Grow (F H F' H' : Hp) : Prop where
  ff : Same F F'
  sub : Same F' H'
  fresh : ∀ b o, F' b = some o → F b = some o ∨ H b = none
theorem Grow.refl {F H : Hp} (s : Same F H) : Grow F H F H := ⟨Same.refl F, s, fun _ _ h => .inl h⟩
theorem Grow.trans {F H F1 H1 F2 H2 : Hp} (a : Grow F H F1 H1) (k : Same H H1) (b : Grow F1 H1 F2 H2) : Grow F H F2 H2 :=
  ⟨a.ff.trans b.ff, b.sub, fun p o e => by
    rcases b.fresh p o e with h | h
    · exact a.fresh p o h
    · exact .inr (k.free h)⟩
theorem Grow.add {F H : Hp} {p : Addr} {o : HO} (s : Same F H) (h : H p = none) : Grow F H (upd F p o) (upd H p o) := by
  refine ⟨Same.new (s.free h), fun b u e => ?_, fun b u e => ?_⟩
  · by_cases q : b = p
    · subst q; rw [upd_same] at e ⊢; exact e
    · rw [upd_ne q] at e ⊢; exact s b u e
  · by_cases q : b = p
    · subst q; exact .inr h
    · rw [upd_ne q] at e; exact .inl e
theorem Grow.tmp {F H H' : Hp} (s : Same F H) (k : Same H H') : Grow F H F H' := ⟨Same.refl F, s.trans k, fun _ _ h => .inl h⟩
/-- what was free and is there now may stand still from here on -/
theorem Grow.fix {F H F1 H1 : Hp} {p : Addr} {o : HO} (g : Grow F H F1 H1) (n : H p = none) (m : F1 p = none) (e : H1 p = some o) : Grow F H (upd F1 p o) H1 := by
  refine ⟨g.ff.trans (Same.new m), fun b u q => ?_, fun b u q => ?_⟩
  · by_cases z : b = p
    · subst z; rw [upd_same] at q; rw [e]; exact q
    · rw [upd_ne z] at q; exact g.sub b u q
  · by_cases z : b = p
    · subst z; exact .inr n
    · rw [upd_ne z] at q; exact g.fresh b u q
theorem Grow.none {F H F1 H1 : Hp} {p : Addr} (g : Grow F H F1 H1) (m : F p = none) (n : H p ≠ none) : F1 p = none := by
  cases q : F1 p with
  | none => rfl
  | some o =>
    rcases g.fresh p o q with h | h
    · rw [m] at h; cases h
    · exact absurd h n

/-! ### typed readings -/
structure Rp (α : Type) where
  rel : α → V → Hp → Prop
  mono : ∀ {d : α} {v : V} {F F' : Hp}, Same F F' → rel d v F → rel d v F'
def Rp.int : Rp Int := ⟨fun i v _ => v = .int i, fun _ h => h⟩
def Rp.str : Rp Str := ⟨fun i v _ => v = .str i, fun _ h => h⟩
def Rp.bl : Rp Bool := ⟨fun i v _ => v = .bl i, fun _ h => h⟩
def Rp.val : Rp V := ⟨fun i v _ => v = i, fun _ h => h⟩
theorem pd_mono {α β : Type} {r r' : α → β → Prop} (f : ∀ a b, r a b → r' a b) : ∀ {xs : List α} {ys : List β}, Paired r xs ys → Paired r' xs ys
  | _, _, .nil => .nil
  | _, _, .cons h t => .cons (f _ _ h) (pd_mono f t)
theorem pd_len {α β : Type} {r : α → β → Prop} : ∀ {xs : List α} {ys : List β}, Paired r xs ys → ys.length = xs.length
  | _, _, .nil => rfl
  | _, _, .cons _ t => congrArg Nat.succ (pd_len t)
theorem pd_get {α β : Type} {r : α → β → Prop} : ∀ {xs : List α} {ys : List β} {i : Nat} {y : β}, Paired r xs ys → ys[i]? = some y → ∃ x, xs[i]? = some x ∧ r x y
  | _, _, i, y, .nil, h => by simp at h
  | _, _, 0, y, .cons h t, e => by simp at e; subst e; exact ⟨_, rfl, h⟩
  | _, _, i + 1, y, .cons h t, e => by
    obtain ⟨x, h1, h2⟩ := pd_get (i := i) t (by simpa using e)
    exact ⟨x, by simpa using h1, h2⟩
theorem pd_get' {α β : Type} {r : α → β → Prop} : ∀ {xs : List α} {ys : List β} {i : Nat} {x : α}, Paired r xs ys → xs[i]? = some x → ∃ y, ys[i]? = some y ∧ r x y
  | _, _, i, y, .nil, h => by simp at h
  | _, _, 0, y, .cons h t, e => by simp at e; subst e; exact ⟨_, rfl, h⟩
  | _, _, i + 1, y, .cons h t, e => by
    obtain ⟨x, h1, h2⟩ := pd_get' (i := i) t (by simpa using e)
    exact ⟨x, by simpa using h1, h2⟩
theorem pd_snoc {α β : Type} {r : α → β → Prop} : ∀ {xs : List α} {ys : List β} {x : α} {y : β}, Paired r xs ys → r x y → Paired r (xs ++ [x]) (ys ++ [y])
  | _, _, _, _, .nil, h => .cons h .nil
  | _, _, _, _, .cons h t, h' => .cons h (pd_snoc t h')
theorem pd_app {α β : Type} {r : α → β → Prop} : ∀ {xs xs' : List α} {ys ys' : List β}, Paired r xs ys → Paired r xs' ys' → Paired r (xs ++ xs') (ys ++ ys')
  | _, _, _, _, .nil, h => h
  | _, _, _, _, .cons h t, h' => .cons h (pd_app t h')
theorem pd_map {α β γ : Type} {r : α → β → Prop} {f : γ → α} : ∀ {xs : List γ} {ys : List β}, Paired (fun a b => r (f a) b) xs ys → Paired r (xs.map f) ys
  | _, _, .nil => .nil
  | _, _, .cons h t => .cons h (pd_map t)
theorem pd_eq {β : Type} {f : α → β} : ∀ {xs : List α} {ys : List β}, Paired (fun a b => b = f a) xs ys → ys = xs.map f
  | _, _, .nil => rfl
  | _, _, .cons h t => by rw [h, pd_eq t]; rfl
theorem pd_of_map {α β : Type} {f : α → β} : ∀ (xs : List α), Paired (fun a b => b = f a) xs (xs.map f)
  | [] => .nil
  | x :: xs => .cons rfl (pd_of_map xs)
def Rp.pair {α β : Type} (A : Rp α) (B : Rp β) : Rp (α × β) := ⟨fun d v F => ∃ a x y, v = .ref a ∧ F a = some (.tup [x, y]) ∧ A.rel d.1 x F ∧ B.rel d.2 y F,
  fun s ⟨a, x, y, e, h, p, q⟩ => ⟨a, x, y, e, s _ _ h, A.mono s p, B.mono s q⟩⟩
def Rp.lst {α : Type} (A : Rp α) : Rp (List α) := ⟨fun d v F => ∃ a xs, v = .ref a ∧ F a = some (.lst xs) ∧ Paired (fun d x => A.rel d x F) d xs,
  fun s ⟨a, xs, e, h, p⟩ => ⟨a, xs, e, s _ _ h, pd_mono (fun _ _ => A.mono s) p⟩⟩
def Rp.tup {α : Type} (A : Rp α) : Rp (List α) := ⟨fun d v F => ∃ a xs, v = .ref a ∧ F a = some (.tup xs) ∧ Paired (fun d x => A.rel d x F) d xs,
  fun s ⟨a, xs, e, h, p⟩ => ⟨a, xs, e, s _ _ h, pd_mono (fun _ _ => A.mono s) p⟩⟩

/-! ### calls by name -/
/-- a def of the module (x its name), of which K holds the text st -/
structure FnF (K : PySem.W.Frag) (mg : Str → Option Value) (x : Str) (st : Stmt) (dvs : List V) : Prop where
  ex : ∃ (f : Addr) (fd : FuncData), mg x = some (.ref f) ∧ FunD K x x (defArgs st) (defBody st) (defScope st) dvs [] f fd
/-- a method m of the class at C -/
structure MtF (K : PySem.W.Frag) (C : Addr) (m qual : Str) (st : Stmt) (dvs : List V) : Prop where
  ex : ∃ (f : Addr) (fd : FuncData), Meth K C m f ∧ FunD K m qual (defArgs st) (defBody st) (defScope st) dvs [] f fd
structure Cal (P : Program) (w : World) (K : PySem.W.Frag) (mg : Str → Option Value) (base : Heap) (k : Nat) (x : Str) (sp : Sp) : Prop where
  ex : ∃ (f : Addr) (fd : FuncData) (ps : List Str), FnOk P w K mg base (L2.CX P w) k f fd ps sp ∧ mg x = some (.ref f) ∧ PySem.W.keepIn K (.ref f) = true ∧ Binds K fd ps []
structure Met (P : Program) (w : World) (K : PySem.W.Frag) (mg : Str → Option Value) (base : Heap) (k : Nat) (C : Addr) (m : Str) (sp : Sp) : Prop where
  cl : Cls K C
  ex : ∃ (f : Addr) (fd : FuncData) (ps : List Str), FnOk P w K mg base (L2.CX P w) k f fd ps sp ∧ Meth K C m f ∧ Binds K fd ps []
structure Mak (P : Program) (w : World) (K : PySem.W.Frag) (mg : Str → Option Value) (base : Heap) (k : Nat) (x : Str) (C : Addr) (sp : Sp) : Prop where
  ex : ∃ (f : Addr) (fd : FuncData) (ps : List Str), FnOk P w K mg base (L2.CX P w) k f fd ps sp ∧ Mk K C f ∧ mg x = some (.ref C) ∧ Binds K fd ps []
section
variable {P : Program} {w : World} {K : PySem.W.Frag} {mg : Str → Option Value} {base : Heap}
/-- how the arguments of a def bind, every one given -/
def BindsAll (x qual : Str) (st : Stmt) (ps : List Str) : Prop := ∀ (dV kV doc pm : Value) (an : Option Addr) (cdv ct : Value) (us : List Value), us.length = ps.length → (dV = .none ∨ ∃ T, dV = .ref T) →
  bindArgs (PySem.W.fnOf x qual (defArgs st) (defBody st) (defScope st) dV kV doc pm an cdv ct) ⟨us, []⟩ = pure (ps.zip us)
/-- .. of a def without defaults -/
def BindsNo (x qual : Str) (st : Stmt) (ps : List Str) : Prop := ∀ (kV doc pm : Value) (an : Option Addr) (cdv ct : Value) (us : List Value), us.length = ps.length →
  bindArgs (PySem.W.fnOf x qual (defArgs st) (defBody st) (defScope st) .none kV doc pm an cdv ct) ⟨us, []⟩ = pure (ps.zip us)
abbrev BodyOk (P : Program) (w : World) (K : PySem.W.Frag) (mg : Str → Option Value) (base : Heap) (N : List Str) (qual : Str) (st : Stmt) (k : Nat) (sp : Sp) : Prop :=
  ∀ (f : Addr) (cdv : Value) (A : Around) (outer : List Env) (s : Shared) (H : Hp) (vs : List V) (Q : VK) (E : XK), Room k (A.deeper (envOfC qual (defScope st) s.heap.objs.size f cdv)) → sp vs H Q E →
      ∃ t, PSs (cxOf (L2.CX P w) P w K mg base N qual (defScope st) f cdv A outer s H E) (defBody st) t ∧ t { nx := fun _ H' => Q .non H', rt := Q } (start N vs) H
theorem FnF.cal {x : Str} {st : Stmt} {N ps : List Str} {k : Nat} {sp : Sp} (F : FnF K mg x st []) (S : FnScope N ps (defScope st)) (b : BindsNo x x st ps) (len : ∀ vs H Q E, sp vs H Q E → vs.length = ps.length)
    (body : BodyOk P w K mg base N x st k sp) : Cal P w K mg base (k + 1) x sp := by
  obtain ⟨f, fd, hm, F⟩ := F.ex
  exact ⟨f, fd, ps, F.ok S len (body f), hm, F.kp, F.bindsN b⟩
theorem MtF.met {C : Addr} {m qual : Str} {st : Stmt} {N ps : List Str} {k : Nat} {sp : Sp} (F : MtF K C m qual st []) (cl : Cls K C) (S : FnScope N ps (defScope st)) (b : BindsNo m qual st ps) (len : ∀ vs H Q E, sp vs H Q E → vs.length = ps.length)
    (body : BodyOk P w K mg base N qual st k sp) : Met P w K mg base (k + 1) C m sp := by
  obtain ⟨f, fd, hm, F⟩ := F.ex
  exact ⟨cl, f, fd, ps, F.ok S len (body f), hm, F.bindsN b⟩
end
section
variable {X : Cx} {k j : Nat} {x m : Str} {C : Addr} {sp : Sp} {e o : Expr} {es : List Expr} {ta : TE} {t : TA} {p pos apos : Pos} {E : XK}
theorem pe_c (c : Cal X.prog X.w X.K X.mg X.base k x sp) (hr : Room j X.A) (hk : k ≤ j) (ha : PA X (e :: es) t) (hx : Passes (L2.CX X.prog X.w) X E) (hg : Gl X x := by rfl) (hdb : (x == ("__debug__" : Str)) = false := by decide)
    (he : starEach (e :: es) X.env = (false, eval e X.env) :: starEach es X.env := by rfl) (hpl : (backTo pos (starEach es X.env)).any (·.1) = false := by rfl) : PE X (.Call (.Name x p) (e :: es) [] pos) (tCall sp [] E t) := by
  obtain ⟨f, fd, ps, F, hm, kp, b⟩ := c.ex
  exact pe_call F (hr.mono hk) hg hm kp b .nil hx ha hdb he hpl
theorem pe_c0 (c : Cal X.prog X.w X.K X.mg X.base k x sp) (hr : Room j X.A) (hk : k ≤ j) (hx : Passes (L2.CX X.prog X.w) X E) (hg : Gl X x := by rfl) (hdb : (x == ("__debug__" : Str)) = false := by decide) : PE X (.Call (.Name x p) [] [] pos) (tCall sp [] E tNil) := by
  obtain ⟨f, fd, ps, F, hm, kp, b⟩ := c.ex
  exact pe_call0 F (hr.mono hk) hg hm kp b .nil hx hdb
theorem pe_k (c : Mak X.prog X.w X.K X.mg X.base k x C sp) (hr : Room j X.A) (hk : k + 1 ≤ j) (ha : PA X (e :: es) t) (hx : Passes (L2.CX X.prog X.w) X E) (hg : Gl X x := by rfl) (hdb : (x == ("__debug__" : Str)) = false := by decide)
    (he : starEach (e :: es) X.env = (false, eval e X.env) :: starEach es X.env := by rfl) (hpl : (backTo pos (starEach es X.env)).any (·.1) = false := by rfl) : PE X (.Call (.Name x p) (e :: es) [] pos) (tMake C sp [] E t) := by
  obtain ⟨f, fd, ps, F, M, hm, b⟩ := c.ex
  exact pe_make M F (hr.mono hk) hg hm b .nil hx ha hdb he hpl
theorem pe_m {pl : Sem Bool} (c : Met X.prog X.w X.K X.mg X.base k C m sp) (hr : Room j X.A) (hk : k ≤ j) (ho : PE X o ta) (ha : PA X (e :: es) t) (hx : Passes (L2.CX X.prog X.w) X E)
    (hst : starEach (e :: es) X.env = (false, eval e X.env) :: starEach es X.env := by rfl) (hpl : (backTo pos (starEach es X.env)).any (·.1) = false := by rfl)
    (ht : eval (.Call (.Attribute o m apos) (e :: es) [] pos) X.env = (do
      let u ← eval o X.env
      standAt apos.atName
      let (g, us) ← holding [u] (getMethod u m pl)
      callWith pos g us (backTo pos (starEach (e :: es) X.env)) (backToKw pos (keywordEach [] X.env))) := by rfl) : PE X (.Call (.Attribute o m apos) (e :: es) [] pos) (tMeth C m sp [] E ta t) := by
  obtain ⟨f, fd, ps, F, hm, b⟩ := c.ex
  exact pe_meth ho c.cl hm F (hr.mono hk) b .nil hx ha hst hpl ht
theorem pe_m0 {pl : Sem Bool} (c : Met X.prog X.w X.K X.mg X.base k C m sp) (hr : Room j X.A) (hk : k ≤ j) (ho : PE X o ta) (hx : Passes (L2.CX X.prog X.w) X E)
    (ht : eval (.Call (.Attribute o m apos) [] [] pos) X.env = (do
      let u ← eval o X.env
      standAt apos.atName
      let (g, us) ← holding [u] (getMethod u m pl)
      callWith pos g us (backTo pos (starEach [] X.env)) (backToKw pos (keywordEach [] X.env))) := by rfl) : PE X (.Call (.Attribute o m apos) [] [] pos) (tMeth C m sp [] E ta tNil) := by
  obtain ⟨f, fd, ps, F, hm, b⟩ := c.ex
  exact pe_meth0 ho c.cl hm F (hr.mono hk) b .nil hx ht
/-- x in o, x not in o: o's class says __contains__ -/
def rInO (C : Addr) (sp : Sp) (E : XK) (neg : Bool) : R2 := fun x y H Q => ∃ a dx fs, y = .ref a ∧ H a = some (.ins C dx fs) ∧ sp [y, x] H (fun v H' => ∃ b, v = .bl b ∧ Q (.bl (if neg then !b else b)) H') E
theorem op_inO (c : Met X.prog X.w X.K X.mg X.base k C "__contains__" sp) (hr : Room j X.A) (hk : k ≤ j) (hx : Passes (L2.CX X.prog X.w) X E) : OpR X (compareOp .In) (rInO C sp E false) := by
  obtain ⟨f, fd, ps, F, hm, b⟩ := c.ex
  intro pins s σ H x y u v Q I rx ry h
  obtain ⟨a, dx, fs, rfl, ha, q⟩ := h
  cases ry
  obtain ⟨mA, J, _⟩ := ins_get I.hok ha
  obtain ⟨od, J, _⟩ := J.look
  obtain ⟨m, hF⟩ := I.fr
  refine PySem.W.in_K hF I.ok.mod.kin J hm.at_ hm.fn ?_
  refine thn (run_fn (us := [.ref a, u]) (vs := [.ref a, x]) F (hr.mono hk) b .nil hx I (.cons rfl (.cons rx .nil)) q) fun r s' hq => ?_
  obtain ⟨z, H', I', rz, bb, rfl, q'⟩ := hq
  cases rz
  exact wpAny_truthy_bool ⟨.bl bb, H', I', rfl, q'⟩
theorem op_niO (c : Met X.prog X.w X.K X.mg X.base k C "__contains__" sp) (hr : Room j X.A) (hk : k ≤ j) (hx : Passes (L2.CX X.prog X.w) X E) : OpR X (compareOp .NotIn) (rInO C sp E true) := by
  obtain ⟨f, fd, ps, F, hm, b⟩ := c.ex
  intro pins s σ H x y u v Q I rx ry h
  obtain ⟨a, dx, fs, rfl, ha, q⟩ := h
  cases ry
  obtain ⟨mA, J, _⟩ := ins_get I.hok ha
  obtain ⟨od, J, _⟩ := J.look
  obtain ⟨m, hF⟩ := I.fr
  refine PySem.W.notIn_K hF I.ok.mod.kin J hm.at_ hm.fn ?_
  refine thn (run_fn (us := [.ref a, u]) (vs := [.ref a, x]) F (hr.mono hk) b .nil hx I (.cons rfl (.cons rx .nil)) q) fun r s' hq => ?_
  obtain ⟨z, H', I', rz, bb, rfl, q'⟩ := hq
  cases rz
  exact wpAny_truthy_bool ⟨.bl (!bb), H', I', rfl, q'⟩
/-- a test by an own __bool__ -/
def tTrO (C : Addr) (sp : Sp) (E : XK) (te : TE) : TT := fun σ H Q => te σ H fun x H' => ∃ a dx fs, x = .ref a ∧ H' a = some (.ins C dx fs) ∧ sp [x] H' (fun v H2 => ∃ b, v = .bl b ∧ Q b H2) E
theorem pt_trO {te : TE} (c : Met X.prog X.w X.K X.mg X.base k C "__bool__" sp) (hr : Room j X.A) (hk : k ≤ j) (ha : PE X e te) (hx : Passes (L2.CX X.prog X.w) X E)
    (he : ∀ whole, isTrue e X.env whole = (do let v ← whole; standAt e.pos; holding [v] (truthy v)) := by intro _; rfl) : PT X e (tTrO C sp E te) := by
  obtain ⟨f, fd, ps, F, hm, b⟩ := c.ex
  refine ⟨fun pins s σ H Q I h => ?_⟩
  rw [he]
  refine wpAny_bind (thn (ha.run pins s σ H _ I h) fun u s1 hu => wpAny_bind (wpAny_standAt (wpAny_holding ?_)))
  obtain ⟨x, H1, I1, rx, a, dx, fs, rfl, ea, q⟩ := hu
  cases rx
  obtain ⟨mA, J, _⟩ := ins_get I1.hok ea
  obtain ⟨od, J, _⟩ := J.look
  obtain ⟨m, hF⟩ := I1.fr
  refine PySem.W.truthy_K hF I1.ok.mod.kin J hm.at_ hm.fn ?_
  refine thn (run_fn (us := [.ref a]) (vs := [.ref a]) F (hr.mono hk) b .nil hx I1 (.cons rfl .nil) q) fun r s' hq => ?_
  obtain ⟨z, H', I', rz, bb, rfl, q'⟩ := hq
  cases rz
  first
    | exact ⟨bb, rfl, H', I', q'⟩
    | exact ⟨H', I', q'⟩
end

/-! ### the rules with the written part named -/
section
variable {X : Cx} {k : Nat} {K : PySem.W.Frag} {w : World} {P : Program}
theorem pe_gs {x : Str} {z : Str} {pos : Pos} (h : ∃ t, X.mg x = some (.str z t)) (hg : Gl X x := by rfl) (hdb : (x == ("__debug__" : Str)) = false := by decide) : PE X (.Name x pos) (tC (.str z)) := by
  obtain ⟨t, h⟩ := h
  exact pe_glob hg h ⟨t, rfl⟩ hdb
theorem pe_gi {x : Str} {z : Int} {pos : Pos} (h : ∃ t, X.mg x = some (.int z t)) (hg : Gl X x := by rfl) (hdb : (x == ("__debug__" : Str)) = false := by decide) : PE X (.Name x pos) (tC (.int z)) := by
  obtain ⟨t, h⟩ := h
  exact pe_glob hg h ⟨t, rfl⟩ hdb
theorem pe_gr {x : Str} {a : Addr} {pos : Pos} (h : X.mg x = some (.ref a)) (hg : Gl X x := by rfl) (hdb : (x == ("__debug__" : Str)) = false := by decide) : PE X (.Name x pos) (tC (.ref a)) := pe_glob hg h rfl hdb
theorem pe_ty {x : Str} {n : String} {pos : Pos} (h : X.mg x = none) (hv : bootBuiltins x = some (.type n) := by decide +kernel) (hg : Gl X x := by rfl) (hn : x ≠ "__name__" := by decide) (hdb : (x == ("__debug__" : Str)) = false := by decide) : PE X (.Name x pos) (tC (.ty n)) :=
  pe_bltn hg h hv rfl hn hdb
abbrev rAddU : R2 := fun x y H Q => (∃ i j, x = .int i ∧ y = .int j ∧ Q (.int (i + j)) H) ∨ (∃ i j, x = .str i ∧ y = .str j ∧ i.length + j.length ≤ sizeLine ∧ Q (.str (i ++ j)) H) ∨ rCat x y H Q
theorem op_addU : OpR X (binaryOp .Add) rAddU := OpR.or op_add (OpR.or op_add_str op_cat)
abbrev rMulU : R2 := fun x y H Q => rI CMul (fun i j => .int (i * j)) x y H Q ∨ rI CMulW (fun i j => .int (i * j)) x y H Q
theorem op_mulU : OpR X (binaryOp .Mult) rMulU := OpR.or op_mul op_mulW
abbrev rFdivU : R2 := fun x y H Q => rI CDiv (fun i j => .int (i / j)) x y H Q ∨ rI CDivW (fun i j => .int (i / j)) x y H Q
theorem op_fdivU : OpR X (binaryOp .FloorDiv) rFdivU := OpR.or op_fdiv op_fdivW
abbrev rEqU (K : PySem.W.Frag) : R2 := fun x y H Q => rEq x y H Q ∨ rEqD K x y H Q
abbrev rNeU (K : PySem.W.Frag) : R2 := fun x y H Q => rNe x y H Q ∨ rNeD K x y H Q
theorem op_eqU (hr : Room k X.A) (hK : X.K = K := by rfl) : OpR X (compareOp .Eq) (rEqU K) := by subst hK; exact OpR.or op_eq (op_eqD hr.units)
theorem op_neU (hr : Room k X.A) (hK : X.K = K := by rfl) : OpR X (compareOp .NotEq) (rNeU K) := by subst hK; exact OpR.or op_ne (op_neD hr.units)
abbrev rSign (neg : Bool) : R2 := fun x y H Q => ∃ (c : Nat) (z : Str), x = .str ⟨#[c]⟩ ∧ y = .str z ∧ Q (.bl (if neg then !decide (c ∈ z.cps.toList) else decide (c ∈ z.cps.toList))) H
theorem op_inU (hK : X.K = K := by rfl) : OpR X (compareOp .In) (fun x y H Q => rSign false x y H Q ∨ rIn K false x y H Q) := by subst hK; exact OpR.or op_in_sign op_in_seq
theorem op_niU (hK : X.K = K := by rfl) : OpR X (compareOp .NotIn) (fun x y H Q => rSign true x y H Q ∨ rIn K true x y H Q) := by subst hK; exact OpR.or op_notIn_sign op_notIn_seq
def rLenU (K : PySem.W.Frag) : List V → Hp → VK → Prop := fun xs H Q => (∃ p ys, xs = [.ref p] ∧ (SqL K H p ys ∨ SqT K H p ys) ∧ Q (.int ys.length) H) ∨ (∃ z, xs = [.str z] ∧ z.length ≤ sizeLine ∧ Q (.int z.length) H) ∨ ∃ a kvs, xs = [V.ref a] ∧ H a = some (.dK kvs) ∧ Q (.int kvs.length) H
theorem call_lenU (hK : X.K = K := by rfl) : CallR X (.builtin "len") (rLenU K) := by subst hK; exact CallR.or call_len_seq (CallR.or call_len_str call_lenD)
theorem k_any (hc : X.calm = true := by rfl) (hK : X.K = K := by rfl) : CallR X (.builtin "any") (rAny K) := by subst hK; exact cr_any hc
theorem k_all (hc : X.calm = true := by rfl) (hK : X.K = K := by rfl) : CallR X (.builtin "all") (rAll K) := by subst hK; exact cr_all hc
theorem k_sum (hc : X.calm = true := by rfl) (hK : X.K = K := by rfl) : CallR X (.builtin "sum") (rSum K) := by subst hK; exact cr_sum hc
theorem k_isi (hK : X.K = K := by rfl) : CallR X (.builtin "isinstance") (rIsi K) := by subst hK; exact call_isi
theorem k_isiT (hK : X.K = K := by rfl) : CallR X (.builtin "isinstance") (rIsiT K) := by subst hK; exact call_isiT
theorem k_ix (hK : X.K = K := by rfl) : IxR X (rIx K) := by subst hK; exact ix_seq
def rTupOf (K : PySem.W.Frag) : List V → Hp → VK → Prop := fun xs H Q => ∃ p ys, xs = [.ref p] ∧ ((SqL K H p ys ∧ ∀ l, H l = none → Q (.ref l) (upd H l (.tup ys))) ∨ (SqT K H p ys ∧ Q (.ref p) H))
theorem k_tuple (hK : X.K = K := by rfl) : CallR X (.type "tuple") (rTupOf K) := by subst hK; exact call_tuple_of
def rLstOf (K : PySem.W.Frag) : List V → Hp → VK → Prop := fun xs H Q => ∃ p ys, xs = [.ref p] ∧ (SqL K H p ys ∨ SqT K H p ys) ∧ ∀ l, H l = none → Q (.ref l) (upd H l (.lst ys))
theorem k_list (hK : X.K = K := by rfl) : CallR X (.type "list") (rLstOf K) := by subst hK; exact call_list_of
theorem k_sl_list (hK : X.K = K := by rfl) : SlR X (rSlL K) := by subst hK; exact sl_list
theorem k_sl_tup (hK : X.K = K := by rfl) : SlR X (rSlT K) := by subst hK; exact sl_tup
theorem k_fld {e : Expr} {f : Str} {te : TE} {pos : Pos} (he : PE X e te) (hb : attributeBase e f X.env (eval e X.env) = eval e X.env := by rfl) (hK : X.K = K := by rfl) : PE X (.Attribute e f pos) (tFld K te f) := by subst hK; exact pe_fld he hb
theorem k_tup {es : List Expr} {t : TGs} {n kk : Nat} {pos : Pos} (hc : X.calm = true) (h : PGs X es t) (hn : (assignEach es X.env).length = n := by rfl) (hst : (assignEach es X.env).findIdx? (·.1) = none := by rfl) (hK : X.K = K := by rfl) : PG X (.Tuple es kk pos) (gTup K n t) := by subst hK; exact pg_tup hc h hn hst
theorem k_unl {es : List Expr} {t : TGs} {n kk : Nat} {pos : Pos} (hc : X.calm = true) (h : PGs X es t) (hn : (assignEach es X.env).length = n := by rfl) (hst : (assignEach es X.env).findIdx? (·.1) = none := by rfl) (hK : X.K = K := by rfl) : PG X (.Tuple es kk pos) (gUnl K n t) := by subst hK; exact pg_unl hc h hn hst
theorem k_il {tg l : Expr} {tl : TE} (hl : PE X l tl) (hK : X.K = K := by rfl) : PI X tg l (iList K tl) := by subst hK; exact pi_list hl
theorem k_it {tg l : Expr} {tl : TE} (hl : PE X l tl) (hK : X.K = K := by rfl) : PI X tg l (iTup K tl) := by subst hK; exact pi_tup hl
end

/-! ### constants of a class, constructors -/
/-- the class at C has the constant v under f -/
def CcF (K : PySem.W.Frag) (C : Addr) (f : Str) (v : V) : Prop := ∃ mc u, ClX.CRead K C mc ∧ ClX.CVal K C mc f v u
theorem PE.weak {X : Cx} {e : Expr} {t t' : TE} (h : PE X e t) (f : ∀ σ H Q, t' σ H Q → t σ H Q) : PE X e t' := ⟨fun pins s σ H Q I q => h.run pins s σ H Q I (f σ H Q q)⟩
theorem pe_cc {X : Cx} {K : PySem.W.Frag} {x f : Str} {C : Addr} {n : V} {p pos : Pos} (g : X.mg x = some (.ref C)) (h : CcF K C f n) (hg : Gl X x := by rfl) (hdb : (x == ("__debug__" : Str)) = false := by decide)
    (hb : attributeBase (.Name x p) f X.env (eval (.Name x p) X.env) = eval (.Name x p) X.env := by rfl) (hK : X.K = K := by rfl) : PE X (.Attribute (.Name x p) f pos) (tC n) := by
  subst hK
  obtain ⟨mc, u, r, k⟩ := h
  exact PE.weak (ClX.pe_cval (pe_gr g hg hdb) hb) fun σ H Q q => ⟨C, mc, n, u, rfl, r, k, q⟩
/-- the class x at C, its __init__ of the text st -/
structure MkF (K : PySem.W.Frag) (mg : Str → Option Value) (x : Str) (C : Addr) (qual : Str) (st : Stmt) (dvs : List V) : Prop where
  mg : mg x = some (.ref C)
  ex : ∃ (f : Addr) (fd : FuncData), Mk K C f ∧ FunD K "__init__" qual (defArgs st) (defBody st) (defScope st) dvs [] f fd
theorem MkF.mak {P : Program} {w : World} {K : PySem.W.Frag} {mg : Str → Option Value} {base : Heap} {x qual : Str} {C : Addr} {st : Stmt} {N ps : List Str} {k : Nat} {sp : Sp} (F : MkF K mg x C qual st []) (S : FnScope N ps (defScope st)) (b : BindsNo "__init__" qual st ps)
    (len : ∀ vs H Q E, sp vs H Q E → vs.length = ps.length) (body : BodyOk P w K mg base N qual st k sp) : Mak P w K mg base (k + 1) x C sp := by
  obtain ⟨f, fd, hm, D⟩ := F.ex
  exact ⟨f, fd, ps, D.ok S len (body f), hm, F.mg, D.bindsN b⟩
/-- .. with defaults, all arguments given -/
theorem MkF.makD {P : Program} {w : World} {K : PySem.W.Frag} {mg : Str → Option Value} {base : Heap} {x qual : Str} {C : Addr} {st : Stmt} {N ps : List Str} {k : Nat} {sp : Sp} {dvs : List V} (F : MkF K mg x C qual st dvs) (S : FnScope N ps (defScope st)) (hd : dvs ≠ [])
    (b : ∀ (T : Addr) (kV doc pm : Value) (an : Option Addr) (cdv ct : Value) (us its : List Value), us.length = ps.length → its.length = dvs.length →
      ∃ k, bindArgs (PySem.W.fnOf "__init__" qual (defArgs st) (defBody st) (defScope st) (.ref T) kV doc pm an cdv ct) ⟨us, []⟩ = seqItems? (.ref T) >>= k ∧ k (some its.toArray) = pure (ps.zip (us ++ its.drop dvs.length)))
    (len : ∀ vs H Q E, sp vs H Q E → vs.length = ps.length) (body : BodyOk P w K mg base N qual st k sp) : Mak P w K mg base (k + 1) x C sp := by
  obtain ⟨f, fd, hm, D⟩ := F.ex
  obtain ⟨ds, r, hb⟩ := D.binds1 (ps := ps) ps.length dvs.length hd (by simp) b
  rw [List.drop_length] at r
  cases r
  exact ⟨f, fd, ps, D.ok S len (body f), hm, F.mg, hb⟩
/-- the heap in which __init__ begins: x new with its own dict dx -/
structure New (C : Addr) (F H0 H : Hp) (x dx : Addr) : Prop where
  sub : Same F H0
  nx : H0 x = none
  nd : H0 dx = none
  ne : dx ≠ x
  eq : H = upd (upd H0 dx (.own x)) x (.ins C dx [])

/-! ### what a pure step leaves -/
/-- from (F, H) to (F', H'): nothing that was is changed, what stands still has grown by new things alone -/
structure Pu (F H F' H' : Hp) : Prop where
  same : Same H H'
  grow : Grow F H F' H'
theorem Pu.refl {F H : Hp} (s : Same F H) : Pu F H F H := ⟨Same.refl H, Grow.refl s⟩
theorem Pu.trans {F H F1 H1 F2 H2 : Hp} (a : Pu F H F1 H1) (b : Pu F1 H1 F2 H2) : Pu F H F2 H2 := ⟨a.same.trans b.same, a.grow.trans a.same b.grow⟩
theorem Pu.add {F H F1 H1 : Hp} {p : Addr} {o : HO} (a : Pu F H F1 H1) (n : H1 p = none) : Pu F H (upd F1 p o) (upd H1 p o) := a.trans ⟨Same.new n, Grow.add a.grow.sub n⟩
theorem Pu.tmp {F H F1 H1 : Hp} {p : Addr} {o : HO} (a : Pu F H F1 H1) (n : H1 p = none) : Pu F H F1 (upd H1 p o) := a.trans ⟨Same.new n, Grow.tmp a.grow.sub (Same.new n)⟩
theorem Pu.sub {F H F1 H1 : Hp} (a : Pu F H F1 H1) : Same F1 H1 := a.grow.sub
theorem Pu.ff {F H F1 H1 : Hp} (a : Pu F H F1 H1) : Same F F1 := a.grow.ff
/-- a local list (or dict) at l, new since H, changes -/
theorem Pu.mut {F H F1 H1 : Hp} {l : Addr} {o : HO} (a : Pu F H F1 H1) (n : H l = none) (m : F1 l = none) : Pu F H F1 (upd H1 l o) :=
  ⟨fun b u e => by rw [upd_ne (ne_of_none e n)]; exact a.same b u e, a.grow.ff, fun b u e => by rw [upd_ne (ne_of_none e m)]; exact a.grow.sub b u e, a.grow.fresh⟩
/-- .. and stands still from here on -/
theorem Pu.fix {F H F1 H1 : Hp} {l : Addr} {o : HO} (a : Pu F H F1 H1) (n : H l = none) (m : F1 l = none) (e : H1 l = some o) : Pu F H (upd F1 l o) H1 := ⟨a.same, a.grow.fix n m e⟩
theorem Pu.none {F H F1 H1 : Hp} {p : Addr} (a : Pu F H F1 H1) (m : F p = none) (n : H p ≠ none) : F1 p = none := a.grow.none m n
theorem ne_none {H : Hp} {p : Addr} {o : HO} (h : H p = some o) : H p ≠ none := fun e => by rw [h] at e; cases e

theorem New.pu {C : Addr} {F H0 H : Hp} {x dx : Addr} (n : New C F H0 H x dx) : Pu F H0 F H := by
  rw [n.eq]
  exact ((Pu.refl n.sub).tmp n.nd).tmp (by rw [upd_ne n.ne.symm]; exact n.nx)
theorem New.at {C : Addr} {F H0 H : Hp} {x dx : Addr} (n : New C F H0 H x dx) : H x = some (.ins C dx []) := by rw [n.eq, upd_same]
theorem New.fx {C : Addr} {F H0 H : Hp} {x dx : Addr} (n : New C F H0 H x dx) : F x = none := n.sub.free n.nx

/-! ### a comprehension -/
section
variable {J : It} {n : Nat} {G : Hp → Prop} {Y : Nat → Hp → V → Hp → Prop} {β : Type}
theorem go_lcI (w : Walk J n G Y) {g : TG} {tt : TT} {te : TE} {vs : List Nat} {σ : L2.St} {H1 : Hp} {D : Addr} {Qd : Hp → Prop} (A : Rp β) (acc : Nat → List β) (Iv : Nat → Hp → Hp → Prop) (hn : n ≤ 100000)
    (h0 : acc 0 = []) (i0 : ∃ F, Iv 0 F (upd H1 D (.lst [])) ∧ F D = none) (hG : ∀ i F H, i ≤ n → Iv i F H → G H)
    (hD : ∀ i F H l l', Iv i F H → F D = none → H D = some (.lst l) → Iv i F (upd H D (.lst l')))
    (hs : ∀ i x F H l H' (N : Hp → Prop), i < n → Iv i F H → F D = none → H D = some (.lst l) → Y i H x H' →
      (∀ y H4 F4 d, Iv (i + 1) F4 H4 → Same F F4 → F4 D = none → H4 D = some (.lst l) → A.rel d y F4 → acc (i + 1) = acc i ++ [d] → ∃ acc, H4 D = some (.lst acc) ∧ acc.length < sizeLine ∧ N (upd H4 D (.lst (acc ++ [y])))) →
      (∀ H3 F3, Iv (i + 1) F3 H3 → Same F F3 → F3 D = none → H3 D = some (.lst l) → acc (i + 1) = acc i → N H3) →
      g x (wipe σ vs) H' fun σ2 H2 => wipe σ2 vs = wipe σ vs ∧ tt σ2 H2 fun b H3 =>
      if b = true then te σ2 H3 fun y H4 => ∃ acc, H4 D = some (.lst acc) ∧ acc.length < sizeLine ∧ N (upd H4 D (.lst (acc ++ [y]))) else N H3)
    (hd : ∀ F H ys, Iv n F H → F D = none → H D = some (.lst ys) → Paired (fun d x => A.rel d x F) (acc n) ys → Qd H) :
    ∃ W : Nat → Nat → Hp → Prop, (∃ m, W 0 m (upd H1 D (.lst []))) ∧ ∀ i m H, W i m H →
      (J.stop i H ∧ Qd H) ∨ (J.go i H ∧ ∃ Nx : Hp → Prop, (∀ H', Nx H' → ∃ m', m' < m ∧ W (i + 1) m' H') ∧ ∀ x H', J.yld i H x H' → g x (wipe σ vs) H' fun σ2 H2 => wipe σ2 vs = wipe σ vs ∧ tt σ2 H2 fun b H3 =>
        if b = true then te σ2 H3 fun y H4 => ∃ acc, H4 D = some (.lst acc) ∧ acc.length < sizeLine ∧ Nx (upd H4 D (.lst (acc ++ [y]))) else Nx H3) := by
  have line : ∀ i, i ≤ 100000 → i < sizeLine := fun i h => Nat.lt_of_le_of_lt h (by rw [sizeLine_eq]; decide)
  refine lc_it w (fun i H => ∃ F ys, Iv i F H ∧ F D = none ∧ H D = some (.lst ys) ∧ ys.length ≤ i ∧ Paired (fun d x => A.rel d x F) (acc i) ys) ?_ (fun i H hi ⟨F, ys, p, _⟩ => hG i F H hi p) (fun i x H H' hi ⟨F, ys, p, fD, hH, hl, pd⟩ y => ?_) (fun H ⟨F, ys, p, fD, hH, hl, pd⟩ => hd F H ys p fD hH pd)
  · obtain ⟨F, i0, f0⟩ := i0
    exact ⟨F, [], i0, f0, upd_same, Nat.le_refl 0, by rw [h0]; exact .nil⟩
  · refine hs i x F H ys H' _ hi p fD hH y (fun y H4 F4 d iv s4 f4 h4 r4 e4 => ?_) (fun H3 F3 iv s3 f3 h3 e3 => ?_)
    · refine ⟨ys, h4, line _ (by omega), F4, ys ++ [y], hD _ _ _ _ _ iv f4 h4, f4, upd_same, by simp; omega, ?_⟩
      rw [e4]
      exact pd_snoc (pd_mono (fun _ _ => A.mono s4) pd) r4
    · exact ⟨F3, ys, iv, f3, h3, by omega, by rw [e3]; exact pd_mono (fun _ _ => A.mono s3) pd⟩
/-- .. whose tests and elements only make new things -/
theorem go_lc (w : Walk J n G Y) {g : TG} {tt : TT} {te : TE} {vs : List Nat} {σ : L2.St} {F1 H1 : Hp} {D : Addr} {Qd : Hp → Prop} (A : Rp β) (acc : Nat → List β) (hn : n ≤ 100000)
    (sF : Same F1 H1) (nD : H1 D = none) (h0 : acc 0 = []) (hG : ∀ F H, Pu F1 H1 F H → G H)
    (hs : ∀ i x F H l H' (N : Hp → Prop), i < n → Pu F1 H1 F H → F D = none → H D = some (.lst l) → Y i H x H' →
      (∀ y H4 F4 d, Pu F H F4 H4 → A.rel d y F4 → acc (i + 1) = acc i ++ [d] → ∃ acc, H4 D = some (.lst acc) ∧ acc.length < sizeLine ∧ N (upd H4 D (.lst (acc ++ [y])))) →
      (∀ H3 F3, Pu F H F3 H3 → acc (i + 1) = acc i → N H3) →
      g x (wipe σ vs) H' fun σ2 H2 => wipe σ2 vs = wipe σ vs ∧ tt σ2 H2 fun b H3 =>
      if b = true then te σ2 H3 fun y H4 => ∃ acc, H4 D = some (.lst acc) ∧ acc.length < sizeLine ∧ N (upd H4 D (.lst (acc ++ [y]))) else N H3)
    (hd : ∀ F H ys, Pu F1 H1 F H → F D = none → H D = some (.lst ys) → Paired (fun d x => A.rel d x F) (acc n) ys → Qd H) :
    ∃ W : Nat → Nat → Hp → Prop, (∃ m, W 0 m (upd H1 D (.lst []))) ∧ ∀ i m H, W i m H →
      (J.stop i H ∧ Qd H) ∨ (J.go i H ∧ ∃ Nx : Hp → Prop, (∀ H', Nx H' → ∃ m', m' < m ∧ W (i + 1) m' H') ∧ ∀ x H', J.yld i H x H' → g x (wipe σ vs) H' fun σ2 H2 => wipe σ2 vs = wipe σ vs ∧ tt σ2 H2 fun b H3 =>
        if b = true then te σ2 H3 fun y H4 => ∃ acc, H4 D = some (.lst acc) ∧ acc.length < sizeLine ∧ Nx (upd H4 D (.lst (acc ++ [y]))) else Nx H3) := by
  refine go_lcI w A acc (fun _ F H => Pu F1 H1 F H) hn h0 ⟨F1, (Pu.refl sF).tmp nD, sF.free nD⟩ (fun i F H _ p => hG F H p) (fun i F H l l' p fD _ => p.mut nD fD)
    (fun i x F H l H' N hi p fD hH y kt kf => ?_) hd
  refine hs i x F H l H' N hi p fD hH y (fun y H4 F4 d q r e => kt y H4 F4 d (p.trans q) q.ff (q.none fD (ne_none hH)) (q.same _ _ hH) r e) (fun H3 F3 q e => kf H3 F3 (p.trans q) q.ff (q.none fD (ne_none hH)) (q.same _ _ hH) e)
end
theorem sz {n : Nat} (h : n ≤ 100000) : n ≤ sizeLine := Nat.le_trans h (by rw [sizeLine_eq]; decide)
theorem szl {n : Nat} (h : n ≤ 100000) : n < sizeLine := Nat.lt_of_le_of_lt h (by rw [sizeLine_eq]; decide)
theorem pair_at {α β : Type} {A : Rp α} {B : Rp β} {F : Hp} {ds : List (α × β)} {vs : List V} {i : Nat} {x : V} (h : Paired (fun d x => (Rp.pair A B).rel d x F) ds vs) (e : vs[i]? = some x) :
    ∃ d a y z, ds[i]? = some d ∧ x = .ref a ∧ F a = some (.tup [y, z]) ∧ A.rel d.1 y F ∧ B.rel d.2 z F := by
  obtain ⟨d, h1, a, y, z, h2⟩ := pd_get h e
  exact ⟨d, a, y, z, h1, h2⟩
theorem take_snoc {α : Type} {l : List α} {i : Nat} {d : α} (h : l[i]? = some d) : l.take (i + 1) = l.take i ++ [d] := by
  rw [List.take_add_one, h]; rfl
theorem take_all {α : Type} (l : List α) : l.take l.length = l := List.take_of_length_le (Nat.le_refl _)
/-! ### things of one's own, not yet standing still -/
theorem putF_len (f : Str) (x : V) : ∀ fs : List (Str × V), (putF f x fs).length ≤ fs.length + 1
  | [] => Nat.le_refl 1
  | (g, y) :: r => by
    unfold putF
    split
    · simp
    · have := putF_len f x r
      simp; omega
theorem putF_lt {f : Str} {x : V} {fs : List (Str × V)} {n : Nat} (h : fs.length = n) (hn : n < 900 := by decide) : fs.length < 1000 := by omega
theorem putF_new {f : Str} {x : V} : ∀ {fs : List (Str × V)} (ks : List Str), ks.contains f = false → fs.map (·.1) = ks → putF f x fs = fs ++ [(f, x)]
  | [], _, _, _ => rfl
  | (g, y) :: r, ks, h, e => by
    subst e
    have h' : ¬ (f = g) ∧ ¬ f ∈ r.map (·.1) := by
      constructor
      · intro e; subst e; simp at h
      · intro e; simp at h; obtain ⟨z, hz⟩ : ∃ z, (f, z) ∈ r := by simpa using e
        exact h.2 z hz
    have := putF_new (f := f) (x := x) (fs := r) _ (by simpa using h'.2) rfl
    unfold putF
    rw [if_neg (fun e => h'.1 (by first | exact e | exact e.symm)), this]
    rfl
structure Own (F0 H0 F H : Hp) (ls : List (Addr × HO)) : Prop where
  pu : Pu F0 H0 F H
  al : ∀ (i : Nat) (p : Addr) (o : HO), ls[i]? = some (p, o) → H0 p = none ∧ F p = none ∧ H p = some o
  nd : (ls.map (·.1)).Nodup
section
variable {F0 H0 F H F' H' : Hp} {ls : List (Addr × HO)} {p : Addr} {o o' : HO}
theorem Own.nil (a : Pu F0 H0 F H) : Own F0 H0 F H [] := ⟨a, fun _ _ _ h => by simp at h, List.nodup_nil⟩
theorem Own.at (w : Own F0 H0 F H ls) (i : Nat) (e : ls[i]? = some (p, o) := by rfl) : H p = some o := (w.al i p o e).2.2
theorem Own.drop {F0 H0 F H : Hp} {ls : List (Addr × HO)} {e : Addr × HO} (w : Own F0 H0 F H (e :: ls)) : Own F0 H0 F H ls := ⟨w.pu, fun i q u h => w.al (i + 1) q u (by simpa using h), (List.nodup_cons.mp w.nd).2⟩
theorem Own.nf (w : Own F0 H0 F H ls) (i : Nat) (e : ls[i]? = some (p, o) := by rfl) : F p = none := (w.al i p o e).2.1
theorem Own.sub (w : Own F0 H0 F H ls) : Same F H := w.pu.sub
theorem Own.ff (w : Own F0 H0 F H ls) : Same F0 F := w.pu.ff
theorem Own.step (w : Own F0 H0 F H ls) (q : Pu F H F' H') : Own F0 H0 F' H' ls :=
  ⟨w.pu.trans q, fun i p o e => ⟨(w.al i p o e).1, q.none (w.al i p o e).2.1 (ne_none (w.al i p o e).2.2), q.same _ _ (w.al i p o e).2.2⟩, w.nd⟩
theorem Own.tmp (w : Own F0 H0 F H ls) (s : Same H H') : Own F0 H0 F H' ls := w.step ⟨s, Grow.tmp w.sub s⟩
theorem Own.fresh (w : Own F0 H0 F H ls) (n : H p = none) : p ∉ ls.map (·.1) := fun h => by
  obtain ⟨e, he, rfl⟩ := List.mem_map.mp h
  obtain ⟨i, hi⟩ := List.getElem?_of_mem he
  rw [(w.al i _ _ hi).2.2] at n
  cases n
theorem Own.lc (w : Own F0 H0 F H ls) (n : H p = none) (q : Pu F H F' H') (f : F' p = none) (h : H' p = some o) : Own F0 H0 F' H' ((p, o) :: ls) := by
  refine ⟨(w.step q).pu, fun i b u e => ?_, List.nodup_cons.mpr ⟨w.fresh n, w.nd⟩⟩
  cases i with
  | zero => simp at e; obtain ⟨rfl, rfl⟩ := e; exact ⟨w.pu.same.free n, f, h⟩
  | succ i => exact (w.step q).al i b u (by simpa using e)
theorem Own.new (w : Own F0 H0 F H ls) (n : H p = none) : Own F0 H0 F (upd H p o) ((p, o) :: ls) :=
  w.lc n ((Pu.refl w.sub).tmp n) (w.sub.free n) upd_same
theorem Own.add (w : Own F0 H0 F H ls) (n : H p = none) : Own F0 H0 (upd F p o) (upd H p o) ls := w.step ((Pu.refl w.sub).add n)
theorem Own.ne (w : Own F0 H0 F H ls) {i j : Nat} {q : Addr} {u : HO} (e : ls[i]? = some (p, o)) (f : ls[j]? = some (q, u)) (n : i ≠ j) : p ≠ q := fun h => by
  subst h
  have h1 : (ls.map (·.1))[i]? = some p := by rw [List.getElem?_map, e]; rfl
  have h2 : (ls.map (·.1))[j]? = some p := by rw [List.getElem?_map, f]; rfl
  exact n ((List.getElem?_inj (List.getElem?_eq_some_iff.mp h1).1 w.nd).mp (h1.trans h2.symm))
theorem Own.mut (w : Own F0 H0 F H ls) (i : Nat) (e : ls[i]? = some (p, o) := by rfl) : Own F0 H0 F (upd H p o') (ls.set i (p, o')) := by
  obtain ⟨a0, a1, a2⟩ := w.al i p o e
  have hi := (List.getElem?_eq_some_iff.mp e).1
  refine ⟨w.pu.mut a0 a1, fun j b u h => ?_, ?_⟩
  · by_cases q : i = j
    · subst q
      rw [List.getElem?_set_self hi] at h
      cases h
      exact ⟨a0, a1, upd_same⟩
    · rw [List.getElem?_set_ne q] at h
      obtain ⟨b0, b1, b2⟩ := w.al j b u h
      exact ⟨b0, b1, by rw [upd_ne (w.ne h e (Ne.symm q))]; exact b2⟩
  · have : (ls.set i (p, o')).map (·.1) = ls.map (·.1) := by
      rw [List.map_set]
      refine List.ext_getElem? fun j => ?_
      by_cases q : i = j
      · subst q
        rw [List.getElem?_set_self (by simpa using hi), List.getElem?_map, e]
        rfl
      · rw [List.getElem?_set_ne q]
    rw [this]
    exact w.nd
theorem Own.fix (w : Own F0 H0 F H ls) (i : Nat) (e : ls[i]? = some (p, o) := by rfl) : Own F0 H0 (upd F p o) H (ls.eraseIdx i) := by
  obtain ⟨a0, a1, a2⟩ := w.al i p o e
  refine ⟨w.pu.fix a0 a1 a2, fun j b u h => ?_, ?_⟩
  · rw [List.getElem?_eraseIdx] at h
    split at h
    · obtain ⟨b0, b1, b2⟩ := w.al j b u h
      exact ⟨b0, by rw [upd_ne (w.ne h e (by omega))]; exact b1, b2⟩
    · obtain ⟨b0, b1, b2⟩ := w.al (j + 1) b u h
      exact ⟨b0, by rw [upd_ne (w.ne h e (by omega))]; exact b1, b2⟩
  · exact List.Sublist.nodup (List.Sublist.map _ (List.eraseIdx_sublist ls i)) w.nd
theorem Own.ext (w : Own F0 H0 F H ls) (i : Nat) (e : ls[i]? = some (p, o) := by rfl) : Same F (upd F p o) := Same.new (w.nf i e)
end
theorem New.own {C : Addr} {F H0 H : Hp} {x dx : Addr} (n : New C F H0 H x dx) : Own F H0 F H [(x, .ins C dx [])] :=
  ⟨n.pu, fun i p o e => by
    cases i with
    | zero => simp at e; obtain ⟨rfl, rfl⟩ := e; exact ⟨n.nx, n.fx, n.at⟩
    | succ i => simp at e, by simp⟩
/-- self.f = v of a thing of one's own: a new field -/
theorem st_fld {K : PySem.W.Frag} {F0 H0 F H : Hp} {ls : List (Addr × HO)} {x C dx : Addr} {fs : List (Str × V)} {f : Str} {v : V} {Q : Hp → Prop} (w : Own F0 H0 F H ls) (cl : Cls K C) (na : NoAttr K C f) (i : Nat) (ks : List Str) (e : ls[i]? = some (x, .ins C dx fs)) (hk : fs.map (·.1) = ks) (hn : ks.contains f = false)
    (hl : ks.length < 1000) (k : Own F0 H0 F (upd H x (.ins C dx (fs ++ [(f, v)]))) (ls.set i (x, .ins C dx (fs ++ [(f, v)]))) → Q (upd H x (.ins C dx (fs ++ [(f, v)])))) :
    ∃ a C' dx' fs', V.ref x = .ref a ∧ H a = some (.ins C' dx' fs') ∧ Cls K C' ∧ NoAttr K C' f ∧ fs'.length < 1000 ∧ Q (upd H a (.ins C' dx' (putF f v fs'))) := by
  have q := k (w.mut i e)
  rw [← putF_new ks hn hk] at q
  exact ⟨x, C, dx, fs, rfl, w.at i e, cl, na, by rw [← hk] at hl; simpa using hl, q⟩
/-- branches that join again: R is where they meet -/
theorem sj {ta tb : TS} {D : Ends} {σ : L2.St} {H : Hp} (R : L2.St → Hp → Prop) (h : ∀ σ2 H2, R σ2 H2 → tb D σ2 H2) (g : (∀ σ2 H2, R σ2 H2 → tb D σ2 H2) → tSeq ta tb D σ H) : tSeq ta tb D σ H := g h
theorem atI_last {α : Type} {xs : List α} {v : α} (h : xs.getLast? = some v) (e : -1 = i := by rfl) : atI xs i = some v := by
  subst e
  have hl : xs.length ≠ 0 := by intro q; rw [List.length_eq_zero_iff] at q; rw [q] at h; cases h
  rw [List.getLast?_eq_getElem?] at h
  unfold atI ixN
  rw [if_neg (by omega), if_pos (by omega)]
  simpa [show (-1 + (xs.length : Int)).toNat = xs.length - 1 by omega] using h
theorem pd_last {α β : Type} {r : α → β → Prop} {xs : List α} {ys : List β} {x : α} (h : Paired r xs ys) (e : xs.getLast? = some x) : ∃ y, ys.getLast? = some y ∧ r x y := by
  rw [List.getLast?_eq_getElem?] at e ⊢
  obtain ⟨y, h1, h2⟩ := pd_get' h e
  exact ⟨y, by rw [pd_len h]; exact h1, h2⟩
theorem pd_dropLast {α β : Type} {r : α → β → Prop} : ∀ {xs : List α} {ys : List β}, Paired r xs ys → Paired r xs.dropLast ys.dropLast
  | _, _, .nil => .nil
  | _, _, .cons h .nil => .nil
  | _, _, .cons h (.cons h2 t) => .cons h (pd_dropLast (.cons h2 t))
end G

/-! part A1 -/
namespace TR
open PySem PySem.Spec PyProof.Rows L2 G
def top (i : Nat) : Stmt := PySem.Challenge.pw_turnrings_k81_plans_made_and_their_runs.main.body.getD i (.Pass ⟨0, 0, 0, 0⟩)
/-- the built-in names that the module leaves alone -/
structure Bt (mg : Str → Option Value) : Prop where
  len : mg "len" = none
  isinstance : mg "isinstance" = none
  int : mg "int" = none
  str : mg "str" = none
  bool : mg "bool" = none
  list : mg "list" = none
  tuple : mg "tuple" = none
  all : mg "all" = none
  any : mg "any" = none
  min : mg "min" = none
  max : mg "max" = none
  abs : mg "abs" = none
  sum : mg "sum" = none
  set : mg "set" = none
  sorted : mg "sorted" = none
  enumerate : mg "enumerate" = none
  range : mg "range" = none
  dict : mg "dict" = none
  zip : mg "zip" = none
section
variable {P : Program} {w : World} {K : PySem.W.Frag} {mg : Str → Option Value} {base : Heap}
abbrev s_is_whole : Stmt := top 31
abbrev N_is_whole : List Str := ["value"]
abbrev P_is_whole : List Str := ["value"]
theorem sc_is_whole : FnScope N_is_whole P_is_whole (defScope s_is_whole) := ⟨rfl, rfl, rfl, by decide +kernel, rfl, by decide +kernel, by decide +kernel⟩
theorem bn_is_whole : BindsNo "is_whole" "is_whole" s_is_whole P_is_whole := fun _ _ _ _ _ _ us hl => match us, hl with | [_], _ => rfl
def sp_is_whole : Sp := fun vs H Q _ => ∃ i : Int, vs = [.int i] ∧ ∀ H', Same H H' → Q (.bl true) H'
theorem ok_is_whole (B : Bt mg) (F : FnF K mg "is_whole" s_is_whole []) : Cal P w K mg base 1 "is_whole" sp_is_whole := by
  refine F.cal sc_is_whole bn_is_whole (fun vs H Q E h => ?_) (fun f cdv A outer s H vs Q E hr h => ?_)
  · obtain ⟨i, rfl, _⟩ := h
    rfl
  · obtain ⟨i, rfl, k⟩ := h
    refine ⟨_, (pss_one (ps_ret (pe_and (pe_callB (k_isi (K := K)) (by rfl) B.isinstance (by decide +kernel) (pa_cons (pv 0) (pa_cons (pe_ty (n := "int") B.int) pa_nil))) (pe_one (pe_not (pe_callB (k_isi (K := K)) (by rfl) B.isinstance (by decide +kernel) (pa_cons (pv 0) (pa_cons (pe_ty (n := "bool") B.bool) pa_nil)))))))), ?_⟩
    refine ⟨_, rfl, _, _, _, _, _, rfl, ClsV.ty _, TyX.base (TyOf.int _), kit_ty (r := true) (by decide +kernel), ?_⟩
    refine ⟨_, rfl, iteT ?_⟩
    refine ⟨_, rfl, _, _, _, _, _, rfl, ClsV.ty _, TyX.base (TyOf.int _), kit_ty (r := false) (by decide +kernel), ?_⟩
    exact ⟨_, rfl, k _ (Same.refl _)⟩
end
end TR

/-! part A2 -/
namespace TR
open PySem PySem.Spec PyProof.Rows L2 G
def LET : Str := "abcdefghijklmnopqrstuvwxyz"
def DIG : Str := "0123456789"
def isLet (c : Nat) : Bool := decide (c ∈ LET.cps.toList)
def isDig (c : Nat) : Bool := decide (c ∈ DIG.cps.toList)
def hdLet : List Nat → Bool
  | [] => false
  | c :: _ => isLet c
def nameOk (z : Str) : Bool := decide (1 ≤ z.length) && (decide (z.length ≤ 12) && (hdLet z.cps.toList && z.cps.toList.all fun c => isLet c || isDig c))
/-- x is no text -/
def NotStr (K : PySem.W.Frag) (H : Hp) (x : V) : Prop := ∃ t, TyX K H x t ∧ PySem.W.kitOne K t (.type "str") = some false
structure Gs (mg : Str → Option Value) : Prop where
  let_ : ∃ t, mg "LETTERS" = some (.str LET t)
  dig : ∃ t, mg "DIGITS" = some (.str DIG t)
  lng : ∃ t, mg "LONGEST_NAME" = some (.int 12 t)
section
variable {P : Program} {w : World} {K : PySem.W.Frag} {mg : Str → Option Value} {base : Heap}
abbrev s_is_name : Stmt := top 24
abbrev N_is_name : List Str := ["value", "sign"]
abbrev P_is_name : List Str := ["value"]
theorem sc_is_name : FnScope N_is_name P_is_name (defScope s_is_name) := ⟨rfl, rfl, rfl, by decide +kernel, rfl, by decide +kernel, by decide +kernel⟩
theorem bn_is_name : BindsNo "is_name" "is_name" s_is_name P_is_name := fun _ _ _ _ _ _ us hl => match us, hl with | [_], _ => rfl
def sp_is_name (K : PySem.W.Frag) : Sp := fun vs H Q _ => ∃ x : V, vs = [x] ∧ ((∃ z : Str, x = .str z ∧ z.length ≤ 1000 ∧ ∀ H', Same H H' → Q (.bl (nameOk z)) H') ∨ (NotStr K H x ∧ ∀ H', Same H H' → Q (.bl false) H'))
theorem all_take {p : Nat → Bool} {l : List Nat} : ((l.map p).all id) = l.all p := by
  rw [List.all_map]; rfl
theorem ok_is_name (B : Bt mg) (g : Gs mg) (F : FnF K mg "is_name" s_is_name []) : Cal P w K mg base 1 "is_name" (sp_is_name K) := by
  have g_LETTERS := g.let_
  have g_DIGITS := g.dig
  have g_LONGEST_NAME := g.lng
  refine F.cal sc_is_name bn_is_name (fun vs H Q E h => ?_) (fun f cdv A outer s H vs Q E hr h => ?_)
  · obtain ⟨x, rfl, _⟩ := h
    rfl
  · obtain ⟨x, rfl, h⟩ := h
    refine ⟨_, (pss_cons (ps_if (PW.pt (pw_or (pt_not (pt_val (pe_callB (k_isi (K := K)) (by rfl) B.isinstance (by decide +kernel) (pa_cons (pv 0) (pa_cons (pe_ty (n := "str") B.str) pa_nil))))) (pw_or (pt_not (pt_chain op_le op_le pe_int (pe_callB (call_lenU (K := K)) (by rfl) B.len (by decide +kernel) (pa_cons (pv 0) pa_nil)) (pe_gi g_LONGEST_NAME))) (pw_or1 (pt_cmpR (op_niU (K := K)) (pe_ix (k_ix (K := K)) (pv 0) pe_int (fun _ _ => rfl)) (pe_gs g_LETTERS) (by rfl)))))) (pss_one (ps_ret pe_bl)) pss_nil)
    (pss_one (ps_ret (pe_callB (k_all (K := K)) (by rfl) B.all (by decide +kernel) (pa_cons (pe_lc (own := [("sign", 1)]) rfl sc_is_name.nd (pi_str (pv 0)) (blkOk_by (N := N_is_name) (sc := defScope s_is_name) (by decide +kernel)) (fun _ _ _ _ _ => (pg_name (i := 1) sc_is_name.nd rfl (Or.inl rfl))) (fun _ _ _ _ _ => pts_nil) (fun _ _ _ _ _ => (pe_or (pe_cmpR (op_inU (K := K)) (pv 1) (pe_gs g_LETTERS) (by rfl)) (pe_one (pe_cmpR (op_inU (K := K)) (pv 1) (pe_gs g_DIGITS) (by rfl)))))) pa_nil))))), ?_⟩
    rcases h with ⟨z, rfl, hz, k⟩ | ⟨⟨t, ht, hk⟩, k⟩
    · have hz' : z.length ≤ sizeLine := Nat.le_trans hz (by rw [sizeLine_eq]; decide)
      refine ⟨_, rfl, _, _, _, _, _, rfl, ClsV.ty _, TyX.base (TyOf.str _), kit_ty (r := true) (by decide +kernel), ?_⟩
      refine ⟨_, rfl, iteF ?_⟩
      refine ⟨_, rfl, .inr (.inl ⟨_, rfl, hz', 1, z.length, rfl, rfl, _, rfl, ?_⟩)⟩
      by_cases h1 : (1 : Int) ≤ z.length
      · rw [decide_eq_true h1]
        refine iteT ⟨_, _, rfl, rfl, _, rfl, ?_⟩
        by_cases h2 : (z.length : Int) ≤ 12
        · rw [decide_eq_true h2]
          refine iteF ?_
          have hsz : z.length = z.cps.toList.length := by simp [Str.length]
          obtain ⟨c, r, hcr⟩ : ∃ c r, z.cps.toList = c :: r := by
            cases q : z.cps.toList with
            | nil => rw [q] at hsz; simp at hsz; omega
            | cons c r => exact ⟨c, r, rfl⟩
          have hat : atI z.cps.toList ((0 : Nat) : Int) = some c := atI_nat (by rw [hcr]; rfl)
          refine ⟨_, rfl, .inr (.inr ⟨z, 0, c, rfl, rfl, hz', hat, .inl ⟨c, LET, rfl, rfl, _, rfl, ?_⟩⟩)⟩
          by_cases h3 : c ∈ LET.cps.toList
          · rw [decide_eq_true h3]
            refine iteF ?_
            refine ⟨_, rfl, _, rfl, fun D hD => ?_⟩
            refine go_lc (n := z.cps.size) (F1 := H) walk_str Rp.bl (fun i => (z.cps.toList.take i).map fun c => isLet c || isDig c) (by show z.length ≤ _; omega) (Same.refl H) hD rfl (fun _ _ _ => trivial) (fun i x F H1 l H' N hi pu fD hl y kt kf => ?_) (fun F H1 ys pu fD hl pd => ?_)
            · obtain ⟨rfl, d, hd, rfl⟩ := y
              have hd' : z.cps.toList[i]? = some d := by rw [Array.getElem?_toList]; exact hd
              have ht : List.take (i + 1) z.cps.toList = List.take i z.cps.toList ++ [d] := by rw [List.take_add_one, hd']; rfl
              have fin : ∀ b, b = (isLet d || isDig d) → ∃ acc, H' D = some (.lst acc) ∧ acc.length < sizeLine ∧ N (upd H' D (.lst (acc ++ [.bl b]))) := fun b e =>
                kt (.bl b) H' F b (Pu.refl pu.sub) rfl (by rw [ht, List.map_append, e]; rfl)
              refine ⟨rfl, _, rfl, .inl ⟨d, LET, rfl, rfl, _, rfl, ?_⟩⟩
              rw [if_neg Bool.false_ne_true]
              by_cases h4 : d ∈ LET.cps.toList
              · rw [decide_eq_true h4]
                exact iteT (fin true (by simp [isLet, h4]))
              · rw [decide_eq_false h4]
                exact iteF ⟨_, rfl, .inl ⟨d, DIG, rfl, rfl, fin _ (by simp [isLet, isDig, h4])⟩⟩
            · have e := pd_eq (f := V.bl) (by exact pd)
              refine ⟨D, _, rfl, .inl (.inl (by rw [hl, e])), ?_⟩
              have e2 : nameOk z = ((z.cps.toList.take z.cps.size).map (fun c => isLet c || isDig c)).all id := by
                rw [all_take, List.take_of_length_le (by simp)]
                unfold nameOk
                rw [decide_eq_true (show 1 ≤ z.length by omega), decide_eq_true (show z.length ≤ 12 by omega), hcr]
                simp [hdLet, isLet, h3]
              have k2 := k H1 pu.same
              rw [e2] at k2
              exact k2
          · rw [decide_eq_false h3]
            refine iteT ?_
            have e : nameOk z = false := by
              unfold nameOk
              rw [hcr]
              simp [hdLet, isLet, h3]
            rw [← e]
            exact k _ (Same.refl _)
        · rw [decide_eq_false h2]
          refine iteT ?_
          have e : nameOk z = false := by
            unfold nameOk
            rw [decide_eq_false (show ¬ z.length ≤ 12 by omega)]
            simp
          rw [← e]
          exact k _ (Same.refl _)
      · rw [decide_eq_false h1]
        refine iteF ⟨_, rfl, iteT ?_⟩
        have e : nameOk z = false := by
          unfold nameOk
          rw [decide_eq_false (show ¬ 1 ≤ z.length by omega)]
          simp
        rw [← e]
        exact k _ (Same.refl _)
    · refine ⟨_, rfl, _, _, _, _, _, rfl, ClsV.ty _, ht, hk, ?_⟩
      refine ⟨_, rfl, iteT ?_⟩
      exact k _ (Same.refl _)
end
end TR

/-! part A3 -/
namespace TR
open PySem PySem.Spec PyProof.Rows L2 G
abbrev Kinds : Type := List (Str × Int)
def kper (ks : Kinds) : List (Key × V) := ks.map fun p => (Sum.inr p.1, V.int p.2)
def kranks (ks : Kinds) (n : Nat) : List (Key × V) := match ks with
  | [] => []
  | p :: r => (Sum.inr p.1, V.int (n : Nat)) :: kranks r (n + 1)
def rankOf (ks : Kinds) (x : Str) : Option Nat := match ks with
  | [] => none
  | p :: r => if p.1 = x then some 0 else (rankOf r x).map (· + 1)
theorem val_per (x : Str) : ∀ ks : Kinds, valV (kper ks) (Sum.inr x) = (ks.lookup x).map V.int
  | [] => rfl
  | (y, i) :: r => by
    show valV ((Sum.inr y, V.int i) :: kper r) (Sum.inr x) = _
    by_cases e : y = x
    · subst e
      rw [valV_pos rfl]
      simp [List.lookup]
    · rw [valV_neg (fun q => e (Sum.inr.inj q)), val_per x r, List.lookup_cons]
      simp [show (x == y) = false by simp [Ne.symm e]]
theorem val_ranks (x : Str) : ∀ (ks : Kinds) (n : Nat), valV (kranks ks n) (Sum.inr x) = (rankOf ks x).map fun j => V.int ((n + j : Nat) : Int)
  | [], _ => rfl
  | (y, i) :: r, n => by
    show valV ((Sum.inr y, V.int (n : Nat)) :: kranks r (n + 1)) (Sum.inr x) = ((if y = x then some 0 else (rankOf r x).map (· + 1)) : Option Nat).map _
    by_cases e : y = x
    · subst e
      rw [valV_pos rfl, if_pos rfl]
      rfl
    · rw [valV_neg (fun q => e (Sum.inr.inj q)), val_ranks x r (n + 1), if_neg e, Option.map_map]
      congr 1
      funext j
      show V.int _ = V.int _
      congr 2
      show n + 1 + j = n + (j + 1)
      omega
theorem rank_some {x : Str} : ∀ {ks : Kinds} {i : Int}, ks.lookup x = some i → ∃ j, rankOf ks x = some j
  | [], _, h => by simp at h
  | (y, k) :: r, i, h => by
    by_cases e : y = x
    · exact ⟨0, if_pos e⟩
    · rw [List.lookup_cons, show (x == y) = false by simp [Ne.symm e]] at h
      obtain ⟨j, hj⟩ := rank_some (show r.lookup x = some i from h)
      exact ⟨j + 1, by show (if y = x then some 0 else (rankOf r x).map (· + 1)) = _; rw [if_neg e, hj]; rfl⟩
def RKinds : Rp Kinds := Rp.tup (Rp.pair Rp.str Rp.int)
/-- a Turns at v -/
structure TurnsAt (C : Addr) (ks : Kinds) (v : V) (F : Hp) (a dx tp tn td tr : Addr) : Prop where
  ev : v = .ref a
  ob : F a = some (.ins C dx [("pairs", .ref tp), ("names", .ref tn), ("periods", .ref td), ("ranks", .ref tr)])
  pr : RKinds.rel ks (.ref tp) F
  nm : F tn = some (.tup (ks.map fun p => V.str p.1))
  pe : F td = some (.dK (kper ks))
  rk : F tr = some (.dK (kranks ks 0))
def RTurns (C : Addr) : Rp Kinds := ⟨fun ks v F => ∃ a dx tp tn td tr, TurnsAt C ks v F a dx tp tn td tr,
  fun s ⟨a, dx, tp, tn, td, tr, h⟩ => ⟨a, dx, tp, tn, td, tr, h.ev, s _ _ h.ob, RKinds.mono s h.pr, s _ _ h.nm, s _ _ h.pe, s _ _ h.rk⟩⟩
/-- an own class whose instances bear these names -/
structure KlF (K : PySem.W.Frag) (mg : Str → Option Value) (x : Str) (C : Addr) (fs : List Str) : Prop where
  cl : Cls K C
  mg : mg x = some (.ref C)
  no : ∀ f ∈ fs, NoAttr K C f
section
variable {P : Program} {w : World} {K : PySem.W.Frag} {mg : Str → Option Value} {base : Heap} {CT : Addr}
abbrev s_Turns_contains : Stmt := inClass (top 39) 7
abbrev N_Turns_contains : List Str := ["self", "name"]
abbrev P_Turns_contains : List Str := ["self", "name"]
theorem sc_Turns_contains : FnScope N_Turns_contains P_Turns_contains (defScope s_Turns_contains) := ⟨rfl, rfl, rfl, by decide +kernel, rfl, by decide +kernel, by decide +kernel⟩
theorem bn_Turns_contains : BindsNo "__contains__" "Turns.__contains__" s_Turns_contains P_Turns_contains := fun _ _ _ _ _ _ us hl => match us, hl with | [_, _], _ => rfl
/-- x in turns -/
def sp_Turns_in (K : PySem.W.Frag) (C : Addr) : Sp := fun vs H Q _ => ∃ (v x : V) (ks : Kinds), vs = [v, x] ∧ (RTurns C).rel ks v H ∧ ((∃ z, x = .str z ∧ ∀ H', Same H H' → Q (.bl (ks.lookup z).isSome) H') ∨ (NotStr K H x ∧ ∀ H', Same H H' → Q (.bl false) H'))
theorem ok_Turns_in (B : Bt mg) (T : KlF K mg "Turns" CT ["pairs", "names", "periods", "ranks"]) (F : MtF K CT "__contains__" "Turns.__contains__" s_Turns_contains []) : Met P w K mg base 1 CT "__contains__" (sp_Turns_in K CT) := by
  refine F.met T.cl sc_Turns_contains bn_Turns_contains (fun vs H Q E h => ?_) (fun f cdv A outer s H vs Q E hr h => ?_)
  · obtain ⟨v, x, ks, rfl, _⟩ := h
    rfl
  · obtain ⟨v, x, ks, rfl, ⟨a, dx, tp, tn, td, tr, t⟩, h⟩ := h
    refine ⟨_, (pss_one (ps_ret (pe_and (pe_callB (k_isi (K := K)) (by rfl) B.isinstance (by decide +kernel) (pa_cons (pv 1) (pa_cons (pe_ty (n := "str") B.str) pa_nil))) (pe_one (pe_cmp (pc_din (hu_of hr) (pv 1) (k_fld (pv 0) (K := K))) rfl))))), ?_⟩
    rcases h with ⟨z, rfl, k⟩ | ⟨⟨t, ht, hk⟩, k⟩
    · refine ⟨_, rfl, _, _, _, _, _, rfl, ClsV.ty _, TyX.base (TyOf.str _), kit_ty (r := true) (by decide +kernel), ?_⟩
      refine ⟨_, rfl, _, rfl, _, rfl, a, CT, dx, _, _, t.ev, t.ob, T.cl, T.no _ (by decide), rfl, td, _, rfl, DGet.k (k := Sum.inr z) t.pe, ?_⟩
      rw [val_per]
      have e : ((ks.lookup z).map V.int).isSome = (ks.lookup z).isSome := by cases ks.lookup z <;> rfl
      rw [e]
      exact k _ (Same.refl _)
    · refine ⟨_, rfl, _, _, _, _, _, rfl, ClsV.ty _, ht, hk, ?_⟩
      exact ⟨_, rfl, k _ (Same.refl _)⟩
abbrev s_Turns_period_of : Stmt := inClass (top 39) 2
abbrev N_Turns_period_of : List Str := ["self", "name"]
abbrev P_Turns_period_of : List Str := ["self", "name"]
theorem sc_Turns_period_of : FnScope N_Turns_period_of P_Turns_period_of (defScope s_Turns_period_of) := ⟨rfl, rfl, rfl, by decide +kernel, rfl, by decide +kernel, by decide +kernel⟩
theorem bn_Turns_period_of : BindsNo "period_of" "Turns.period_of" s_Turns_period_of P_Turns_period_of := fun _ _ _ _ _ _ us hl => match us, hl with | [_, _], _ => rfl
def sp_Turns_period (C : Addr) : Sp := fun vs H Q _ => ∃ (v : V) (z : Str) (ks : Kinds) (i : Int), vs = [v, .str z] ∧ (RTurns C).rel ks v H ∧ ks.lookup z = some i ∧ ∀ H', Same H H' → Q (.int i) H'
theorem ok_Turns_period (B : Bt mg) (T : KlF K mg "Turns" CT ["pairs", "names", "periods", "ranks"]) (m_in : Met P w K mg base 1 CT "__contains__" (sp_Turns_in K CT)) (F : MtF K CT "period_of" "Turns.period_of" s_Turns_period_of []) : Met P w K mg base 2 CT "period_of" (sp_Turns_period CT) := by
  refine F.met T.cl sc_Turns_period_of bn_Turns_period_of (fun vs H Q E h => ?_) (fun f cdv A outer s H vs Q E hr h => ?_)
  · obtain ⟨v, x, ks, i, rfl, _⟩ := h
    rfl
  · obtain ⟨v, z, ks, i, rfl, r, hi, k⟩ := h
    obtain ⟨a, dx, tp, tn, td, tr, t⟩ := id r
    refine ⟨_, (pss_cons (ps_if (pt_cmpR (op_niO m_in hr (by decide) passL) (pv 1) (pv 0) (by rfl)) (pss_one ps_never) pss_nil)
    (pss_one (ps_ret (pe_dget (hu_of hr) (k_fld (pv 0) (K := K)) (pv 1) (fun _ _ => rfl))))), ?_⟩
    refine ⟨_, rfl, _, rfl, a, dx, _, t.ev, t.ob, v, .str z, ks, rfl, r, .inl ⟨z, rfl, fun H1 s1 => ?_⟩⟩
    rw [hi]
    refine ⟨_, rfl, _, rfl, ?_⟩
    have q : valV (kper ks) (Sum.inr z) = some (.int i) := by rw [val_per, hi]; rfl
    refine ⟨_, rfl, a, CT, dx, _, _, t.ev, s1 _ _ t.ob, T.cl, T.no _ (by decide), rfl, _, rfl, td, _, rfl, q ▸ DGet.k (k := Sum.inr z) (s1 _ _ t.pe), ?_⟩
    exact k _ s1
abbrev s_Turns_rank : Stmt := inClass (top 39) 3
abbrev N_Turns_rank : List Str := ["self", "name"]
abbrev P_Turns_rank : List Str := ["self", "name"]
theorem sc_Turns_rank : FnScope N_Turns_rank P_Turns_rank (defScope s_Turns_rank) := ⟨rfl, rfl, rfl, by decide +kernel, rfl, by decide +kernel, by decide +kernel⟩
theorem bn_Turns_rank : BindsNo "rank" "Turns.rank" s_Turns_rank P_Turns_rank := fun _ _ _ _ _ _ us hl => match us, hl with | [_, _], _ => rfl
def sp_Turns_rank (C : Addr) : Sp := fun vs H Q _ => ∃ (v : V) (z : Str) (ks : Kinds) (j : Nat), vs = [v, .str z] ∧ (RTurns C).rel ks v H ∧ (∃ i, ks.lookup z = some i) ∧ rankOf ks z = some j ∧ ∀ H', Same H H' → Q (.int j) H'
theorem ok_Turns_rank (B : Bt mg) (T : KlF K mg "Turns" CT ["pairs", "names", "periods", "ranks"]) (m_in : Met P w K mg base 1 CT "__contains__" (sp_Turns_in K CT)) (F : MtF K CT "rank" "Turns.rank" s_Turns_rank []) : Met P w K mg base 2 CT "rank" (sp_Turns_rank CT) := by
  refine F.met T.cl sc_Turns_rank bn_Turns_rank (fun vs H Q E h => ?_) (fun f cdv A outer s H vs Q E hr h => ?_)
  · obtain ⟨v, x, ks, i, rfl, _⟩ := h
    rfl
  · obtain ⟨v, z, ks, j, rfl, r, ⟨i, hi⟩, hj, k⟩ := h
    obtain ⟨a, dx, tp, tn, td, tr, t⟩ := id r
    refine ⟨_, (pss_cons (ps_if (pt_cmpR (op_niO m_in hr (by decide) passL) (pv 1) (pv 0) (by rfl)) (pss_one ps_never) pss_nil)
    (pss_one (ps_ret (pe_dget (hu_of hr) (k_fld (pv 0) (K := K)) (pv 1) (fun _ _ => rfl))))), ?_⟩
    refine ⟨_, rfl, _, rfl, a, dx, _, t.ev, t.ob, v, .str z, ks, rfl, r, .inl ⟨z, rfl, fun H1 s1 => ?_⟩⟩
    rw [hi]
    refine ⟨_, rfl, _, rfl, ?_⟩
    have q : valV (kranks ks 0) (Sum.inr z) = some (.int j) := by rw [val_ranks, hj]; show some (V.int ((0 + j : Nat) : Int)) = _; rw [Nat.zero_add]
    refine ⟨_, rfl, a, CT, dx, _, _, t.ev, s1 _ _ t.ob, T.cl, T.no _ (by decide), rfl, _, rfl, tr, _, rfl, q ▸ DGet.k (k := Sum.inr z) (s1 _ _ t.rk), ?_⟩
    exact k _ s1
end
end TR

/-! part A4 -/
namespace TR
open PySem PySem.Spec PyProof.Rows L2 G
structure KOk (ks : Kinds) : Prop where
  pos : 0 < ks.length
  le : ks.length ≤ 8
  nm : ∀ p ∈ ks, nameOk p.1 = true ∧ p.1.length ≤ 1000
  pe : ∀ p ∈ ks, 0 ≤ p.2 ∧ p.2 ≠ 1
  nd : (ks.map (·.1)).Nodup
theorem kranks_snoc : ∀ (ks : Kinds) (n : Nat) (p : Str × Int), kranks (ks ++ [p]) n = kranks ks n ++ [(Sum.inr p.1, V.int ((n + ks.length : Nat) : Int))]
  | [], n, p => rfl
  | q :: r, n, p => by
    show (Sum.inr q.1, V.int (n : Nat)) :: kranks (r ++ [p]) (n + 1) = _
    rw [kranks_snoc r (n + 1) p]
    show _ = (Sum.inr q.1, V.int (n : Nat)) :: (kranks r (n + 1) ++ _)
    rw [show n + 1 + r.length = n + (q :: r).length by simp; omega]
theorem kranks_len : ∀ (ks : Kinds) (n : Nat), (kranks ks n).length = ks.length
  | [], _ => rfl
  | _ :: r, n => congrArg Nat.succ (kranks_len r (n + 1))
theorem lookup_none {x : Str} : ∀ {ks : Kinds}, x ∉ ks.map (·.1) → ks.lookup x = none
  | [], _ => rfl
  | (y, i) :: r, h => by
    have h1 : ¬ x = y ∧ x ∉ r.map (·.1) := by simpa using h
    rw [List.lookup_cons, show (x == y) = false by simp [h1.1]]
    exact lookup_none h1.2
theorem fresh_at {ks : Kinds} {i : Nat} {p : Str × Int} (nd : (ks.map (·.1)).Nodup) (h : ks[i]? = some p) : (ks.take i).lookup p.1 = none := by
  refine lookup_none fun m => ?_
  obtain ⟨q, hq, e⟩ := List.mem_map.mp m
  obtain ⟨j, hj⟩ := List.getElem?_of_mem hq
  have hji : j < i := by
    by_cases z : j < i
    · exact z
    · rw [List.getElem?_eq_none (by simp; omega)] at hj; cases hj
  rw [List.getElem?_take_of_lt hji] at hj
  have a1 : (ks.map (·.1))[j]? = some p.1 := by rw [List.getElem?_map, hj]; simp [e]
  have a2 : (ks.map (·.1))[i]? = some p.1 := by rw [List.getElem?_map, h]; rfl
  have := nd_ix nd a1 a2
  omega
theorem rank_none {x : Str} : ∀ {ks : Kinds}, ks.lookup x = none → rankOf ks x = none
  | [], _ => rfl
  | (y, i) :: r, h => by
    show (if y = x then some 0 else (rankOf r x).map (· + 1)) = none
    by_cases e : y = x
    · rw [List.lookup_cons, show (x == y) = true by simp [e]] at h; cases h
    · rw [List.lookup_cons, show (x == y) = false by simp [Ne.symm e]] at h
      rw [if_neg e, rank_none (show r.lookup x = none from h)]; rfl
section
variable {P : Program} {w : World} {K : PySem.W.Frag} {mg : Str → Option Value} {base : Heap} {CT : Addr}
abbrev RPairs : Rp Kinds := Rp.lst (Rp.pair Rp.str Rp.int)
abbrev s_Turns_init : Stmt := inClass (top 39) 1
abbrev N_Turns_init : List Str := ["self", "pairs", "told", "name", "period", "periods", "ranks"]
abbrev P_Turns_init : List Str := ["self", "pairs"]
theorem sc_Turns_init : FnScope N_Turns_init P_Turns_init (defScope s_Turns_init) := ⟨rfl, rfl, rfl, by decide +kernel, rfl, by decide +kernel, by decide +kernel⟩
theorem bn_Turns_init : BindsNo "__init__" "Turns.__init__" s_Turns_init P_Turns_init := fun _ _ _ _ _ _ us hl => match us, hl with | [_, _], _ => rfl
def sp_Turns_init (C : Addr) : Sp := fun vs H Q _ => ∃ (F H0 : Hp) (x dx : Addr) (v : V) (ks : Kinds), vs = [.ref x, v] ∧ New C F H0 H x dx ∧ RPairs.rel ks v F ∧ KOk ks ∧ ∀ F' H', Pu F H0 F' H' → (RTurns C).rel ks (.ref x) F' → Q .non H'
theorem ok_Turns_init (B : Bt mg) (T : KlF K mg "Turns" CT ["pairs", "names", "periods", "ranks"]) (T_MOST : CcF K CT "MOST" (.int 8)) (c_is_name : Cal P w K mg base 1 "is_name" (sp_is_name K)) (c_is_whole : Cal P w K mg base 1 "is_whole" sp_is_whole)
    (F : MkF K mg "Turns" CT "Turns.__init__" s_Turns_init []) : Mak P w K mg base 2 "Turns" CT (sp_Turns_init CT) := by
  have g_Turns := T.mg
  refine F.mak sc_Turns_init bn_Turns_init (fun vs H Q E h => ?_) (fun f cdv A outer s H vs Q E hr h => ?_)
  · obtain ⟨_, _, _, _, _, _, rfl, _⟩ := h
    rfl
  · obtain ⟨F, H0, x, dx, v, ks, rfl, nw, ⟨a, ps, rfl, ha, pd⟩, ok, k⟩ := h
    have w0 := nw.own
    have hl : ps.length = ks.length := pd_len pd
    refine ⟨_, (pss_cons (ps_setLc (i := 2) (own := [("name", 3), ("period", 4)]) rfl sc_Turns_init.nd rfl rfl (sw_true rfl rfl rfl (by decide +kernel)) (k_il (pv 1) (K := K)) (blkOk_by (N := N_Turns_init) (sc := defScope s_Turns_init) (by decide +kernel)) (fun _ _ _ _ _ => (k_tup (n := 2) rfl (pgs_cons (pg_name (i := 3) sc_Turns_init.nd rfl (Or.inl rfl)) (pgs_cons (pg_name (i := 4) sc_Turns_init.nd rfl (Or.inl rfl)) pgs_nil)) (K := K))) (fun _ _ _ _ _ => pts_nil) (fun _ _ _ _ _ => (pe_tup (pa_cons (pv 3) (pa_cons (pv 4) pa_nil)))))
    (pss_cons (ps_if (pt_cmpR (op_eqU hr (K := K)) (pe_callB (call_lenU (K := K)) (by rfl) B.len (by decide +kernel) (pa_cons (pv 2) pa_nil)) pe_int (nomark _)) (pss_one ps_never) pss_nil)
    (pss_cons (ps_if (pt_cmpR op_gt (pe_callB (call_lenU (K := K)) (by rfl) B.len (by decide +kernel) (pa_cons (pv 2) pa_nil)) (pe_cc g_Turns (n := .int 8) T_MOST) (nomark _)) (pss_one ps_never) pss_nil)
    (pss_cons (ps_par (i := 5) (j := 6) (by rfl) sc_Turns_init.nd rfl rfl (by decide) rfl rfl (pa_cons pe_dnewK (pa_cons pe_dnewK pa_nil)) (by rfl))
    (pss_cons (ps_for (passes_of rfl) rfl (k_il (pv 2) (K := K)) (k_tup (n := 2) rfl (pgs_cons (pg_name (i := 3) sc_Turns_init.nd rfl (Or.inl rfl)) (pgs_cons (pg_name (i := 4) sc_Turns_init.nd rfl (Or.inl rfl)) pgs_nil)) (K := K))
    (pss_cons (ps_if (pt_not (pt_val (pe_c c_is_name hr (by decide) (pa_cons (pv 3) pa_nil) passL))) (pss_one ps_never) pss_nil)
    (pss_cons (ps_if (pt_cmp (pc_din (hu_of hr) (pv 3) (pv 5))) (pss_one ps_never) pss_nil)
    (pss_cons (ps_if (PW.pt (pw_or (pt_not (pt_val (pe_c c_is_whole hr (by decide) (pa_cons (pv 4) pa_nil) passL))) (pw_or (pt_cmpR op_lt (pv 4) pe_int (nomark _)) (pw_or1 (pt_cmpR (op_eqU hr (K := K)) (pv 4) pe_int (nomark _)))))) (pss_one ps_never) pss_nil)
    (pss_cons (ps_dput (hu_of hr) (pv 6) (pv 3) (pe_callB (call_lenU (K := K)) (by rfl) B.len (by decide +kernel) (pa_cons (pv 6) pa_nil)) rfl)
    (pss_one (ps_dput (hu_of hr) (pv 5) (pv 3) (pv 4) rfl)))))))
    (pss_cons (ps_fld (pv 0) (pe_callTy (k_tuple (K := K)) (by rfl) B.tuple (by decide +kernel) (pa_cons (pv 2) pa_nil)) rfl)
    (pss_cons (ps_fld (pv 0) (pe_callTy (k_tuple (K := K)) (by rfl) B.tuple (by decide +kernel) (pa_cons (pe_lc (own := [("name", 3), ("period", 4)]) rfl sc_Turns_init.nd (k_il (pv 2) (K := K)) (blkOk_by (N := N_Turns_init) (sc := defScope s_Turns_init) (by decide +kernel)) (fun _ _ _ _ _ => (k_tup (n := 2) rfl (pgs_cons (pg_name (i := 3) sc_Turns_init.nd rfl (Or.inl rfl)) (pgs_cons (pg_name (i := 4) sc_Turns_init.nd rfl (Or.inl rfl)) pgs_nil)) (K := K))) (fun _ _ _ _ _ => pts_nil) (fun _ _ _ _ _ => (pv 3))) pa_nil)) rfl)
    (pss_cons (ps_fld (pv 0) (pv 5) rfl)
    (pss_one (ps_fld (pv 0) (pv 6) rfl)))))))))), ?_⟩
    -- told = [(name, period) for ..]
    refine ⟨_, rfl, a, rfl, ⟨_, SqL.of (w0.sub _ _ ha)⟩, fun D hD => ?_⟩
    refine go_lc (F1 := F) (walk_list (xs := ps)) (Rp.pair Rp.str Rp.int) (fun i => ks.take i) (by have := ok.le; omega) w0.sub hD (by simp) (fun F1 H1 pu => SqL.of (pu.sub _ _ (pu.ff _ _ ha))) (fun i y F1 H1 l H' N hi pu fD hl1 hy kt kf => ?_) (fun F1 H1 ys pu fD hl1 pd1 => ?_)
    · obtain ⟨e1, hy⟩ := hy
      subst e1
      obtain ⟨d, t, z, u, hd, rfl, ht, rfl, rfl⟩ := pair_at pd hy
      refine ⟨t, _, rfl, SqT.of (pu.sub _ _ (pu.ff _ _ ht)), rfl, _, _, rfl, _, _, rfl, rfl, rfl, ?_⟩
      refine ⟨_, rfl, _, rfl, sz (n := 2) (by decide), fun p hp => ?_⟩
      exact kt (.ref p) _ (upd F1 p (.tup [.str d.1, .int d.2])) d ((Pu.refl pu.sub).add hp) ⟨p, _, _, rfl, upd_same, rfl, rfl⟩ (take_snoc hd)
    -- the lengths
    have hlt : ys.length = ks.length := by rw [pd_len pd1, hl, take_all]
    rw [hl, take_all] at pd1
    have w1 := (w0.lc hD pu fD hl1).fix 0
    have RL : RPairs.rel ks (.ref D) (upd F1 D (.lst ys)) := ⟨D, ys, rfl, upd_same, pd_mono (fun _ _ => (Rp.pair Rp.str Rp.int).mono (Same.new fD)) pd1⟩
    refine ⟨_, rfl, .inl ⟨D, ys, rfl, .inl (SqL.of hl1), ?_⟩⟩
    refine .inl ⟨rfl, _, rfl, ?_⟩
    rw [decide_eq_false (by rw [hlt]; have := ok.pos; intro e; injection e with e; omega)]
    refine ⟨_, rfl, .inl ⟨D, ys, rfl, .inl (SqL.of hl1), _, _, rfl, rfl, _, rfl, ?_⟩⟩
    rw [decide_eq_false (by rw [hlt]; have := ok.le; omega)]
    -- periods, ranks = {}, {}
    refine fun td htd => fun tr htr => ⟨_, _, rfl, ?_⟩
    have w2 := (w1.new (o := .dK []) htd).new (o := .dK []) htr
    -- the loop
    refine ⟨_, rfl, D, rfl, ⟨_, SqL.of (w2.sub _ _ upd_same)⟩, ?_⟩
    refine for_it (walk_list (xs := ys)) (fun i σ H' => ∃ (F' : Hp) (n p : Option V), Own F H0 F' H' [(tr, .dK (kranks (ks.take i) 0)), (td, .dK (kper (ks.take i))), (x, .ins CT dx [])] ∧ Same (upd F1 D (.lst ys)) F' ∧
        σ = [some (.ref x), some (.ref a), some (.ref D), n, p, some (.ref td), some (.ref tr)]) ⟨_, none, none, w2, Same.refl _, rfl⟩ (fun i σ H' _ ⟨F', n, p, w3, s3, _⟩ => SqL.of (w3.sub _ _ (s3 _ _ upd_same))) ?_ ?_
    · rintro i y σ H' H'' hi ⟨F', n0, p0, w3, s3, rfl⟩ ⟨e1, hy⟩
      subst e1
      obtain ⟨d, t, z, u, hd, rfl, ht, rfl, rfl⟩ := pair_at (pd_mono (fun _ _ => (Rp.pair Rp.str Rp.int).mono ((Same.new fD).trans s3)) pd1) hy
      have md : d ∈ ks := List.mem_of_getElem? hd
      have hfr := fresh_at ok.nd hd
      refine ⟨t, _, rfl, SqT.of (w3.sub _ _ ht), rfl, _, _, rfl, _, _, rfl, rfl, ?_⟩
      refine ⟨_, rfl, .str d.1, rfl, .inl ⟨d.1, rfl, (ok.nm d md).2, fun H4 s4 => ?_⟩⟩
      have w4 := w3.tmp s4
      rw [(ok.nm d md).1]
      refine ⟨_, rfl, ?_⟩
      refine ⟨_, rfl, _, rfl, td, _, rfl, DGet.k (k := Sum.inr d.1) (w4.at 1), ?_⟩
      rw [val_per, hfr]
      refine ⟨_, rfl, ?_⟩
      refine ⟨_, rfl, d.2, rfl, fun H5 s5 => ⟨_, rfl, ?_⟩⟩
      have w5 := w4.tmp s5
      refine ⟨_, rfl, _, _, rfl, rfl, _, rfl, ?_⟩
      rw [decide_eq_false (by have := (ok.pe d md).1; omega)]
      refine ⟨_, rfl, .inl ⟨rfl, _, rfl, ?_⟩⟩
      rw [decide_eq_false (by have := (ok.pe d md).2; simpa using this)]
      have hik : i < ks.length := (List.getElem?_eq_some_iff.mp hd).1
      have hlr : (kranks (ks.take i) 0).length = i := by
        rw [kranks_len, List.length_take]
        omega
      -- ranks[name] = len(ranks)
      refine ⟨_, rfl, .inr (.inr ⟨tr, _, rfl, w5.at 0, ?_⟩)⟩
      refine ⟨_, rfl, _, rfl, tr, _, rfl, DPut.k (k := Sum.inr d.1) (w5.at 0) (szl (by have := ok.le; omega)), ?_⟩
      have w6 := w5.mut (o' := .dK (putK (kranks (ks.take i) 0) (Sum.inr d.1) (.int (kranks (ks.take i) 0).length))) 0
      -- periods[name] = period
      refine ⟨_, rfl, _, rfl, _, rfl, td, _, rfl, DPut.k (k := Sum.inr d.1) (w6.at 1) (szl (by simp [kper]; have := ok.le; omega)), ?_⟩
      have w7 := w6.mut (o' := .dK (putK (kper (ks.take i)) (Sum.inr d.1) (.int d.2))) 1
      have ep : putK (kper (ks.take i)) (Sum.inr d.1) (.int d.2) = kper (ks.take (i + 1)) := by
        rw [putK_new _ (by rw [val_per, hfr]; rfl), take_snoc hd]
        simp [kper]
      have er : putK (kranks (ks.take i) 0) (Sum.inr d.1) (.int (kranks (ks.take i) 0).length) = kranks (ks.take (i + 1)) 0 := by
        rw [putK_new _ (by rw [val_ranks, rank_none hfr]; rfl), take_snoc hd, kranks_snoc, hlr, List.length_take]
        congr 4
        have : (0 + min i ks.length : Nat) = i := by omega
        rw [this]
      rw [ep, er] at w7
      rw [ep, er]
      exact ⟨F', _, _, w7, s3, rfl⟩
    · rintro σ H' ⟨F', n0, p0, w3, s3, rfl⟩
      rw [hlt, take_all] at w3
      obtain ⟨D', ys', e', hD', pd'⟩ := RPairs.mono s3 RL
      cases e'
      have eys : ys' = ys := by
        have q := s3 _ _ (show upd F1 D (.lst ys) D = some (.lst ys) from upd_same)
        rw [q] at hD'
        cases hD'
        rfl
      subst eys
      -- self.pairs = tuple(told)
      refine ⟨_, rfl, D, ys', rfl, .inl ⟨SqL.of (w3.sub _ _ hD'), fun tp htp => ?_⟩⟩
      have w4 := w3.add (o := .tup ys') htp
      refine ⟨_, rfl, st_fld w4 T.cl (T.no _ (by decide)) 2 [] rfl rfl (by decide +kernel) (by decide) fun w5 => ?_⟩
      have s4 : Same F' (upd F' tp (.tup ys')) := Same.new (w3.sub.free htp)
      -- self.names = tuple([name for ..])
      refine ⟨_, rfl, D, rfl, ⟨_, SqL.of (w5.sub _ _ (s4 _ _ hD'))⟩, fun D2 hD2 => ?_⟩
      refine go_lc (F1 := upd F' tp (.tup ys')) (walk_list (xs := ys')) Rp.str (fun i => (ks.map (·.1)).take i) (by rw [hlt]; have := ok.le; omega) w5.sub hD2 (by simp) (fun F5 H5 pu => SqL.of (pu.sub _ _ (pu.ff _ _ (s4 _ _ hD')))) (fun i y F5 H5 l H'' N hi pu fD5 hl5 hy kt kf => ?_) (fun F5 H5 zs pu fD5 hl5 pd5 => ?_)
      · obtain ⟨e1, hy⟩ := hy
        subst e1
        obtain ⟨d, t, z, u, hd, rfl, ht, rfl, rfl⟩ := pair_at pd' hy
        refine ⟨t, _, rfl, SqT.of (pu.sub _ _ (pu.ff _ _ (s4 _ _ ht))), rfl, _, _, rfl, _, _, rfl, rfl, rfl, ?_⟩
        exact ⟨_, rfl, kt (.str d.1) _ F5 d.1 (Pu.refl pu.sub) rfl (take_snoc (by rw [List.getElem?_map, hd]; rfl))⟩
      · have ez : zs = ks.map fun p => V.str p.1 := by
          have := pd_eq (f := V.str) (by exact pd5)
          rw [this, hlt]
          rw [show ks.length = (ks.map (·.1)).length by simp, take_all, List.map_map]
          rfl
        subst ez
        have w6 := w5.lc hD2 pu fD5 hl5
        refine ⟨D2, _, rfl, .inl ⟨SqL.of hl5, fun tn htn => ?_⟩⟩
        have s6 := Same.new (o := .tup (ks.map fun p => V.str p.1)) (w6.sub.free htn)
        have w7 := w6.add (o := .tup (ks.map fun p => V.str p.1)) htn
        refine ⟨_, rfl, st_fld w7 T.cl (T.no _ (by decide)) 3 ["pairs"] rfl rfl (by decide +kernel) (by decide) fun w8 => ?_⟩
        refine ⟨_, rfl, _, rfl, st_fld w8 T.cl (T.no _ (by decide)) 3 ["pairs", "names"] rfl rfl (by decide +kernel) (by decide) fun w9 => ?_⟩
        refine ⟨_, rfl, _, rfl, st_fld w9 T.cl (T.no _ (by decide)) 3 ["pairs", "names", "periods"] rfl rfl (by decide +kernel) (by decide) fun w10 => ?_⟩
        have w11 := w10.fix 1
        have w12 := w11.fix 1
        have w13 := w12.fix 1
        have s7 := (w10.ext 1).trans ((w11.ext 1).trans (w12.ext 1))
        have s8 := s6.trans s7
        refine k _ _ w13.pu ⟨x, dx, tp, tn, td, tr, rfl, upd_same, ?_, s7 _ _ upd_same, ?_, ?_⟩
        · exact ⟨tp, ys', rfl, s8 _ _ (pu.ff _ _ upd_same), pd_mono (fun _ _ => (Rp.pair Rp.str Rp.int).mono (s4.trans (pu.ff.trans s8))) pd'⟩
        · exact (w12.ext 1) _ _ upd_same
        · exact ((w11.ext 1).trans (w12.ext 1)) _ _ upd_same
end
end TR

/-! part A5 -/
namespace TR
open PySem PySem.Spec PyProof.Rows L2 G
abbrev Steps : Type := List (Str × Int)
def redE (p e : Int) : Int := if 0 < p then e % p else e
def perOf (ks : Kinds) (z : Str) : Int := (ks.lookup z).getD 0
def nput (ks : Kinds) (kept : Steps) (z : Str) (e : Int) : Steps := if redE (perOf ks z) e = 0 then kept else kept ++ [(z, redE (perOf ks z) e)]
/-- one step more of a row -/
def nstep (ks : Kinds) (kept : Steps) (d : Str × Int) : Steps := match kept.getLast? with
  | none => nput ks kept d.1 d.2
  | some m => if m.1 = d.1 then nput ks kept.dropLast d.1 (d.2 + m.2) else nput ks kept d.1 d.2
theorem nstep_some {ks : Kinds} {kept : Steps} {d m : Str × Int} (h : kept.getLast? = some m) : nstep ks kept d = if m.1 = d.1 then nput ks kept.dropLast d.1 (d.2 + m.2) else nput ks kept d.1 d.2 := by
  unfold nstep
  rw [h]
def normal (ks : Kinds) (ss : Steps) : Steps := ss.foldl (nstep ks) []
theorem nput_len (ks : Kinds) (kept : Steps) (z : Str) (e : Int) : (nput ks kept z e).length ≤ kept.length + 1 := by
  unfold nput
  split
  · omega
  · simp
theorem nstep_len (ks : Kinds) (kept : Steps) (d : Str × Int) : (nstep ks kept d).length ≤ kept.length + 1 := by
  unfold nstep
  split
  · exact nput_len _ _ _ _
  · split
    · have := nput_len ks kept.dropLast d.1 (d.2 + (‹Str × Int› : Str × Int).2)
      simp at this ⊢
      omega
    · exact nput_len _ _ _ _
section
variable {P : Program} {w : World} {K : PySem.W.Frag} {mg : Str → Option Value} {base : Heap} {CT : Addr}
abbrev s_reduced : Stmt := top 25
abbrev N_reduced : List Str := ["turns", "name", "exponent", "period"]
abbrev P_reduced : List Str := ["turns", "name", "exponent"]
theorem sc_reduced : FnScope N_reduced P_reduced (defScope s_reduced) := ⟨rfl, rfl, rfl, by decide +kernel, rfl, by decide +kernel, by decide +kernel⟩
theorem bn_reduced : BindsNo "reduced" "reduced" s_reduced P_reduced := fun _ _ _ _ _ _ us hl => match us, hl with | [_, _, _], _ => rfl
def sp_reduced (C : Addr) : Sp := fun vs H Q _ => ∃ (v : V) (z : Str) (ks : Kinds) (e p : Int), vs = [v, .str z, .int e] ∧ (RTurns C).rel ks v H ∧ ks.lookup z = some p ∧ ∀ H', Same H H' → Q (.int (redE p e)) H'
theorem ok_reduced (m_period_of : Met P w K mg base 2 CT "period_of" (sp_Turns_period CT)) (F : FnF K mg "reduced" s_reduced []) : Cal P w K mg base 3 "reduced" (sp_reduced CT) := by
  refine F.cal sc_reduced bn_reduced (fun vs H Q E h => ?_) (fun f cdv A outer s H vs Q E hr h => ?_)
  · obtain ⟨v, z, ks, e, p, rfl, _⟩ := h
    rfl
  · obtain ⟨v, z, ks, e, p, rfl, r, hp, k⟩ := h
    obtain ⟨a, dx, tp, tn, td, tr, t⟩ := id r
    refine ⟨_, (pss_cons (ps_set (i := 3) sc_reduced.nd rfl (Or.inl rfl) (pe_m m_period_of hr (by decide) (pv 0) (pa_cons (pv 1) pa_nil) passL))
    (pss_one (ps_ret (pe_ifExp (pt_cmpR op_gt (pv 3) pe_int (nomark _)) (pe_op op_mod (pv 2) (pv 3)) (pv 2))))), ?_⟩
    refine ⟨_, rfl, a, dx, _, t.ev, t.ob, rfl, _, rfl, v, z, ks, p, rfl, r, hp, fun H1 s1 => ?_⟩
    refine ⟨_, rfl, _, _, rfl, rfl, _, rfl, ?_⟩
    by_cases h0 : p > 0
    · rw [decide_eq_true h0]
      have q := k H1 s1
      rw [show redE p e = e % p from if_pos h0] at q
      exact ⟨_, rfl, _, rfl, _, _, rfl, rfl, h0, q⟩
    · rw [decide_eq_false h0]
      have q := k H1 s1
      rw [show redE p e = e from if_neg h0] at q
      exact ⟨_, rfl, q⟩
abbrev s_normal_steps : Stmt := top 26
abbrev N_normal_steps : List Str := ["turns", "steps", "kept", "name", "exponent"]
abbrev P_normal_steps : List Str := ["turns", "steps"]
theorem sc_normal_steps : FnScope N_normal_steps P_normal_steps (defScope s_normal_steps) := ⟨rfl, rfl, rfl, by decide +kernel, rfl, by decide +kernel, by decide +kernel⟩
theorem bn_normal_steps : BindsNo "normal_steps" "normal_steps" s_normal_steps P_normal_steps := fun _ _ _ _ _ _ us hl => match us, hl with | [_, _], _ => rfl
def sp_normal_steps (C : Addr) : Sp := fun vs H Q _ => ∃ (F : Hp) (v u : V) (ks : Kinds) (ss : Steps), vs = [v, u] ∧ Same F H ∧ (RTurns C).rel ks v F ∧ RPairs.rel ss u F ∧ (∀ d ∈ ss, ∃ p, ks.lookup d.1 = some p) ∧ ss.length ≤ 10000 ∧
  ∀ r F' H', Pu F H F' H' → RPairs.rel (normal ks ss) r F' → Q r H'
theorem ok_normal_steps (c_reduced : Cal P w K mg base 3 "reduced" (sp_reduced CT)) (F : FnF K mg "normal_steps" s_normal_steps []) : Cal P w K mg base 4 "normal_steps" (sp_normal_steps CT) := by
  refine F.cal sc_normal_steps bn_normal_steps (fun vs H Q E h => ?_) (fun f cdv A outer s H vs Q E hr h => ?_)
  · obtain ⟨_, v, u, _, _, rfl, _⟩ := h
    rfl
  · obtain ⟨F, v, u, ks, ss, rfl, sF, r, ⟨a, ps, rfl, ha, pd⟩, hin, hlen, k⟩ := h
    obtain ⟨ta, dx, tp, tn, td, tr, t⟩ := id r
    have hl : ps.length = ss.length := pd_len pd
    refine ⟨_, (pss_cons (ps_set (i := 2) sc_normal_steps.nd rfl (Or.inl rfl) (pe_lst pa_nil))
    (pss_cons (ps_for (passes_of rfl) rfl (k_il (pv 1) (K := K)) (k_tup (n := 2) rfl (pgs_cons (pg_name (i := 3) sc_normal_steps.nd rfl (Or.inl rfl)) (pgs_cons (pg_name (i := 4) sc_normal_steps.nd rfl (Or.inl rfl)) pgs_nil)) (K := K))
    (pss_cons (ps_if (PW.pt (pw_and (pt_truth (pv 2) (by intro _; rfl)) (pw_and1 (pt_cmpR (op_eqU hr (K := K)) (pe_ix (k_ix (K := K)) (pe_ix (k_ix (K := K)) (pv 2) (pe_un un_neg pe_int) (fun _ _ => rfl)) pe_int (fun _ _ => rfl)) (pv 3) (nomark _))))) (pss_one (ps_set (i := 4) sc_normal_steps.nd rfl (Or.inl rfl) (pe_op op_addU (pv 4) (pe_ix (k_ix (K := K)) (pe_bm0 PySem.F.plainAttrs_list PySem.F.slot_list_pop PySem.F.type_list_pop mt_pop (pv 2)) pe_int (fun _ _ => rfl))))) pss_nil)
    (pss_cons (ps_set (i := 4) sc_normal_steps.nd rfl (Or.inl rfl) (pe_c c_reduced hr (by decide) (pa_cons (pv 0) (pa_cons (pv 3) (pa_cons (pv 4) pa_nil))) passL))
    (pss_one (ps_if (pt_cmpR (op_neU hr (K := K)) (pv 4) pe_int (nomark _)) (pss_one (ps_expr (pe_bm PySem.F.plainAttrs_list PySem.F.slot_list_append PySem.F.type_list_append mt_append (pv 2) (pa_cons (pe_tup (pa_cons (pv 3) (pa_cons (pv 4) pa_nil))) pa_nil)))) pss_nil)))))
    (pss_one (ps_ret (pv 2))))), ?_⟩
    refine ⟨sz (n := 0) (by decide), fun D hD => ?_⟩
    refine ⟨_, rfl, a, rfl, ⟨_, SqL.of ((Same.new hD) _ _ (sF _ _ ha))⟩, ?_⟩
    have w0 : Own F H F (upd H D (.lst [])) [(D, .lst [])] := (Own.nil (Pu.refl sF)).new hD
    refine for_it (walk_list (xs := ps)) (fun i σ H' => ∃ (F' : Hp) (n p : Option V) (ys : List V), Own F H F' H' [(D, .lst ys)] ∧ Paired (fun d x => (Rp.pair Rp.str Rp.int).rel d x F') ((ss.take i).foldl (nstep ks) []) ys ∧ ((ss.take i).foldl (nstep ks) []).length ≤ i ∧
        σ = [some v, some (.ref a), some (.ref D), n, p]) ⟨F, none, none, [], w0, .nil, Nat.le_refl _, rfl⟩ (fun i σ H' _ ⟨F', n, p, ys, w1, _⟩ => SqL.of (w1.sub _ _ (w1.ff _ _ ha))) ?_ ?_
    · rintro i y σ H' H'' hi ⟨F', n0, p0, ys, w1, pd1, len1, rfl⟩ ⟨e1, hy⟩
      subst e1
      obtain ⟨d, t0, z, u, hd, rfl, ht, rfl, rfl⟩ := pair_at pd hy
      obtain ⟨p, hp⟩ := hin d (List.mem_of_getElem? hd)
      rw [take_snoc hd, List.foldl_append]
      refine ⟨t0, _, rfl, SqT.of (w1.sub _ _ (w1.ff _ _ ht)), rfl, _, _, rfl, _, _, rfl, rfl, ?_⟩
      refine sj (R := fun σ2 H2 => ∃ (F2 : Hp) (ys2 : List V) (ks2 : Steps) (e : Int), σ2 = [some v, some (.ref a), some (.ref D), some (.str d.1), some (.int e)] ∧ Own F H F2 H2 [(D, .lst ys2)] ∧ Paired (fun d x => (Rp.pair Rp.str Rp.int).rel d x F2) ks2 ys2 ∧ ks2.length ≤ i ∧ nstep ks ((ss.take i).foldl (nstep ks) []) d = nput ks ks2 d.1 e) ?_ (fun fin => ?_)
      · rintro σ2 H2 ⟨F2, ys2, ks2, e, rfl, w2, pd2, len2, en⟩
        refine ⟨_, rfl, _, rfl, _, rfl, v, d.1, ks, e, p, rfl, (RTurns CT).mono (w2.ff.trans w2.sub) r, hp, fun H3 s3 => ?_⟩
        have w3 := w2.tmp s3
        refine ⟨_, rfl, .inl ⟨rfl, _, rfl, ?_⟩⟩
        have ep : perOf ks d.1 = p := by unfold perOf; rw [hp]; rfl
        by_cases h0 : redE p e = 0
        · rw [decide_eq_true (congrArg V.int h0)]
          refine ⟨F2, _, _, ys2, w3, ?_, ?_, rfl⟩
          · show Paired _ (nstep ks _ d) _
            rw [en, nput, ep, if_pos h0]
            exact pd2
          · show (nstep ks _ d).length ≤ _
            rw [en, nput, ep, if_pos h0]
            omega
        · rw [decide_eq_false (fun q => h0 (V.int.inj q))]
          refine ⟨_, rfl, ?_⟩
          refine ⟨.inl ⟨rfl, _, SqL.of (w3.at 0)⟩, _, rfl, _, rfl, sz (n := 2) (by decide), fun q hq => ?_⟩
          have w4 := w3.add (o := .tup [.str d.1, .int (redE p e)]) hq
          refine ⟨D, ys2, _, rfl, rfl, w4.at 0, szl (by have := pd_len pd2; omega), ?_⟩
          have w5 := w4.mut (o' := .lst (ys2 ++ [.ref q])) 0
          refine ⟨_, _, _, _, w5, ?_, ?_, rfl⟩
          · show Paired _ (nstep ks _ d) _
            rw [en, nput, ep, if_neg h0]
            exact pd_snoc (pd_mono (fun _ _ => (Rp.pair Rp.str Rp.int).mono (Same.new (w3.sub.free hq))) pd2) ⟨q, _, _, rfl, upd_same, rfl, rfl⟩
          · show (nstep ks _ d).length ≤ _
            rw [en, nput, ep, if_neg h0]
            simp; omega
      · refine ⟨_, rfl, _, .inl ⟨_, SqL.of (w1.at 0), rfl⟩, ?_⟩
        cases hk : ((ss.take i).foldl (nstep ks) []).getLast? with
        | none =>
          have hn := List.getLast?_eq_none_iff.mp hk
          have hy0 : ys = [] := by rw [hn] at pd1; cases pd1; rfl
          subst hy0
          refine fin _ _ ⟨F', [], [], d.2, rfl, w1, .nil, Nat.zero_le _, ?_⟩
          rw [hn]
          rfl
        | some m =>
          obtain ⟨x, hx, c, y1, y2, rfl, hc, rfl, rfl⟩ := pd_last pd1 hk
          have hne : ys ≠ [] := by intro q; subst q; cases hx
          rw [show (!ys.isEmpty) = true by cases ys with
            | nil => exact absurd rfl hne
            | cons _ _ => rfl]
          refine ⟨_, rfl, _, rfl, .inl ⟨D, ys, _, _, rfl, rfl, SqL.of (w1.at 0), atI_last hx, ?_⟩⟩
          refine .inr (.inl ⟨c, _, 0, _, rfl, rfl, SqT.of (w1.sub _ _ hc), atI_nat rfl, ?_⟩)
          refine ⟨_, rfl, .inl ⟨rfl, _, rfl, ?_⟩⟩
          by_cases h0 : m.1 = d.1
          · rw [decide_eq_true (congrArg V.str h0)]
            refine ⟨_, rfl, _, rfl, .inl ⟨rfl, _, SqL.of (w1.at 0)⟩, D, ys, _, rfl, rfl, w1.at 0, by rw [← List.getLast?_eq_getElem?]; exact hx, ?_⟩
            have w2 := w1.mut (o' := .lst ys.dropLast) 0
            refine .inr (.inl ⟨c, _, 1, _, rfl, rfl, SqT.of (w2.sub _ _ hc), atI_nat rfl, ?_⟩)
            refine .inl ⟨_, _, rfl, rfl, ?_⟩
            refine fin _ _ ⟨F', _, _, _, rfl, w2, pd_dropLast pd1, by simp; omega, ?_⟩
            rw [nstep_some hk]
            exact if_pos h0
          · rw [decide_eq_false (fun q => h0 (V.str.inj q))]
            refine fin _ _ ⟨F', ys, _, d.2, rfl, w1, pd1, len1, ?_⟩
            rw [nstep_some hk]
            exact if_neg h0
    · rintro σ H' ⟨F', n0, p0, ys, w1, pd1, len1, rfl⟩
      rw [hl, take_all] at pd1
      refine ⟨_, rfl, k (.ref D) _ _ (w1.fix 0).pu ⟨D, ys, rfl, upd_same, pd_mono (fun _ _ => (Rp.pair Rp.str Rp.int).mono (w1.ext 0)) pd1⟩⟩
end
end TR

/-! part A6 -/
namespace TR
open PySem PySem.Spec PyProof.Rows L2 G
def min2 (i j : Int) : Int := if j < i then j else i
def abs2 (i : Int) : Int := if i < 0 then -i else i
def b2i (b : Bool) : Int := if b = true then 1 else 0
def keyOf (ks : Kinds) (d : Str × Int) : Int × Int × Int :=
  if 0 < perOf ks d.1 then (((rankOf ks d.1).getD 0 : Nat), min2 d.2 (perOf ks d.1 - d.2), b2i !decide (V.int d.2 = V.int (min2 d.2 (perOf ks d.1 - d.2))))
  else (((rankOf ks d.1).getD 0 : Nat), abs2 d.2, b2i (decide (d.2 < 0)))
def RTri : Rp (Int × Int × Int) := ⟨fun d v F => ∃ a, v = .ref a ∧ F a = some (.tup [.int d.1, .int d.2.1, .int d.2.2]), fun s ⟨a, e, h⟩ => ⟨a, e, s _ _ h⟩⟩
abbrev RStep : Rp (Str × Int) := Rp.pair Rp.str Rp.int
structure RowD where
  ks : Kinds
  ss : Steps
structure RowAt (CT CR : Addr) (d : RowD) (v : V) (F : Hp) (a dx ts tk tq tp : Addr) (tv : V) : Prop where
  ev : v = .ref a
  ob : F a = some (.ins CR dx [("turns", tv), ("steps", .ref ts), ("key", .ref tk)])
  tu : (RTurns CT).rel d.ks tv F
  st : (Rp.tup RStep).rel d.ss (.ref ts) F
  ke : F tk = some (.tup [.int d.ss.length, .ref tq, .ref tp])
  kq : (Rp.tup RTri).rel (d.ss.map (keyOf d.ks)) (.ref tq) F
  kp : RKinds.rel d.ks (.ref tp) F
def RRow (CT CR : Addr) : Rp RowD := ⟨fun d v F => ∃ a dx ts tk tq tp tv, RowAt CT CR d v F a dx ts tk tq tp tv,
  fun s ⟨a, dx, ts, tk, tq, tp, tv, h⟩ => ⟨a, dx, ts, tk, tq, tp, tv, h.ev, s _ _ h.ob, (RTurns CT).mono s h.tu, (Rp.tup RStep).mono s h.st, s _ _ h.ke, (Rp.tup RTri).mono s h.kq, RKinds.mono s h.kp⟩⟩
section
variable {P : Program} {w : World} {K : PySem.W.Frag} {mg : Str → Option Value} {base : Heap} {CT CR : Addr}
abbrev s_step_key : Stmt := top 27
abbrev N_step_key : List Str := ["turns", "step", "name", "exponent", "period", "clicks"]
abbrev P_step_key : List Str := ["turns", "step"]
theorem sc_step_key : FnScope N_step_key P_step_key (defScope s_step_key) := ⟨rfl, rfl, rfl, by decide +kernel, rfl, by decide +kernel, by decide +kernel⟩
theorem bn_step_key : BindsNo "step_key" "step_key" s_step_key P_step_key := fun _ _ _ _ _ _ us hl => match us, hl with | [_, _], _ => rfl
def sp_step_key (C : Addr) : Sp := fun vs H Q _ => ∃ (F : Hp) (v u : V) (ks : Kinds) (d : Str × Int), vs = [v, u] ∧ Same F H ∧ (RTurns C).rel ks v F ∧ RStep.rel d u F ∧ (∃ p, ks.lookup d.1 = some p) ∧
  ∀ r F' H', Pu F H F' H' → RTri.rel (keyOf ks d) r F' → Q r H'
theorem ok_step_key (B : Bt mg) (m_period_of : Met P w K mg base 2 CT "period_of" (sp_Turns_period CT)) (m_rank : Met P w K mg base 2 CT "rank" (sp_Turns_rank CT)) (F : FnF K mg "step_key" s_step_key []) : Cal P w K mg base 3 "step_key" (sp_step_key CT) := by
  refine F.cal sc_step_key bn_step_key (fun vs H Q E h => ?_) (fun f cdv A outer s H vs Q E hr h => ?_)
  · obtain ⟨_, v, u, _, _, rfl, _⟩ := h
    rfl
  · obtain ⟨F, v, u, ks, d, rfl, sF, r, ⟨t0, y1, y2, rfl, ht, rfl, rfl⟩, ⟨p, hp⟩, k⟩ := h
    obtain ⟨a, dx, tp, tn, td, tr, t⟩ := id r
    obtain ⟨j, hj⟩ := rank_some hp
    refine ⟨_, (pss_cons (ps_asg (pv 1) (k_tup (n := 2) rfl (pgs_cons (pg_name (i := 2) sc_step_key.nd rfl (Or.inl rfl)) (pgs_cons (pg_name (i := 3) sc_step_key.nd rfl (Or.inl rfl)) pgs_nil)) (K := K)))
    (pss_cons (ps_set (i := 4) sc_step_key.nd rfl (Or.inl rfl) (pe_m m_period_of hr (by decide) (pv 0) (pa_cons (pv 2) pa_nil) passL))
    (pss_cons (ps_if (pt_cmpR op_gt (pv 4) pe_int (nomark _)) (pss_cons (ps_set (i := 5) sc_step_key.nd rfl (Or.inl rfl) (pe_callB (call_min2 rfl) (by rfl) B.min (by decide +kernel) (pa_cons (pe_callTy call_int1 (by rfl) B.int (by decide +kernel) (pa_cons (pv 3) pa_nil)) (pa_cons (pe_op op_sub (pv 4) (pv 3)) pa_nil))))
    (pss_one (ps_ret (pe_tup (pa_cons (pe_m m_rank hr (by decide) (pv 0) (pa_cons (pv 2) pa_nil) passL) (pa_cons (pv 5) (pa_cons (pe_callTy call_int1 (by rfl) B.int (by decide +kernel) (pa_cons (pe_cmpR (op_neU hr (K := K)) (pv 3) (pv 5) (nomark _)) pa_nil)) pa_nil))))))) pss_nil)
    (pss_one (ps_ret (pe_tup (pa_cons (pe_m m_rank hr (by decide) (pv 0) (pa_cons (pv 2) pa_nil) passL) (pa_cons (pe_callB call_abs (by rfl) B.abs (by decide +kernel) (pa_cons (pv 3) pa_nil)) (pa_cons (pe_callTy call_int1 (by rfl) B.int (by decide +kernel) (pa_cons (pe_cmpR op_lt (pv 3) pe_int (nomark _)) pa_nil)) pa_nil))))))))), ?_⟩
    refine ⟨_, rfl, t0, _, rfl, SqT.of (sF _ _ ht), rfl, _, _, rfl, _, _, rfl, rfl, ?_⟩
    refine ⟨_, rfl, a, dx, _, t.ev, sF _ _ t.ob, rfl, _, rfl, v, d.1, ks, p, rfl, (RTurns CT).mono sF r, hp, fun H1 s1 => ?_⟩
    have sF1 := sF.trans s1
    refine ⟨_, rfl, _, _, rfl, rfl, _, rfl, ?_⟩
    have ep : perOf ks d.1 = p := by unfold perOf; rw [hp]; rfl
    by_cases h0 : p > 0
    · rw [decide_eq_true h0]
      refine ⟨_, rfl, .inl ⟨_, rfl, _, rfl, _, rfl, _, _, rfl, rfl, _, _, rfl, ?_⟩⟩
      refine ⟨_, rfl, a, dx, _, t.ev, sF1 _ _ t.ob, rfl, _, rfl, v, d.1, ks, j, rfl, (RTurns CT).mono sF1 r, ⟨p, hp⟩, hj, fun H2 s2 => ?_⟩
      have sF2 := sF1.trans s2
      refine ⟨_, rfl, _, rfl, _, rfl, .inl ⟨rfl, .inr ⟨_, rfl, ?_⟩⟩⟩
      refine ⟨sz (n := 3) (by decide), fun q hq => k _ (upd F q _) _ ⟨(s1.trans s2).trans (Same.new hq), (Grow.tmp sF (s1.trans s2)).trans (s1.trans s2) (Grow.add sF2 hq)⟩ ⟨q, rfl, ?_⟩⟩
      rw [upd_same, keyOf, ep, if_pos h0, hj]
      rfl
    · rw [decide_eq_false h0]
      refine ⟨_, rfl, a, dx, _, t.ev, sF1 _ _ t.ob, rfl, _, rfl, v, d.1, ks, j, rfl, (RTurns CT).mono sF1 r, ⟨p, hp⟩, hj, fun H2 s2 => ?_⟩
      have sF2 := sF1.trans s2
      refine ⟨_, rfl, _, rfl, _, rfl, _, _, rfl, rfl, .inr ⟨_, rfl, ?_⟩⟩
      refine ⟨sz (n := 3) (by decide), fun q hq => k _ (upd F q _) _ ⟨(s1.trans s2).trans (Same.new hq), (Grow.tmp sF (s1.trans s2)).trans (s1.trans s2) (Grow.add sF2 hq)⟩ ⟨q, rfl, ?_⟩⟩
      rw [upd_same, keyOf, ep, if_neg h0, hj]
      rfl
end
end TR

/-! part A7 -/
namespace TR
open PySem PySem.Spec PyProof.Rows L2 G
theorem nput_sub {ks : Kinds} {kept : Steps} {z : Str} {e : Int} {d : Str × Int} (h : d ∈ nput ks kept z e) : d ∈ kept ∨ d.1 = z := by
  unfold nput at h
  split at h
  · exact .inl h
  · simp at h
    rcases h with h | h
    · exact .inl h
    · exact .inr (by rw [h])
theorem nstep_sub {ks : Kinds} {kept : Steps} {d0 d : Str × Int} (h : d ∈ nstep ks kept d0) : d ∈ kept ∨ d.1 = d0.1 := by
  unfold nstep at h
  split at h
  · exact nput_sub h
  · split at h
    · rcases nput_sub h with h | h
      · exact .inl (List.dropLast_subset _ h)
      · exact .inr h
    · exact nput_sub h
theorem normal_sub {ks : Kinds} {ss : Steps} {d : Str × Int} (h : d ∈ normal ks ss) : ∃ d0 ∈ ss, d.1 = d0.1 := by
  have : ∀ (ss kept : Steps), d ∈ ss.foldl (nstep ks) kept → d ∈ kept ∨ ∃ d0 ∈ ss, d.1 = d0.1 := by
    intro ss
    induction ss with
    | nil => intro kept h; exact .inl h
    | cons a r ih =>
      intro kept h
      rcases ih _ h with h | ⟨d0, h1, h2⟩
      · rcases nstep_sub h with h | h
        · exact .inl h
        · exact .inr ⟨a, by simp, h⟩
      · exact .inr ⟨d0, by simp [h1], h2⟩
  rcases this ss [] h with h | h
  · cases h
  · exact h
theorem normal_len {ks : Kinds} {ss : Steps} : (normal ks ss).length ≤ ss.length := by
  have : ∀ (ss kept : Steps), (ss.foldl (nstep ks) kept).length ≤ kept.length + ss.length := by
    intro ss
    induction ss with
    | nil => intro kept; exact Nat.le_refl _
    | cons a r ih =>
      intro kept
      have h1 := ih (nstep ks kept a)
      have h2 := nstep_len ks kept a
      simp only [List.foldl_cons, List.length_cons]
      omega
  have q := this ss []
  rw [List.length_nil, Nat.zero_add] at q
  exact q
section
variable {P : Program} {w : World} {K : PySem.W.Frag} {mg : Str → Option Value} {base : Heap} {CT CR : Addr}
abbrev s_Row_init : Stmt := inClass (top 29) 1
abbrev N_Row_init : List Str := ["self", "turns", "steps", "name", "exponent", "keys", "step"]
abbrev P_Row_init : List Str := ["self", "turns", "steps"]
theorem sc_Row_init : FnScope N_Row_init P_Row_init (defScope s_Row_init) := ⟨rfl, rfl, rfl, by decide +kernel, rfl, by decide +kernel, by decide +kernel⟩
theorem bn_Row_init (T : Addr) (kV doc pm : Value) (an : Option Addr) (cdv ct : Value) (us its : List Value) (hu : us.length = P_Row_init.length) (hi : its.length = 1) :
    ∃ k, bindArgs (PySem.W.fnOf "__init__" "Row.__init__" (defArgs s_Row_init) (defBody s_Row_init) (defScope s_Row_init) (.ref T) kV doc pm an cdv ct) ⟨us, []⟩ = seqItems? (.ref T) >>= k ∧ k (some its.toArray) = pure (P_Row_init.zip (us ++ its.drop 1)) :=
  match us, hu, its, hi with
  | [_, _, _], _, [_], _ => ⟨_, rfl, rfl⟩
def sp_Row_init (CT CR : Addr) : Sp := fun vs H Q _ => ∃ (F H0 : Hp) (x dx : Addr) (v u : V) (ks : Kinds) (ss : Steps), vs = [.ref x, v, u] ∧ New CR F H0 H x dx ∧ (RTurns CT).rel ks v F ∧ RPairs.rel ss u F ∧ (∀ d ∈ ss, ∃ p, ks.lookup d.1 = some p) ∧ ss.length ≤ 10000 ∧
  ∀ F' H', Pu F H0 F' H' → (RRow CT CR).rel ⟨ks, normal ks ss⟩ (.ref x) F' → Q .non H'
theorem ok_Row_init (B : Bt mg) (T : KlF K mg "Turns" CT ["pairs", "names", "periods", "ranks"]) (R : KlF K mg "Row" CR ["turns", "steps", "key"]) (m_in : Met P w K mg base 1 CT "__contains__" (sp_Turns_in K CT)) (c_normal_steps : Cal P w K mg base 4 "normal_steps" (sp_normal_steps CT)) (c_step_key : Cal P w K mg base 3 "step_key" (sp_step_key CT))
    {dv : V} (F : MkF K mg "Row" CR "Row.__init__" s_Row_init [dv]) : Mak P w K mg base 5 "Row" CR (sp_Row_init CT CR) := by
  refine F.makD sc_Row_init (by simp) bn_Row_init (fun vs H Q E h => ?_) (fun f cdv A outer s H vs Q E hr h => ?_)
  · obtain ⟨_, _, _, _, _, _, _, _, rfl, _⟩ := h
    rfl
  · obtain ⟨F, H0, x, dx, v, u, ks, ss, rfl, nw, r, ⟨a, ps, rfl, ha, pd⟩, hin, hlen, k⟩ := h
    have w0 := nw.own
    obtain ⟨ta, tdx, tp, tn, td, tr, t⟩ := id r
    have hl : ps.length = ss.length := pd_len pd
    refine ⟨_, (pss_cons (ps_for (passes_of rfl) rfl (k_il (pv 2) (K := K)) (k_tup (n := 2) rfl (pgs_cons (pg_name (i := 3) sc_Row_init.nd rfl (Or.inl rfl)) (pgs_cons (pg_name (i := 4) sc_Row_init.nd rfl (Or.inl rfl)) pgs_nil)) (K := K))
    (pss_one (ps_if (pt_cmpR (op_niO m_in hr (by decide) passL) (pv 3) (pv 1) (by rfl)) (pss_one ps_never) pss_nil)))
    (pss_cons (ps_fld (pv 0) (pv 1) rfl)
    (pss_cons (ps_fld (pv 0) (pe_callTy (k_tuple (K := K)) (by rfl) B.tuple (by decide +kernel) (pa_cons (pe_c c_normal_steps hr (by decide) (pa_cons (pv 1) (pa_cons (pv 2) pa_nil)) passL) pa_nil)) rfl)
    (pss_cons (ps_set (i := 5) sc_Row_init.nd rfl (Or.inl rfl) (pe_callTy (k_tuple (K := K)) (by rfl) B.tuple (by decide +kernel) (pa_cons (pe_lc (own := [("step", 6)]) rfl sc_Row_init.nd (k_it (k_fld (pv 0) (K := K)) (K := K)) (blkOk_by (N := N_Row_init) (sc := defScope s_Row_init) (by decide +kernel)) (fun _ _ _ _ _ => (pg_name (i := 6) sc_Row_init.nd rfl (Or.inl rfl))) (fun _ _ _ _ _ => pts_nil) (fun _ _ _ _ _ => (pe_c c_step_key hr (by decide) (pa_cons (pv 1) (pa_cons (pv 6) pa_nil)) passL))) pa_nil)))
    (pss_one (ps_fld (pv 0) (pe_tup (pa_cons (pe_callB (call_lenU (K := K)) (by rfl) B.len (by decide +kernel) (pa_cons (k_fld (pv 0) (K := K)) pa_nil)) (pa_cons (pv 5) (pa_cons (k_fld (pv 1) (K := K)) pa_nil)))) rfl)))))), ?_⟩
    refine ⟨_, rfl, a, rfl, ⟨_, SqL.of (w0.sub _ _ ha)⟩, ?_⟩
    refine for_it (walk_list (xs := ps)) (fun i σ H' => ∃ (n p : Option V), Own F H0 F H' [(x, .ins CR dx [])] ∧ σ = [some (.ref x), some v, some (.ref a), n, p, none, none]) ⟨none, none, w0, rfl⟩ (fun i σ H' _ ⟨n, p, w1, _⟩ => SqL.of (w1.sub _ _ ha)) ?_ ?_
    · rintro i y σ H' H'' hi ⟨n0, p0, w1, rfl⟩ ⟨e1, hy⟩
      subst e1
      obtain ⟨d, t0, z, u, hd, rfl, ht, rfl, rfl⟩ := pair_at pd hy
      obtain ⟨p, hp⟩ := hin d (List.mem_of_getElem? hd)
      refine ⟨t0, _, rfl, SqT.of (w1.sub _ _ ht), rfl, _, _, rfl, _, _, rfl, rfl, ?_⟩
      refine ⟨_, rfl, _, rfl, ta, tdx, _, t.ev, w1.sub _ _ t.ob, v, .str d.1, ks, rfl, (RTurns CT).mono w1.sub r, .inl ⟨d.1, rfl, fun H4 s4 => ?_⟩⟩
      rw [hp]
      exact ⟨_, rfl, _, rfl, some (.str d.1), some (.int d.2), w1.tmp s4, rfl⟩
    · rintro σ H' ⟨n0, p0, w1, rfl⟩
      refine ⟨_, rfl, _, rfl, st_fld w1 R.cl (R.no _ (by decide)) 0 [] rfl rfl (by decide +kernel) (by decide) fun w2 => ?_⟩
      refine ⟨_, rfl, _, rfl, F, v, .ref a, ks, ss, rfl, w2.sub, r, ⟨a, ps, rfl, ha, pd⟩, hin, hlen, fun q F3 H3 pu3 rq => ?_⟩
      have w3 := w2.step pu3
      obtain ⟨b, bs, rfl, hb, pb⟩ := rq
      refine ⟨b, bs, rfl, .inl ⟨SqL.of (w3.sub _ _ hb), fun ts hts => ?_⟩⟩
      have w4 := w3.add (o := .tup bs) hts
      have s4 := Same.new (o := .tup bs) (w3.sub.free hts)
      refine ⟨_, rfl, st_fld w4 R.cl (R.no _ (by decide)) 0 ["turns"] rfl rfl (by decide +kernel) (by decide) fun w5 => ?_⟩
      have pb4 := pd_mono (fun _ _ => RStep.mono s4) pb
      have hbl : bs.length = (normal ks ss).length := pd_len pb
      have hnl : (normal ks ss).length ≤ ss.length := normal_len
      -- keys
      refine ⟨_, rfl, x, CR, dx, _, _, rfl, w5.at 0, R.cl, R.no _ (by decide), rfl, ts, rfl, ⟨_, SqT.of (w5.sub _ _ upd_same)⟩, fun D hD => ?_⟩
      have hD' := hD
      refine go_lc (F1 := upd F3 ts (.tup bs)) (walk_tup (xs := bs)) RTri (fun i => ((normal ks ss).map (keyOf ks)).take i) (by omega) w5.sub hD (by simp) (fun F5 H5 pu => SqT.of (pu.sub _ _ (pu.ff _ _ upd_same))) (fun i y F5 H5 l H'' N hi pu fD5 hl5 hy kt kf => ?_) (fun F5 H5 zs pu fD5 hl5 pd5 => ?_)
      · obtain ⟨e1, hy⟩ := hy
        subst e1
        obtain ⟨d, hd, rd⟩ := pd_get pb4 hy
        obtain ⟨d0, hd0, e0⟩ := normal_sub (List.mem_of_getElem? hd)
        refine ⟨rfl, _, rfl, _, rfl, F5, v, y, ks, d, rfl, pu.sub, (RTurns CT).mono ((w5.ff).trans pu.ff) r, RStep.mono pu.ff rd, by rw [e0]; exact hin d0 hd0, fun q F6 H6 pu6 rq => ?_⟩
        exact kt q H6 F6 (keyOf ks d) pu6 rq (take_snoc (by rw [List.getElem?_map, hd]; rfl))
      · rw [hbl, show (normal ks ss).length = ((normal ks ss).map (keyOf ks)).length by simp, take_all] at pd5
        have w6 := w5.lc hD' pu fD5 hl5
        refine ⟨D, _, rfl, .inl ⟨SqL.of hl5, fun tq htq => ?_⟩⟩
        have w7 := w6.add (o := .tup zs) htq
        have s7 := Same.new (o := .tup zs) (w6.sub.free htq)
        -- self.key
        refine ⟨_, rfl, x, CR, dx, _, _, rfl, w7.at 1, R.cl, R.no _ (by decide), rfl, .inl ⟨ts, bs, rfl, .inr (SqT.of (w7.sub _ _ (s7 _ _ (pu.ff _ _ upd_same)))), ?_⟩⟩
        refine ⟨_, rfl, _, rfl, ta, CT, tdx, _, _, t.ev, w7.sub _ _ (w7.ff _ _ t.ob), T.cl, T.no _ (by decide), rfl, sz (n := 3) (by decide), fun tk htk => ?_⟩
        have w8 := w7.add (o := .tup [.int bs.length, .ref tq, .ref tp]) htk
        have s8 := Same.new (o := .tup [.int bs.length, .ref tq, .ref tp]) (w7.sub.free htk)
        refine ⟨_, rfl, st_fld w8 R.cl (R.no _ (by decide)) 1 ["turns", "steps"] rfl rfl (by decide +kernel) (by decide) fun w9 => ?_⟩
        have w10 := w9.fix 1
        have s10 := w9.ext 1
        refine k _ _ w10.pu ⟨x, dx, ts, tk, tq, tp, v, ?_⟩
        exact { ev := rfl, ob := upd_same, tu := (RTurns CT).mono w10.ff r,
                st := (Rp.tup RStep).mono (pu.ff.trans (s7.trans (s8.trans s10))) ⟨ts, bs, rfl, upd_same, pb4⟩,
                ke := by rw [← hbl]; exact s10 _ _ upd_same,
                kq := (Rp.tup RTri).mono (s8.trans s10) ⟨tq, zs, rfl, upd_same, pd_mono (fun _ _ => RTri.mono s7) pd5⟩,
                kp := RKinds.mono w10.ff t.pr }
end
end TR

/-! part SetL -/
/-! set(xs) of a list of whole numbers: what the library has for a tuple of them, here for a list. -/
namespace G
open PySem PySem.Spec PyProof.Rows L2
section
variable {P : Program} {w : World} {A : Around} {E : Value → Shared → Prop} {s : Shared}
abbrev nul (w : World) : Obj := { cls := .type "set", dict := none, data := .set #[] 0 (.fresh 0 0 (!w.params.followText "set-order")) }
abbrev hp1 (w : World) (s : Shared) : Heap := s.heap.push (nul w)
theorem set_of_list {l : Addr} {its : Array Value} (ks : List Int) {Q : Value → Shared → Prop} (quiet : A.handled = none) (isL : s.heap.IsList l its) (are : IntsAre its.toList ks) (few : ks.length + 1 < scanBound)
    (go : ∀ (h2 : Heap) (tk n : Nat), SetR w h2 s.heap.objs.size (fun j => decide (j ∈ ks)) n → n ≤ ks.length → (∀ b o, s.heap.get? b = some o → h2.get? b = some o) →
      Q (.ref s.heap.objs.size) { s with heap := h2, toks := tk }) : wpAny (model P w) A (call (.type "set") [.ref l]) Q E s := by
  have hz : its.size = ks.length := (Array.length_toList (xs := its)).symm.trans are.length
  obtain ⟨c, tl, m1⟩ := F.called_set.mro
  have m2 := F.called_set.made; have m3 := F.called_set.sub
  refine wpAny_call (codeAny_of_tree ?_); show wpAny _ _ (callAny (.type "set") _) _ _ _
  refine wpAny_pure ⟨Code.quiet_builtin _ (by decide +kernel), codeAny_builtin F.entry_type_call ?_⟩; rw [Around.under_plain (weight_type_call_type "set" [.ref l] []) rfl]
  have m4 := F.called_set.notType; have m5 := F.called_set.canCreate; have m6 := F.typeCall_set_1 (.ref l)
  repeat (any_goals (first | assumption | wp_step))
  refine codeAny_mono (code_set_led1 (.ref l) (E := E) (Q₁ := fun x z => x = .ref s.heap.objs.size ∧ z = { s with heap := hp1 w s }) ⟨rfl, rfl⟩) fun r z hr => ?_
  match r, hr with
  | .error e, hr => exact hr
  | .ok (.ret x), hr =>
    obtain ⟨rfl, rfl⟩ := hr
    have at1 : (hp1 w s).get? s.heap.objs.size = some (nul w) := Heap.get?_push_size _ rfl
    have ty1 : Shared.TypeIs { s with heap := hp1 w s } (.ref s.heap.objs.size) "set" := ⟨_, at1, rfl⟩
    have m7 := F.called_set.init.lookup; have m8 := F.called_set.init.bind (.ref s.heap.objs.size)
    repeat (any_goals (first | assumption | wp_step))
    refine codeAny_mono (codeAny_call_builtin (R := wants (fun r z => r = .none ∧ ∃ h2 tk n, z = { s with heap := h2, toks := tk } ∧ SetR w h2 s.heap.objs.size (fun j => decide (j ∈ ks)) n ∧ n ≤ ks.length ∧ (∀ b o, s.heap.get? b = some o → h2.get? b = some o)) E)
      F.called_set.init.plain F.entry_set_init (check_set_init_1 ty1 ?_)) fun r z hr => ?_
    · obtain ⟨⟨oc, od, oa, os⟩, ho, hc, nl, hd⟩ := isL
      simp only at hc hd; subst hc; subst hd
      have ho1 : (hp1 w s).get? l = some { cls := .type "list", dict := od, data := .seq its nl, slots := os } := Heap.get?_push_of_some _ ho
      have m9 := F.sub_list_set; have m10 := F.sub_list_frozenset; have m11 : (Value.type "list" == Value.type "dict") = false := by decide
      have isL1 : (hp1 w s).IsList l its := ⟨_, ho1, rfl, nl, rfl⟩
      unfold Builtin.«set.__init__» noKeywords Builtin.Frozenset.updateFrom
      generalize ePI : pyIter = PI; wp_walk; subst ePI
      refine wpAny_pyIter_list isL1 (wpAny_bind (wpAny_runValue ?_))
      have lt : l < s.heap.objs.size := Heap.lt_size ho
      have q1 : A.in1.in1.in1.handled = none := by simp [quiet]
      have z1 : (hp1 w s).objs.size = s.heap.objs.size + 1 := Heap.size_push ..
      have neI : l ≠ (hp1 w s).objs.size := by rw [z1]; exact Nat.ne_of_lt (Nat.lt_succ_of_lt lt)
      have nin : s.heap.objs.size ∉ [(hp1 w s).objs.size, l] := by
        intro h; simp only [List.mem_cons, List.not_mem_nil, or_false] at h
        rcases h with h | h
        · rw [z1] at h; exact Nat.ne_of_lt (Nat.lt_succ_self _) h
        · exact Nat.ne_of_gt lt h
      have val : ∀ (i : Nat) (v : Value), its[i]? = some v → ∃ k t, ks[i]? = some k ∧ v = .int k t := fun i v hv => by
        have hi : i < ks.length := by have := (Array.getElem?_eq_some_iff.mp hv).1; omega
        obtain ⟨t, e⟩ := PyProof.Rows.IntsAre.int_at are i v (by rw [Array.getElem?_toList]; exact hv)
        exact ⟨ks[i], t, List.getElem?_eq_getElem hi, by rw [e, List.getD_eq_getElem?_getD, List.getElem?_eq_getElem hi] <;> rfl⟩
      refine set_update_ints ((Walks.list q1 _ l neI its).toS) s.heap.objs.size nin ks hz few val (its.size - 0) 0 _ (by omega) (Nat.zero_le _) ⟨⟨_, Heap.get?_push_size _ rfl, rfl, rfl⟩, (isL1.push _)⟩ ?fst ?lst
      case fst => exact ⟨0, Nat.le_refl 0, setR_new_at (Heap.get?_push_of_some _ at1)⟩
      case lst =>
        rintro ⟨h2, g2, d2, t2, o2⟩ n mv hn R
        obtain rfl : g2 = s.gens := mv.gens
        obtain rfl : d2 = s.drawn := mv.drawn
        obtain rfl : o2 = s.os := mv.os
        refine wpAny_pure ?_
        show wpAny _ _ (ret Value.none) _ _ _
        refine wpAny_pure ⟨rfl, h2, t2, n, rfl, R, by omega, fun b o e => ?_⟩
        have b0 : b < s.heap.objs.size := Heap.lt_size e
        exact mv.heap b o (by
          intro h; simp only [List.mem_cons, List.not_mem_nil, or_false] at h
          rcases h with h | h
          · exact Nat.ne_of_lt b0 h
          · rw [z1] at h; exact Nat.ne_of_lt (Nat.lt_succ_of_lt b0) h) (Heap.get?_push_of_some _ (Heap.get?_push_of_some _ e))
    · match r, hr with
      | .error e, hr => exact hr
      | .ok (.ret x), hr =>
        obtain ⟨rfl, h2, tk, n, rfl, R, hn, kp⟩ := hr
        repeat (any_goals (first | assumption | wp_step))
        exact go _ _ _ R hn kp
      | .ok .next, hr => exact hr.elim
end
/-- set(xs), a list of ints -/
def rSetL (K : PySem.W.Frag) (w : World) : List V → Hp → VK → Prop := fun xs H Q => ∃ (l : Addr) (ks : List Int), xs = [.ref l] ∧ SqL K H l (ks.map V.int) ∧ ks.length < 1000 ∧ ∀ a n, H a = none → n ≤ ks.length → Q (.ref a) (upd H a (SetO w a (fun j => decide (j ∈ ks)) n))
theorem k_setL {X : Cx} {K : PySem.W.Frag} (hc : X.calm = true := by rfl) (hK : X.K = K := by rfl) : CallR X (.type "set") (rSetL K X.w) := by
  subst hK
  intro pins s σ H xs us Q I r h
  obtain ⟨l, ks, rfl, hl, few, q⟩ := h
  obtain ⟨its, rv, pl, hz⟩ := I.list hl
  rw [Vals.ref1 r]
  refine set_of_list ks (I.ok.hd hc) pl.isList (by simpa using ints_of_vals rv) (by unfold scanBound; omega) fun h2 tk n R hn kp => ?_
  exact ⟨.ref _, _, I.laid (t' := tk) kp (Nat.le_refl _) (setO_new R), rfl, q _ n (I.hok.fresh (Nat.le_refl _)) hn⟩
theorem k_sortedSet {X : Cx} {w : World} (hc : X.calm = true := by rfl) (hw : X.w = w := by rfl) : CallR X (.builtin "sorted") (rSortedSet w) := by subst hw; exact cr_sortedSet hc
theorem k_setT {X : Cx} {K : PySem.W.Frag} {P : Program} {w : World} {k : Nat} (hr : Room k X.A) (hc : X.calm = true := by rfl) (hK : X.K = K := by rfl) (hP : X.prog = P := by rfl) (hw : X.w = w := by rfl) : CallR X (.type "set") (rSetOfT K P w) := by subst hK; subst hP; subst hw; exact cr_setOfT hc hr.units
theorem k_sortedT {X : Cx} {K : PySem.W.Frag} {P : Program} {w : World} (hc : X.calm = true := by rfl) (hK : X.K = K := by rfl) (hP : X.prog = P := by rfl) (hw : X.w = w := by rfl) : CallR X (.builtin "sorted") (rSortedT K P w) := by subst hK; subst hP; subst hw; exact cr_sortedT hc
end G

/-! part EnumT -/
/-! enumerate(xs) of a tuple. -/
namespace G
open PySem PySem.Spec PyProof.Rows L2
open AutoSeq1 (wpAny_loadPart')
abbrev tI (l : Addr) : Obj := { cls := .type "tuple_iterator", data := .fields #[.ref l, .int 0 0] }
abbrev eN (h : Heap) : Obj := { cls := .type "enumerate", data := .fields #[.none, .bool false, .ref h.objs.size, rawInt 0, .none, .none] }
theorem new_enumT (l : Addr) (its : Array Value) (n : Nat) (dc : Option Addr) (sl : Array (Option Value)) :
    Meets (Builtin.«enumerate.__new__» ⟨[.type "enumerate", .ref l], []⟩) (fun _ R s => s.heap.get? l = some { cls := .type "tuple", dict := dc, data := .seq its n, slots := sl } ∧ R (.ok (.ret (.ref (s.heap.push (tI l)).objs.size))) { s with heap := (s.heap.push (tI l)).push (eN s.heap) }) :=
  .of_wp fun prog w A R s h => by
    obtain ⟨hp, g, d, tk, os⟩ := s
    obtain ⟨hl, h⟩ := h
    have sub := sub_enumerate
    have isT : Heap.IsTuple (Shared.heap ⟨hp, g, d, tk, os⟩) l its := ⟨_, hl, rfl, n, rfl⟩
    wp_walk using wpAny_loadPart' hl; refine wpAny_stack_any fun st => wpAny_pure ?_
    split
    · rename_i c _ _ _ _ _
      cases (c == Value.type "enumerate") <;> (wp_walk using wpAny_loadPart' hl, wpAny_pyIter_tuple isT) <;> exact ⟨_, rfl, h⟩
    · wp_walk using wpAny_loadPart' hl, wpAny_pyIter_tuple isT; exact ⟨_, rfl, h⟩
section
variable {prog : Program} {w : World} {A : Around} {E : Value → Shared → Prop} {s : Shared}
theorem call_enumT {l : Addr} {its : Array Value} {Q : Value → Shared → Prop} (hL : s.heap.IsTuple l its)
    (go : ∀ h2, IsEnum h2 (s.heap.objs.size + 1) s.heap.objs.size 0 .none → h2.IsTupleIter s.heap.objs.size l 0 → (∀ b o, s.heap.get? b = some o → h2.get? b = some o) → Q (.ref (s.heap.objs.size + 1)) { s with heap := h2 }) :
    wpAny (model prog w) A (call (.type "enumerate") [.ref l]) Q E s := by
  obtain ⟨⟨c, dct, dt, sl⟩, hl, hc, n, hd⟩ := hL
  obtain rfl : c = .type "tuple" := hc
  obtain rfl : dt = .seq its n := hd
  refine callType_new F.called_enumerate (by decide) (F.typeCall_enumerate_1 _) (F.newCall_enumerate_1 _) (fun obj => F.args_object_init_2 obj _) F.entry_enumerate_new (new_enumT l its n dct sl) ⟨hl, ?_⟩
  have z : (s.heap.push (tI l)).objs.size = s.heap.objs.size + 1 := Heap.size_push ..
  show _ ∧ _
  rw [z]
  have he : IsEnum ((s.heap.push (tI l)).push (eN s.heap)) (s.heap.objs.size + 1) s.heap.objs.size 0 .none := by
    have q := Heap.get?_push_size (s.heap.push (tI l)) (o := eN s.heap) rfl
    rw [z] at q
    exact q
  exact ⟨⟨_, he, rfl⟩, go _ he ⟨_, Heap.get?_push_of_some _ (Heap.get?_push_size _ rfl), rfl, rfl⟩ fun b o x => Heap.get?_push_of_some _ (Heap.get?_push_of_some _ x)⟩
end
/-- the tuple at a, its items numbered in new pairs -/
def IteT (K : PySem.W.Frag) (a : Addr) : It :=
  ⟨fun i H => ∃ (xs : List V) (x : V), SqT K H a xs ∧ xs[i]? = some x,
   fun i H v H' => ∃ T x, v = .ref T ∧ H T = none ∧ H' = upd H T (.tup [.int (i : Nat), x]) ∧ ∀ xs, SqT K H a xs → xs[i]? = some x,
   fun i H => ∃ xs : List V, SqT K H a xs ∧ xs.length ≤ i⟩
theorem turn_enumT {P : Program} {w : World} {K : PySem.W.Frag} {elts : List Expr} {kk : Nat} {tpos : Pos} (a e it : Addr) (ne : e ≠ it) :
    Turn P w K (.Tuple elts kk tpos) (IteT K a) [e, it] e (fun i h => (∃ old, IsEnum h e it ((i : Nat) : Int) old) ∧ h.IsTupleIter it a i ∧ a ≠ it ∧ a ≠ e) where
  mem := by simp
  obj := fun i h st b hb => by
    obtain ⟨⟨old, he⟩, ⟨o, ho, hc, hd⟩, _⟩ := st
    rcases (by simpa using hb : b = e ∨ b = it) with z | z <;> rw [z]
    · exact ⟨_, he, fun v q => nomatch q⟩
    · exact ⟨o, ho, fun v q => by rw [hd] at q; cases q⟩
  keep := fun i h h' st k => let ⟨⟨old, he⟩, hi, hne⟩ := st; ⟨⟨old, k e (by simp) _ he⟩, hi.at fun o q => k it (by simp) o q, hne⟩
  item := by
    intro X hP hw hK hc i pins s σ H E I hf st hg
    subst hP hw hK
    obtain ⟨⟨old, he⟩, hit, na, nb⟩ := st
    obtain ⟨xs, x, hq, hx⟩ := hg
    obtain ⟨its, rv, p, hz⟩ := I.tuple hq
    obtain ⟨u, hu, ru⟩ := rv.get hx
    have l1 : e < s.heap.objs.size := Heap.lt_size he
    have l2 : it < s.heap.objs.size := by obtain ⟨_, q, _⟩ := hit; exact Heap.lt_size q
    have hd : X.A.in1.handled = none := by have := I.ok.hd hc; simp [this]
    refine wpAny_pyNext_enum_itemD (Draws.tuple hd it a na its.toArray) he ⟨hit, p⟩ (by have := (List.getElem?_eq_some_iff.mp hu).1; simpa using this) ne (by simp only [List.mem_cons, List.not_mem_nil, or_false]; exact fun z => z.elim ne (Ne.symm nb)) fun x' h' tk hPx ho hst hT hsz hk => ?_
    obtain rfl : x' = u := by
      have hPx' : its.toArray[i]? = some x' := hPx
      rw [List.getElem?_toArray, hu] at hPx'
      exact (Option.some.inj hPx').symm
    refine ⟨_, rfl, wpAny_letOwnedTupleGo_enum (s := { s with heap := h', toks := tk + 1 }) ho fun h2 he2 sb => ?_⟩
    have hT2 := (sb.2 _ (Nat.ne_of_gt l1)).trans hT
    have mk : ObjOk X.prog X.w (upd H s.heap.objs.size (.tup [.int (i : Nat), x])) h2 s.heap.objs.size (.tup [.int (i : Nat), x]) :=
      ⟨by show 2 ≤ sizeLine; decide, [.int i tk, x'], .cons ⟨_, rfl⟩ (.cons ru .nil), ⟨_, hT2, rfl, _, rfl⟩⟩
    have I1 : Inv X pins σ (upd H s.heap.objs.size (.tup [.int (i : Nat), x])) { s with heap := h2, toks := tk + 1 } :=
      I.turnedNew (ch := [e, it]) (fun b ob hb q => (sb.2 b (fun z => hb (by simp [z]))).trans (hk b ob (fun z => hb (by simp [z])) (fun z => hb (by simp [z])) q)) hf (Nat.le_refl _) mk
    refine ⟨.ref s.heap.objs.size, _, I1, rfl, ⟨_, x, rfl, I.hok.fresh (Nat.le_refl _), rfl, fun ys hy => by rw [I.tuple_inj hy hq]; exact hx⟩, ⟨⟨x', ?_⟩, hst.1.at fun o q => (sb.2 it (Ne.symm ne)).trans q, na, nb⟩, fun b hb => ?_⟩
    · rw [show ((i + 1 : Nat) : Int) = (i : Int) + 1 by omega]; exact he2
    · have hb' : b < s.heap.objs.size := by
        rcases (by simpa using hb : b = e ∨ b = it) with z | z <;> rw [z] <;> assumption
      rw [upd_ne (Nat.ne_of_lt hb')]
      exact (hf b hb).1
  done := by
    intro X hP hw hK hc i pins s σ H E I hf st hg
    subst hP hw hK
    obtain ⟨⟨old, he⟩, hit, na, nb⟩ := st
    obtain ⟨xs, hq, hx⟩ := hg
    obtain ⟨its, rv, p, hz⟩ := I.tuple hq
    obtain ⟨f0, f1, f2, f3, f4, f5⟩ := hf it (by simp)
    have hd : X.A.in1.handled = none := by have := I.ok.hd hc; simp [this]
    have hl := rv.length
    have D : Draws X.prog X.w X.A.in1 it [it, a] i (fun _ _ => True) (fun j h => j = i ∧ h.IsTupleIter it a i ∧ h.IsTuple a its.toArray) :=
      { live := fun _ _ z => let ⟨o, ho, _⟩ := z.2.1; ⟨o, ho⟩,
        frame := fun _ _ _ z k => ⟨z.1, z.2.1.at fun o q => k it (by simp) o q, z.2.2.at fun o q => k a (by simp) o q⟩,
        item := fun j s Q E hj z _ => absurd z.1 (Nat.ne_of_lt hj),
        done := fun s Q E z hE => wpAny_nextOf_tuple_end hd z.2.1 z.2.2 (by simp; omega) hE }
    exact wpAny_pyNext_enum_endD D he ⟨rfl, hit, p⟩ fun h' eb => ⟨rfl, I.turned (t' := s.toks) (fun b o hb q => eb b o hb q) f0 f1 f3 f4 f5⟩
  self := fun A i s Q E st h => let ⟨⟨_, he⟩, _⟩ := st; wpAny_pyIter_enum he h
def iEnumT (K : PySem.W.Frag) (ta : TA) : TI := fun σ H R => ta σ H fun vs H1 => ∃ a xs, vs = [.ref a] ∧ SqT K H1 a xs ∧ R (IteT K a) H1
theorem pi_enumT {X : Cx} {K : PySem.W.Frag} {e : Expr} {ta : TA} {p pos tpos : Pos} {elts : List Expr} {kk : Nat} (hg : Gl X "enumerate") (hm : X.mg "enumerate" = none) (ha : PA X [e] ta) (hs : starEach [e] X.env = [(false, eval e X.env)] := by rfl) (hK : X.K = K := by rfl) :
    PI X (.Tuple elts kk tpos) (.Call (.Name "enumerate" p) [e] [] pos) (iEnumT K ta) := by
  subst hK
  refine ⟨fun pins s σ H R I h => ?_⟩
  refine Call_ (ld_blt I hg hm boot_enumerate (PyProof.Rows.callWith_type1 (thn (ha.run pos pins s σ H _ I h) fun us s1 ⟨vs, H1, I1, r1, a, xs, ex, hq, q⟩ => ?_) hs rfl))
  subst ex
  rw [Vals.ref1 r1]
  obtain ⟨its, rv, p', hz⟩ := I1.tuple hq
  have la : a < s1.heap.objs.size := by obtain ⟨o, ho, _⟩ := p'; exact Heap.lt_size ho
  refine call_enumT p' fun h' he hit hk => wpAny_pyIter_enum he ?_
  have I2 : Inv X pins σ H1 { s1 with heap := h' } := I1.kept (t' := s1.toks) hk
  refine ⟨s1.heap.objs.size + 1, [s1.heap.objs.size + 1, s1.heap.objs.size], _, _, H1, rfl, I2, turn_enumT a (s1.heap.objs.size + 1) s1.heap.objs.size (Nat.succ_ne_self _), ⟨⟨.none, he⟩, hit, Nat.ne_of_lt la, Nat.ne_of_lt (Nat.lt_succ_of_lt la)⟩, fun b hb => ?_, q⟩
  have hle : s1.heap.objs.size ≤ b := by
    rcases (by simpa using hb : b = s1.heap.objs.size + 1 ∨ b = s1.heap.objs.size) with z | z <;> rw [z]
    · exact Nat.le_add_right _ _
    · exact Nat.le_refl _
  exact I1.fpOk hle (I1.hok.fresh hle)
theorem walk_enumT {K : PySem.W.Frag} {a : Addr} {xs : List V} : Walk (IteT K a) xs.length (fun H => SqT K H a xs) (YPair (fun i => some (.int (i : Nat))) (fun i => xs[i]?)) := by
  refine ⟨fun i _ hi q => ⟨xs, xs[i], q, by simp [hi]⟩, fun _ q => ⟨xs, q, Nat.le_refl _⟩, fun i H v H' _ q ⟨T, x, h1, h2, h3, h4⟩ => ⟨T, .int (i : Nat), x, h1, h2, h3, rfl, h4 xs q⟩⟩
theorem k_enum {X : Cx} {K : PySem.W.Frag} {e : Expr} {ta : TA} {p pos tpos : Pos} {elts : List Expr} {kk : Nat} (hg : Gl X "enumerate") (hm : X.mg "enumerate" = none) (ha : PA X [e] ta) (hs : starEach [e] X.env = [(false, eval e X.env)] := by rfl) (hK : X.K = K := by rfl) :
    PI X (.Tuple elts kk tpos) (.Call (.Name "enumerate" p) [e] [] pos) (iEnum K ta) := by
  subst hK
  exact pi_enum hg hm ha hs
end G

/-! part A8 -/
namespace TR
open PySem PySem.Spec PyProof.Rows L2 G
abbrev Classes : Type := List (Int × Int)
def inCl (n : Int) (c : Int × Int) : Bool := decide ((n - c.1) % c.2 = 0)
def cov (n : Int) (cs : Classes) : Bool := cs.any (inCl n)
abbrev RCl : Rp (Int × Int) := Rp.pair Rp.int Rp.int
abbrev RCls : Rp Classes := Rp.lst RCl
def Pos (cs : Classes) : Prop := ∀ c ∈ cs, 0 < c.2
section
variable {P : Program} {w : World} {K : PySem.W.Frag} {mg : Str → Option Value} {base : Heap}
abbrev s_is_part : Stmt := top 32
abbrev N_is_part : List Str := ["value"]
abbrev P_is_part : List Str := ["value"]
theorem sc_is_part : FnScope N_is_part P_is_part (defScope s_is_part) := ⟨rfl, rfl, rfl, by decide +kernel, rfl, by decide +kernel, by decide +kernel⟩
theorem bn_is_part : BindsNo "is_part" "is_part" s_is_part P_is_part := fun _ _ _ _ _ _ us hl => match us, hl with | [_], _ => rfl
def sp_is_part : Sp := fun vs H Q _ => ∃ (v : V) (c : Int × Int), vs = [v] ∧ RCl.rel c v H ∧ 0 ≤ c.2 ∧ ∀ H', Same H H' → Q (.bl true) H'
theorem ok_is_part (B : Bt mg) (c_is_whole : Cal P w K mg base 1 "is_whole" sp_is_whole) (F : FnF K mg "is_part" s_is_part []) : Cal P w K mg base 2 "is_part" sp_is_part := by
  refine F.cal sc_is_part bn_is_part (fun vs H Q E h => ?_) (fun f cdv A outer s H vs Q E hr h => ?_)
  · obtain ⟨_, _, rfl, _⟩ := h
    rfl
  · obtain ⟨v, c, rfl, ⟨a, y1, y2, rfl, ha, rfl, rfl⟩, h0, k⟩ := h
    refine ⟨_, (pss_cons (ps_if (PW.pt (pw_or (pt_not (pt_val (pe_callB (k_isiT (K := K)) (by rfl) B.isinstance (by decide +kernel) (pa_cons (pv 0) (pa_cons (pe_tup (pa_cons (pe_ty (n := "list") B.list) (pa_cons (pe_ty (n := "tuple") B.tuple) pa_nil))) pa_nil))))) (pw_or1 (pt_cmpR (op_neU hr (K := K)) (pe_callB (call_lenU (K := K)) (by rfl) B.len (by decide +kernel) (pa_cons (pv 0) pa_nil)) pe_int (nomark _))))) (pss_one (ps_ret pe_bl)) pss_nil)
    (pss_one (ps_ret (pe_and (pe_c c_is_whole hr (by decide) (pa_cons (pe_ix (k_ix (K := K)) (pv 0) pe_int (fun _ _ => rfl)) pa_nil) passL) (pe_and (pe_c c_is_whole hr (by decide) (pa_cons (pe_ix (k_ix (K := K)) (pv 0) pe_int (fun _ _ => rfl)) pa_nil) passL) (pe_one (pe_cmpR op_ge (pe_ix (k_ix (K := K)) (pv 0) pe_int (fun _ _ => rfl)) pe_int (nomark _)))))))), ?_⟩
    refine ⟨_, rfl, sz (n := 2) (by decide), fun p hp => ?_⟩
    have s1 : Same H (upd H p (.tup [.ty "list", .ty "tuple"])) := Same.new hp
    refine ⟨_, p, _, _, [.type "list", .type "tuple"], true, rfl, upd_same, .cons (ClsV.ty _) (.cons (ClsV.ty _) .nil), TyX.base (TyOf.tup (s1 _ _ ha)), kitAny_cons (kit_ty (r := false) (by decide +kernel)) (fun _ => kitAny_cons (kit_ty (r := true) (by decide +kernel)) (fun h => by cases h) (fun _ => rfl)) (fun h => by cases h), ?_⟩
    refine ⟨_, rfl, ?_⟩
    refine iteF ⟨_, rfl, .inl ⟨a, _, rfl, .inr (SqT.of (s1 _ _ ha)), .inl ⟨rfl, _, rfl, ?_⟩⟩⟩
    refine iteF ?_
    refine ⟨_, rfl, .inr (.inl ⟨a, _, 0, _, rfl, rfl, SqT.of (s1 _ _ ha), atI_nat rfl, c.1, rfl, fun H2 s2 => ⟨_, rfl, ?_⟩⟩)⟩
    refine iteT ⟨_, rfl, .inr (.inl ⟨a, _, 1, _, rfl, rfl, SqT.of (s2 _ _ (s1 _ _ ha)), atI_nat rfl, c.2, rfl, fun H3 s3 => ⟨_, rfl, ?_⟩⟩)⟩
    refine iteT ⟨_, rfl, .inr (.inl ⟨a, _, 1, _, rfl, rfl, SqT.of (s3 _ _ (s2 _ _ (s1 _ _ ha))), atI_nat rfl, _, _, rfl, rfl, ?_⟩)⟩
    have q := k _ (s1.trans (s2.trans s3))
    rw [← decide_eq_true h0] at q
    exact q
abbrev s_is_covered : Stmt := top 35
abbrev N_is_covered : List Str := ["n", "classes", "r", "m"]
abbrev P_is_covered : List Str := ["n", "classes"]
theorem sc_is_covered : FnScope N_is_covered P_is_covered (defScope s_is_covered) := ⟨rfl, rfl, rfl, by decide +kernel, rfl, by decide +kernel, by decide +kernel⟩
theorem bn_is_covered : BindsNo "is_covered" "is_covered" s_is_covered P_is_covered := fun _ _ _ _ _ _ us hl => match us, hl with | [_, _], _ => rfl
def sp_is_covered : Sp := fun vs H Q _ => ∃ (F : Hp) (v : V) (n : Int) (cs : Classes), vs = [.int n, v] ∧ Same F H ∧ RCls.rel cs v F ∧ Pos cs ∧ cs.length ≤ 1000 ∧ ∀ H', Same H H' → Q (.bl (cov n cs)) H'
theorem ok_is_covered (B : Bt mg) (F : FnF K mg "is_covered" s_is_covered []) : Cal P w K mg base 1 "is_covered" sp_is_covered := by
  refine F.cal sc_is_covered bn_is_covered (fun vs H Q E h => ?_) (fun f cdv A outer s H vs Q E hr h => ?_)
  · obtain ⟨_, _, _, _, rfl, _⟩ := h
    rfl
  · obtain ⟨F, v, n, cs, rfl, sF, ⟨a, ps, rfl, ha, pd⟩, pos, hlen, k⟩ := h
    have hl : ps.length = cs.length := pd_len pd
    refine ⟨_, (pss_one (ps_ret (pe_callB (k_any (K := K)) (by rfl) B.any (by decide +kernel) (pa_cons (pe_lc (own := [("r", 2), ("m", 3)]) rfl sc_is_covered.nd (k_il (pv 1) (K := K)) (blkOk_by (N := N_is_covered) (sc := defScope s_is_covered) (by decide +kernel)) (fun _ _ _ _ _ => (k_tup (n := 2) rfl (pgs_cons (pg_name (i := 2) sc_is_covered.nd rfl (Or.inl rfl)) (pgs_cons (pg_name (i := 3) sc_is_covered.nd rfl (Or.inl rfl)) pgs_nil)) (K := K))) (fun _ _ _ _ _ => pts_nil) (fun _ _ _ _ _ => (pe_cmpR (op_eqU hr (K := K)) (pe_op op_mod (pe_op op_sub (pv 0) (pv 2)) (pv 3)) pe_int (nomark _)))) pa_nil)))), ?_⟩
    refine ⟨_, rfl, a, rfl, ⟨_, SqL.of (sF _ _ ha)⟩, fun D hD => ?_⟩
    refine go_lc (F1 := F) (walk_list (xs := ps)) Rp.bl (fun i => (cs.map (inCl n)).take i) (by omega) sF hD (by simp) (fun F1 H1 pu => SqL.of (pu.sub _ _ (pu.ff _ _ ha))) (fun i y F1 H1 l H' N hi pu fD hl1 hy kt kf => ?_) (fun F1 H1 ys pu fD hl1 pd1 => ?_)
    · obtain ⟨e1, hy⟩ := hy
      subst e1
      obtain ⟨d, t, z, u, hd, rfl, ht, rfl, rfl⟩ := pair_at pd hy
      refine ⟨t, _, rfl, SqT.of (pu.sub _ _ (pu.ff _ _ ht)), rfl, _, _, rfl, _, _, rfl, rfl, rfl, ?_⟩
      refine ⟨_, rfl, _, rfl, _, _, rfl, rfl, _, rfl, _, _, rfl, rfl, pos d (List.mem_of_getElem? hd), .inl ⟨rfl, ?_⟩⟩
      refine kt _ H' F1 (inCl n d) (Pu.refl pu.sub) ?_ (take_snoc (by rw [List.getElem?_map, hd]; rfl))
      show V.bl _ = V.bl _
      unfold inCl
      congr 2
      exact propext ⟨fun h => V.int.inj h, fun h => congrArg V.int h⟩
    · rw [hl, show cs.length = (cs.map (inCl n)).length by simp, take_all] at pd1
      have e := pd_eq (f := V.bl) (by exact pd1)
      refine ⟨D, _, rfl, .inl (.inl (by rw [hl1, e])), ?_⟩
      have q := k H1 pu.same
      rw [show cov n cs = (cs.map (inCl n)).any id by unfold cov; rw [List.any_map]; rfl] at q
      exact q
/-- the first pieces of a paired list, as the set wants them -/
theorem pd_ks {F : Hp} : ∀ {ds : Classes} {ys : List V}, Paired (fun d x => RCl.rel d x F) ds ys → ∃ ks : List (Addr × List Int), ys = ks.map (fun p => V.ref p.1) ∧ (∀ p ∈ ks, F p.1 = some (.tup (p.2.map V.int))) ∧ ks.map (·.2) = ds.map (fun d => [d.1, d.2])
  | _, _, .nil => ⟨[], rfl, (fun _ h => nomatch h), rfl⟩
  | d :: _, _, .cons h t => by
    obtain ⟨a, x, y, rfl, ha, rfl, rfl⟩ := h
    obtain ⟨ks, rfl, h2, h3⟩ := pd_ks t
    exact ⟨(a, [d.1, d.2]) :: ks, rfl, fun p hp => by
      rcases List.mem_cons.mp hp with rfl | hp
      · exact ha
      · exact h2 p hp, by simp [h3]⟩
theorem ex_bd : ∀ xs : List (List Int), (∀ l ∈ xs, ∀ m ∈ l, 0 ≤ m) → ∃ B, ∀ l ∈ xs, TS.Bd B l
  | [], _ => ⟨0, fun _ h => by cases h⟩
  | l :: r, h => by
    obtain ⟨B, hB⟩ := ex_bd r fun x hx => h x (by simp [hx])
    have : ∀ l : List Int, (∀ m ∈ l, 0 ≤ m) → ∃ C, ∀ m ∈ l, 0 ≤ m ∧ m < C := by
      intro l
      induction l with
      | nil => exact fun _ => ⟨0, fun _ h => by cases h⟩
      | cons a t ih =>
        intro h
        obtain ⟨C, hC⟩ := ih fun m hm => h m (by simp [hm])
        refine ⟨(if C ≤ a then a + 1 else C), fun m hm => ?_⟩
        have ha := h a (by simp)
        rcases List.mem_cons.mp hm with e | e
        · subst e
          split <;> omega
        · have := hC m e
          split <;> omega
    obtain ⟨C, hC⟩ := this l (h l (by simp))
    refine ⟨(if B ≤ C then C else B), fun x hx m hm => ?_⟩
    rcases List.mem_cons.mp hx with e | e
    · subst e
      have := hC m hm
      split <;> omega
    · have := hB x e m hm
      split <;> omega
theorem emod_dvd {a b : Int} : a % b = 0 ↔ b ∣ a := (Int.dvd_iff_emod_eq_zero ..).symm
theorem inCl_emod (n r m : Int) : inCl n (r % m, m) = inCl n (r, m) := by
  unfold inCl
  congr 1
  apply propext
  rw [emod_dvd, emod_dvd]
  have h : m ∣ r - r % m := Int.dvd_self_sub_emod
  constructor
  · intro q
    have := Int.dvd_sub q h
    rw [show n - r % m - (r - r % m) = n - r by omega] at this
    exact this
  · intro q
    have := Int.dvd_add q h
    rw [show n - r + (r - r % m) = n - r % m by omega] at this
    exact this
/-- a class within a class -/
theorem inCl_sub {n r m s k : Int} (h1 : m % k = 0) (h2 : (r - s) % k = 0) (h : inCl n (r, m) = true) : inCl n (s, k) = true := by
  unfold inCl at h ⊢
  have h' := of_decide_eq_true h
  refine decide_eq_true ?_
  show (n - s) % k = 0
  rw [emod_dvd] at h1 h2 h' ⊢
  have := Int.dvd_add (Int.dvd_trans h1 h') h2
  rw [show n - r + (r - s) = n - s by omega] at this
  exact this
abbrev s_tidy_classes : Stmt := top 33
abbrev N_tidy_classes : List Str := ["classes", "kept", "m", "r", "s", "k"]
abbrev P_tidy_classes : List Str := ["classes"]
theorem sc_tidy_classes : FnScope N_tidy_classes P_tidy_classes (defScope s_tidy_classes) := ⟨rfl, rfl, rfl, by decide +kernel, rfl, by decide +kernel, by decide +kernel⟩
theorem bn_tidy_classes : BindsNo "tidy_classes" "tidy_classes" s_tidy_classes P_tidy_classes := fun _ _ _ _ _ _ us hl => match us, hl with | [_], _ => rfl
def sp_tidy : Sp := fun vs H Q _ => ∃ (F : Hp) (v : V) (cs : Classes), vs = [v] ∧ Same F H ∧ RCls.rel cs v F ∧ Pos cs ∧ cs.length < 60 ∧
  ∀ r F' H' kept, Pu F H F' H' → RCls.rel kept r F' → Pos kept → (∀ n, cov n kept = cov n cs) → kept.length < 64 → Q r H'
theorem ok_tidy (B : Bt mg) (F : FnF K mg "tidy_classes" s_tidy_classes []) : Cal P w K mg base 1 "tidy_classes" sp_tidy := by
  refine F.cal sc_tidy_classes bn_tidy_classes (fun vs H Q E h => ?_) (fun f cdv A outer s H vs Q E hr h => ?_)
  · obtain ⟨_, _, _, rfl, _⟩ := h
    rfl
  · obtain ⟨F, v, cs, rfl, sF, ⟨a, ps, rfl, ha, pd⟩, pos, hlen, k⟩ := h
    have hl : ps.length = cs.length := pd_len pd
    refine ⟨_, (pss_cons (ps_set (i := 1) sc_tidy_classes.nd rfl (Or.inl rfl) (pe_lst pa_nil))
    (pss_cons (ps_for (passes_of rfl) rfl (k_il (pe_callB (k_sortedT (K := K) (P := P) (w := w)) (by rfl) B.sorted (by decide +kernel) (pa_cons (pe_callTy (k_setT hr (K := K) (P := P) (w := w)) (by rfl) B.set (by decide +kernel) (pa_cons (pe_lc (own := [("r", 3), ("m", 2)]) rfl sc_tidy_classes.nd (k_il (pv 0) (K := K)) (blkOk_by (N := N_tidy_classes) (sc := defScope s_tidy_classes) (by decide +kernel)) (fun _ _ _ _ _ => (k_tup (n := 2) rfl (pgs_cons (pg_name (i := 3) sc_tidy_classes.nd rfl (Or.inl rfl)) (pgs_cons (pg_name (i := 2) sc_tidy_classes.nd rfl (Or.inl rfl)) pgs_nil)) (K := K))) (fun _ _ _ _ _ => pts_nil) (fun _ _ _ _ _ => (pe_tup (pa_cons (pv 2) (pa_cons (pe_op op_mod (pv 3) (pv 2)) pa_nil))))) pa_nil)) pa_nil)) (K := K)) (k_tup (n := 2) rfl (pgs_cons (pg_name (i := 2) sc_tidy_classes.nd rfl (Or.inr rfl)) (pgs_cons (pg_name (i := 3) sc_tidy_classes.nd rfl (Or.inr rfl)) pgs_nil)) (K := K))
    (pss_one (ps_if (pt_not (pt_val (pe_callB (k_any (K := K)) (by rfl) B.any (by decide +kernel) (pa_cons (pe_lc (own := [("s", 4), ("k", 5)]) rfl sc_tidy_classes.nd (k_il (pv 1) (K := K)) (blkOk_by (N := N_tidy_classes) (sc := defScope s_tidy_classes) (by decide +kernel)) (fun _ _ _ _ _ => (k_tup (n := 2) rfl (pgs_cons (pg_name (i := 4) sc_tidy_classes.nd rfl (Or.inl rfl)) (pgs_cons (pg_name (i := 5) sc_tidy_classes.nd rfl (Or.inl rfl)) pgs_nil)) (K := K))) (fun _ _ _ _ _ => pts_nil) (fun _ _ _ _ _ => (pe_and (pe_cmpR (op_eqU hr (K := K)) (pe_op op_mod (pv 2) (pv 5)) pe_int (nomark _)) (pe_one (pe_cmpR (op_eqU hr (K := K)) (pe_op op_mod (pe_op op_sub (pv 3) (pv 4)) (pv 5)) pe_int (nomark _)))))) pa_nil)))) (pss_one (ps_expr (pe_bm PySem.F.plainAttrs_list PySem.F.slot_list_append PySem.F.type_list_append mt_append (pv 1) (pa_cons (pe_tup (pa_cons (pv 3) (pa_cons (pv 2) pa_nil))) pa_nil)))) pss_nil)))
    (pss_one (ps_ret (pv 1))))), ?_⟩
    -- kept = []
    refine ⟨sz (n := 0) (by decide), fun D hD => ?_⟩
    have w0 : Own F H F (upd H D (.lst [])) [(D, .lst [])] := (Own.nil (Pu.refl sF)).new hD
    -- sorted(set([..]))
    refine ⟨_, rfl, a, rfl, ⟨_, SqL.of (w0.sub _ _ ha)⟩, fun D1 hD1 => ?_⟩
    refine go_lc (F1 := F) (walk_list (xs := ps)) RCl (fun i => (cs.map fun c => (c.2, c.1 % c.2)).take i) (by omega) w0.sub hD1 (by simp) (fun F1 H1 pu => SqL.of (pu.sub _ _ (pu.ff _ _ ha))) (fun i y F1 H1 l H' N hi pu fD hl1 hy kt kf => ?_) (fun F1 H1 ys pu fD hl1 pd1 => ?_)
    · obtain ⟨e1, hy⟩ := hy
      subst e1
      obtain ⟨d, t, z, u, hd, rfl, ht, rfl, rfl⟩ := pair_at pd hy
      refine ⟨t, _, rfl, SqT.of (pu.sub _ _ (pu.ff _ _ ht)), rfl, _, _, rfl, _, _, rfl, rfl, rfl, ?_⟩
      refine ⟨_, rfl, _, rfl, _, rfl, _, _, rfl, rfl, pos d (List.mem_of_getElem? hd), sz (n := 2) (by decide), fun q hq => ?_⟩
      exact kt (.ref q) _ (upd F1 q (.tup [.int d.2, .int (d.1 % d.2)])) (d.2, d.1 % d.2) ((Pu.refl pu.sub).add hq) ⟨q, _, _, rfl, upd_same, rfl, rfl⟩ (take_snoc (by rw [List.getElem?_map, hd]; rfl))
    · rw [hl, show cs.length = (cs.map fun c => (c.2, c.1 % c.2)).length by simp, take_all] at pd1
      have hyl := pd_len pd1
      obtain ⟨ls, rfl, k2, k3⟩ := pd_ks pd1
      have w1 := w0.step pu
      refine ⟨D1, ls, rfl, SqL.of hl1, fun p hp => SqT.of (w1.sub _ _ (k2 p hp)), by simp at hyl; omega, fun b L hb hL hL2 => ?_⟩
      have w2 := w1.tmp (Same.new (o := SetTO P w b L) hb)
      obtain ⟨Bd, hBd⟩ := ex_bd (ls.map (·.2)) (by
        rw [k3, List.map_map]
        intro l hl m hm
        obtain ⟨c, hc, rfl⟩ := List.mem_map.mp hl
        have := pos c hc
        rcases List.mem_cons.mp hm with e | e
        · subst e; show (0 : Int) ≤ c.2; omega
        · rcases List.mem_cons.mp e with e | e
          · subst e; exact Int.emod_nonneg _ (by omega)
          · cases e)
      have two : ∀ p ∈ ls, ∃ c ∈ cs, p.2 = [c.2, c.1 % c.2] := fun p hp => by
        have : p.2 ∈ ls.map (·.2) := List.mem_map_of_mem hp
        rw [k3, List.map_map] at this
        obtain ⟨c, hc, e⟩ := List.mem_map.mp this
        exact ⟨c, hc, e.symm⟩
      refine ⟨b, L, 2, Bd, rfl, upd_same, fun p hp => SqT.of (w2.sub _ _ (k2 p (hL p hp))), by decide, fun p hp => ⟨by obtain ⟨c, _, e⟩ := two p (hL p hp); rw [e]; rfl, hBd _ (List.mem_map_of_mem (hL p hp))⟩, fun L' q hpm _ hfew _ hq => ?_⟩
      have w3 := w2.new (o := .lst (L'.map fun q => V.ref q.1)) hq
      have mem : ∀ p ∈ L', p ∈ ls := fun p hp => hL p (hpm.mem_iff.mp hp)
      -- the loop
      refine ⟨_, rfl, ⟨_, SqL.of upd_same⟩, ?_⟩
      refine for_it (walk_list (xs := L'.map fun q => V.ref q.1)) (fun i σ H' => ∃ (F' : Hp) (m r : Option V) (zs : List V) (kept : Classes), Own F H F' H' [(q, .lst (L'.map fun q => V.ref q.1)), (D, .lst zs)] ∧ Same F1 F' ∧ Paired (fun d x => RCl.rel d x F') kept zs ∧ kept.length ≤ i ∧ Pos kept ∧
          (∀ n, cov n kept = (L'.take i).any fun p => inCl n (p.2.getD 1 0, p.2.getD 0 0)) ∧ σ = [some (.ref a), some (.ref D), m, r, none, none]) ⟨F1, none, none, [], [], w3, Same.refl _, .nil, Nat.le_refl _, (fun _ h => by cases h), (fun n => by simp [cov]), rfl⟩ (fun i σ H' _ ⟨F', m, r, zs, kept, w4, _⟩ => SqL.of (w4.at 0)) ?_ ?_
      · rintro i y σ H' H'' hi ⟨F', m0, r0, zs, kept, w4, s4, pdk, lenk, posk, hcov, rfl⟩ ⟨e1, hy⟩
        subst e1
        rw [List.getElem?_map] at hy
        cases hp : L'[i]? with
        | none => rw [hp] at hy; cases hy
        | some p =>
          rw [hp] at hy
          cases hy
          have hpl := mem p (List.mem_of_getElem? hp)
          obtain ⟨c, hc, e2⟩ := two p hpl
          have hc0 := pos c hc
          have ht := s4 _ _ (k2 p hpl)
          rw [e2] at ht
          refine ⟨p.1, _, rfl, SqT.of (w4.sub _ _ ht), rfl, _, _, rfl, _, _, rfl, rfl, ?_⟩
          have hzl := pd_len pdk
          refine ⟨_, rfl, D, rfl, ⟨_, SqL.of (w4.at 1)⟩, fun D2 hD2 => ?_⟩
          refine go_lc (F1 := F') (walk_list (xs := zs)) Rp.bl (fun i => (kept.map fun d => decide (c.2 % d.2 = 0) && decide ((c.1 % c.2 - d.1) % d.2 = 0)).take i) (by have := (List.getElem?_eq_some_iff.mp hp).1; have := hpm.length_eq; omega) w4.sub hD2 (by simp) (fun F1 H1 pu => SqL.of (pu.same _ _ (w4.at 1))) (fun i y F5 H5 l H6 N hi pu fD hl1 hy kt kf => ?_) (fun F5 H5 ys pu fD hl1 pd5 => ?_)
          · obtain ⟨e1, hy⟩ := hy
            subst e1
            obtain ⟨d, t, z, u, hd, rfl, ht, rfl, rfl⟩ := pair_at pdk hy
            have hd0 := posk d (List.mem_of_getElem? hd)
            refine ⟨t, _, rfl, SqT.of (pu.sub _ _ (pu.ff _ _ ht)), rfl, _, _, rfl, _, _, rfl, rfl, rfl, ?_⟩
            have fin : ∀ b, b = (decide (c.2 % d.2 = 0) && decide ((c.1 % c.2 - d.1) % d.2 = 0)) → ∃ acc, H6 D2 = some (.lst acc) ∧ acc.length < sizeLine ∧ N (upd H6 D2 (.lst (acc ++ [.bl b]))) := fun b e =>
              kt (.bl b) H6 F5 b (Pu.refl pu.sub) rfl (by rw [take_snoc (by rw [List.getElem?_map, hd]; rfl), e])
            refine ⟨_, rfl, _, rfl, _, _, rfl, rfl, hd0, .inl ⟨rfl, _, rfl, ?_⟩⟩
            by_cases h1 : c.2 % d.2 = 0
            · rw [decide_eq_true (congrArg V.int h1)]
              refine ⟨_, rfl, _, rfl, _, _, rfl, rfl, _, rfl, _, _, rfl, rfl, hd0, .inl ⟨rfl, fin _ ?_⟩⟩
              rw [decide_eq_true h1, Bool.true_and]
              congr 1
              exact propext ⟨fun h => V.int.inj h, fun h => congrArg V.int h⟩
            · rw [decide_eq_false (fun q => h1 (V.int.inj q))]
              exact fin _ (by rw [decide_eq_false h1]; rfl)
          · rw [hzl, show kept.length = (kept.map fun d => decide (c.2 % d.2 = 0) && decide ((c.1 % c.2 - d.1) % d.2 = 0)).length by simp, take_all] at pd5
            have e := pd_eq (f := V.bl) (by exact pd5)
            refine ⟨D2, _, rfl, .inl (.inl (by rw [hl1, e])), ?_⟩
            refine ⟨_, rfl, ?_⟩
            have w5 := w4.step pu
            have e3 : (kept.map fun d => decide (c.2 % d.2 = 0) && decide ((c.1 % c.2 - d.1) % d.2 = 0)).any id = kept.any fun d => decide (c.2 % d.2 = 0) && decide ((c.1 % c.2 - d.1) % d.2 = 0) := by rw [List.any_map]; rfl
            rw [e3]
            have ecov : ∀ n, ((L'.take (i + 1)).any fun p => inCl n (p.2.getD 1 0, p.2.getD 0 0)) = (cov n kept || inCl n (c.1 % c.2, c.2)) := fun n => by
              rw [take_snoc hp, List.any_append, hcov n]
              congr 1
              simp only [List.any_cons, List.any_nil, Bool.or_false]
              rw [e2]
              rfl
            cases hb : kept.any fun d => decide (c.2 % d.2 = 0) && decide ((c.1 % c.2 - d.1) % d.2 = 0) with
            | true =>
              refine ⟨F5, _, _, zs, kept, w5, s4.trans pu.ff, pd_mono (fun _ _ => RCl.mono pu.ff) pdk, by omega, posk, fun n => ?_, rfl⟩
              rw [ecov n]
              obtain ⟨d, hd, q⟩ := List.any_eq_true.mp hb
              have q1 := Bool.and_eq_true_iff.mp q
              cases h : inCl n (c.1 % c.2, c.2) with
              | false => rw [Bool.or_false]
              | true =>
                rw [Bool.or_true]
                exact List.any_eq_true.mpr ⟨d, hd, inCl_sub (of_decide_eq_true q1.1) (of_decide_eq_true q1.2) h⟩
            | false =>
              refine ⟨_, rfl, .inl ⟨rfl, _, SqL.of (w5.at 1)⟩, _, rfl, _, rfl, sz (n := 2) (by decide), fun u hu => ?_⟩
              have w6 := w5.add (o := .tup [.int (c.1 % c.2), .int c.2]) hu
              refine ⟨D, zs, _, rfl, rfl, w6.at 1, szl (by have := (List.getElem?_eq_some_iff.mp hp).1; have := hpm.length_eq; omega), ?_⟩
              have w7 := w6.mut (o' := .lst (zs ++ [.ref u])) 1
              have s6 := Same.new (o := .tup [.int (c.1 % c.2), .int c.2]) (w5.sub.free hu)
              refine ⟨_, _, _, _, kept ++ [(c.1 % c.2, c.2)], w7, s4.trans (pu.ff.trans s6), pd_snoc (pd_mono (fun _ _ => RCl.mono (pu.ff.trans s6)) pdk) ⟨u, _, _, rfl, upd_same, rfl, rfl⟩, by simp; omega, fun x hx => ?_, fun n => ?_, rfl⟩
              · rcases List.mem_append.mp hx with h | h
                · exact posk x h
                · rw [List.mem_singleton.mp h]
                  exact hc0
              · rw [ecov n]
                unfold cov
                rw [List.any_append]
                simp
      · rintro σ H' ⟨F', m0, r0, zs, kept, w4, s4, pdk, lenk, posk, hcov, rfl⟩
        refine ⟨_, rfl, k (.ref D) _ _ kept (w4.fix 1).pu ⟨D, zs, rfl, upd_same, pd_mono (fun _ _ => RCl.mono (w4.ext 1)) pdk⟩ posk (fun n => ?_) ?_⟩
        · rw [hcov n, List.length_map, take_all]
          have key : (L'.any fun p => inCl n (p.2.getD 1 0, p.2.getD 0 0)) = true ↔ cov n cs = true := by
            unfold cov
            rw [List.any_eq_true, List.any_eq_true]
            constructor
            · rintro ⟨p, hp, h⟩
              obtain ⟨c, hc, e⟩ := two p (mem p hp)
              rw [e] at h
              exact ⟨c, hc, by rw [← inCl_emod n c.1 c.2]; exact h⟩
            · rintro ⟨c, hc, h⟩
              have h1 : [c.2, c.1 % c.2] ∈ ls.map (·.2) := by
                rw [k3, List.map_map]
                exact List.mem_map.mpr ⟨c, hc, rfl⟩
              obtain ⟨p, hp, ep⟩ := List.mem_map.mp h1
              obtain ⟨p', hp', ep'⟩ := List.mem_map.mp (hL2 p hp)
              refine ⟨p', hpm.mem_iff.mpr hp', ?_⟩
              rw [ep', ep]
              rw [← inCl_emod n c.1 c.2] at h
              exact h
          exact Bool.eq_iff_iff.mpr key
        · have := hpm.length_eq
          simp at lenk
          omega
end
end TR

/-! part A9 -/
namespace TR
open PySem PySem.Spec PyProof.Rows L2 G
structure NumD where
  cs : Classes
  sg : List Int
def memD (n : Int) (d : NumD) : Bool := decide (n ∈ d.sg) || cov n d.cs
def memP (n : Int) (ps : Classes) : Bool := ps.any fun c => if c.2 = 0 then decide (n = c.1) else inCl n c
structure NumAt (C : Addr) (d : NumD) (v : V) (F : Hp) (a dx lc ls : Addr) : Prop where
  ev : v = .ref a
  ob : F a = some (.ins C dx [("classes", .ref lc), ("singles", .ref ls)])
  cl : RCls.rel d.cs (.ref lc) F
  sg : F ls = some (.lst (d.sg.map V.int))
  pos : Pos d.cs
  len : d.cs.length < 64
  lsg : d.sg.length < 64
def RNum (C : Addr) : Rp NumD := ⟨fun d v F => ∃ a dx lc ls, NumAt C d v F a dx lc ls,
  fun s ⟨a, dx, lc, ls, h⟩ => ⟨a, dx, lc, ls, h.ev, s _ _ h.ob, RCls.mono s h.cl, s _ _ h.sg, h.pos, h.len, h.lsg⟩⟩
theorem mem_eq {n : Int} {ps cl : Classes} {ns : List Int} (h0 : ∀ c ∈ ps, 0 ≤ c.2) (hc : cov n cl = cov n (ps.filter fun c => decide (0 < c.2))) (hn : ∀ k : Int, k ∈ ns ↔ k ∈ (ps.filter fun c => decide (c.2 = 0)).map (·.1)) :
    memD n ⟨cl, ns.filter fun k => !cov k cl⟩ = memP n ps := by
  apply Bool.eq_iff_iff.mpr
  unfold memD memP
  simp only [Bool.or_eq_true, decide_eq_true_eq, List.any_eq_true]
  have hcov : cov n cl = true ↔ ∃ c ∈ ps, 0 < c.2 ∧ inCl n c = true := by
    rw [hc]
    unfold cov
    rw [List.any_eq_true]
    constructor
    · rintro ⟨c, hc, h⟩
      have := List.mem_filter.mp hc
      exact ⟨c, this.1, of_decide_eq_true this.2, h⟩
    · rintro ⟨c, hc, h1, h⟩
      exact ⟨c, List.mem_filter.mpr ⟨hc, decide_eq_true h1⟩, h⟩
  constructor
  · rintro (h | h)
    · have h1 := (List.mem_filter.mp h).1
      obtain ⟨c, hc, e⟩ := List.mem_map.mp ((hn n).mp h1)
      have hc2 := List.mem_filter.mp hc
      exact ⟨c, hc2.1, by rw [if_pos (of_decide_eq_true hc2.2)]; exact decide_eq_true e.symm⟩
    · obtain ⟨c, hc, h1, h2⟩ := hcov.mp h
      exact ⟨c, hc, by rw [if_neg (by omega)]; exact h2⟩
  · rintro ⟨c, hc, h⟩
    by_cases hz : c.2 = 0
    · rw [if_pos hz] at h
      have e := of_decide_eq_true h
      cases q : cov n cl with
      | true => exact .inr rfl
      | false =>
        refine .inl (List.mem_filter.mpr ⟨(hn n).mpr (List.mem_map.mpr ⟨c, List.mem_filter.mpr ⟨hc, decide_eq_true hz⟩, e.symm⟩), ?_⟩)
        rw [q]; rfl
    · rw [if_neg hz] at h
      exact .inr (hcov.mpr ⟨c, hc, by have := h0 c hc; omega, h⟩)
theorem filter_snoc {α : Type} {p : α → Bool} {l : List α} {i : Nat} {d : α} (h : l[i]? = some d) (hp : p d = true) : (l.take (i + 1)).filter p = (l.take i).filter p ++ [d] := by
  rw [take_snoc h, List.filter_append]
  simp [hp]
theorem filter_skip {α : Type} {p : α → Bool} {l : List α} {i : Nat} {d : α} (h : l[i]? = some d) (hp : p d = false) : (l.take (i + 1)).filter p = (l.take i).filter p := by
  rw [take_snoc h, List.filter_append]
  simp [hp]
section
variable {P : Program} {w : World} {K : PySem.W.Frag} {mg : Str → Option Value} {base : Heap} {CN : Addr}
abbrev s_Numbers_init : Stmt := inClass (top 37) 0
abbrev N_Numbers_init : List Str := ["self", "parts", "index", "part", "r", "m", "singles", "n"]
abbrev P_Numbers_init : List Str := ["self", "parts"]
theorem sc_Numbers_init : FnScope N_Numbers_init P_Numbers_init (defScope s_Numbers_init) := ⟨rfl, rfl, rfl, by decide +kernel, rfl, by decide +kernel, by decide +kernel⟩
theorem bn_Numbers_init (T : Addr) (kV doc pm : Value) (an : Option Addr) (cdv ct : Value) (us its : List Value) (hu : us.length = P_Numbers_init.length) (hi : its.length = 1) :
    ∃ k, bindArgs (PySem.W.fnOf "__init__" "Numbers.__init__" (defArgs s_Numbers_init) (defBody s_Numbers_init) (defScope s_Numbers_init) (.ref T) kV doc pm an cdv ct) ⟨us, []⟩ = seqItems? (.ref T) >>= k ∧ k (some its.toArray) = pure (P_Numbers_init.zip (us ++ its.drop 1)) :=
  match us, hu, its, hi with
  | [_, _], _, [_], _ => ⟨_, rfl, rfl⟩
def sp_Numbers_init (C : Addr) : Sp := fun vs H Q _ => ∃ (F H0 : Hp) (x dx : Addr) (v : V) (ps : Classes), vs = [.ref x, v] ∧ New C F H0 H x dx ∧ RCls.rel ps v F ∧ (∀ c ∈ ps, 0 ≤ c.2) ∧ ps.length < 60 ∧
  ∀ F' H' d, Pu F H0 F' H' → (RNum C).rel d (.ref x) F' → (∀ n, memD n d = memP n ps) → Q .non H'
theorem ok_Numbers_init (B : Bt mg) (N : KlF K mg "Numbers" CN ["classes", "singles"]) (c_is_part : Cal P w K mg base 2 "is_part" sp_is_part) (c_is_covered : Cal P w K mg base 1 "is_covered" sp_is_covered) (c_tidy_classes : Cal P w K mg base 1 "tidy_classes" sp_tidy)
    {dv : V} (F : MkF K mg "Numbers" CN "Numbers.__init__" s_Numbers_init [dv]) : Mak P w K mg base 3 "Numbers" CN (sp_Numbers_init CN) := by
  refine F.makD sc_Numbers_init (by simp) bn_Numbers_init (fun vs H Q E h => ?_) (fun f cdv A outer s H vs Q E hr h => ?_)
  · obtain ⟨_, _, _, _, _, _, rfl, _⟩ := h
    rfl
  · obtain ⟨F, H0, x, dx, v, cs, rfl, nw, ⟨a, ps, rfl, ha, pd⟩, h0, hlen, k⟩ := h
    have w0 := nw.own
    have hl : ps.length = cs.length := pd_len pd
    refine ⟨_, (pss_cons (ps_for (passes_of rfl) rfl (k_enum (by rfl) B.enumerate (pa_cons (pv 1) pa_nil) (K := K)) (k_tup (n := 2) rfl (pgs_cons (pg_name (i := 2) sc_Numbers_init.nd rfl (Or.inl rfl)) (pgs_cons (pg_name (i := 3) sc_Numbers_init.nd rfl (Or.inl rfl)) pgs_nil)) (K := K))
    (pss_one (ps_if (pt_not (pt_val (pe_c c_is_part hr (by decide) (pa_cons (pv 3) pa_nil) passL))) (pss_one ps_never) pss_nil)))
    (pss_cons (ps_fld (pv 0) (pe_c c_tidy_classes hr (by decide) (pa_cons (pe_lc (own := [("r", 4), ("m", 5)]) rfl sc_Numbers_init.nd (k_il (pv 1) (K := K)) (blkOk_by (N := N_Numbers_init) (sc := defScope s_Numbers_init) (by decide +kernel)) (fun _ _ _ _ _ => (k_tup (n := 2) rfl (pgs_cons (pg_name (i := 4) sc_Numbers_init.nd rfl (Or.inl rfl)) (pgs_cons (pg_name (i := 5) sc_Numbers_init.nd rfl (Or.inl rfl)) pgs_nil)) (K := K))) (fun _ _ _ _ _ => (pts_one (pt_cmpR op_gt (pv 5) pe_int (nomark _)))) (fun _ _ _ _ _ => (pe_tup (pa_cons (pv 4) (pa_cons (pv 5) pa_nil))))) pa_nil) passL) rfl)
    (pss_cons (ps_set (i := 6) sc_Numbers_init.nd rfl (Or.inl rfl) (pe_callB (k_sortedSet (w := w)) (by rfl) B.sorted (by decide +kernel) (pa_cons (pe_callTy (k_setL (K := K)) (by rfl) B.set (by decide +kernel) (pa_cons (pe_lc (own := [("r", 4), ("m", 5)]) rfl sc_Numbers_init.nd (k_il (pv 1) (K := K)) (blkOk_by (N := N_Numbers_init) (sc := defScope s_Numbers_init) (by decide +kernel)) (fun _ _ _ _ _ => (k_tup (n := 2) rfl (pgs_cons (pg_name (i := 4) sc_Numbers_init.nd rfl (Or.inl rfl)) (pgs_cons (pg_name (i := 5) sc_Numbers_init.nd rfl (Or.inl rfl)) pgs_nil)) (K := K))) (fun _ _ _ _ _ => (pts_one (pt_cmpR (op_eqU hr (K := K)) (pv 5) pe_int (nomark _)))) (fun _ _ _ _ _ => (pv 4))) pa_nil)) pa_nil)))
    (pss_one (ps_fld (pv 0) (pe_lc (own := [("n", 7)]) rfl sc_Numbers_init.nd (k_il (pv 6) (K := K)) (blkOk_by (N := N_Numbers_init) (sc := defScope s_Numbers_init) (by decide +kernel)) (fun _ _ _ _ _ => (pg_name (i := 7) sc_Numbers_init.nd rfl (Or.inl rfl))) (fun _ _ _ _ _ => (pts_one (pt_not (pt_val (pe_c c_is_covered hr (by decide) (pa_cons (pv 7) (pa_cons (k_fld (pv 0) (K := K)) pa_nil)) passL))))) (fun _ _ _ _ _ => (pv 7))) rfl))))), ?_⟩
    refine ⟨_, rfl, a, ps, rfl, SqL.of (w0.sub _ _ ha), ?_⟩
    refine for_it (walk_enum (xs := ps)) (fun i σ H' => ∃ (n p : Option V), Own F H0 F H' [(x, .ins CN dx [])] ∧ σ = [some (.ref x), some (.ref a), n, p, none, none, none, none]) ⟨none, none, w0, rfl⟩ (fun i σ H' _ ⟨n, p, w1, _⟩ => SqL.of (w1.sub _ _ ha)) ?_ ?_
    · rintro i y σ H' H'' hi ⟨n0, p0, w1, rfl⟩ ⟨T, x1, x2, rfl, hT, rfl, e1, hy⟩
      cases e1
      have w2 := w1.tmp (Same.new (o := .tup [.int (i : Nat), x2]) hT)
      obtain ⟨d, t0, z, u, hd, rfl, ht, rfl, rfl⟩ := pair_at pd hy
      refine ⟨T, _, rfl, SqT.of upd_same, rfl, _, _, rfl, _, _, rfl, rfl, ?_⟩
      refine ⟨_, rfl, _, d, rfl, ⟨t0, _, _, rfl, w2.sub _ _ ht, rfl, rfl⟩, h0 d (List.mem_of_getElem? hd), fun H4 s4 => ?_⟩
      exact ⟨_, rfl, _, _, w2.tmp s4, rfl⟩
    · rintro σ H' ⟨n0, p0, w1, rfl⟩
      -- self.classes
      refine ⟨_, rfl, a, rfl, ⟨_, SqL.of (w1.sub _ _ ha)⟩, fun D hD => ?_⟩
      refine go_lc (F1 := F) (walk_list (xs := ps)) RCl (fun i => (cs.take i).filter fun c => decide (0 < c.2)) (by omega) w1.sub hD (by simp) (fun F1 H1 pu => SqL.of (pu.sub _ _ (pu.ff _ _ ha))) (fun i y F1 H1 l H' N hi pu fD hl1 hy kt kf => ?_) (fun F1 H1 ys pu fD hl1 pd1 => ?_)
      · obtain ⟨e1, hy⟩ := hy
        subst e1
        obtain ⟨d, t, z, u, hd, rfl, ht, rfl, rfl⟩ := pair_at pd hy
        refine ⟨t, _, rfl, SqT.of (pu.sub _ _ (pu.ff _ _ ht)), rfl, _, _, rfl, _, _, rfl, rfl, rfl, ?_⟩
        refine ⟨_, rfl, _, _, rfl, rfl, _, rfl, ?_⟩
        by_cases h1 : d.2 > 0
        · rw [decide_eq_true h1]
          refine ⟨_, rfl, _, rfl, sz (n := 2) (by decide), fun q hq => ?_⟩
          exact kt (.ref q) _ (upd F1 q (.tup [.int d.1, .int d.2])) d ((Pu.refl pu.sub).add hq) ⟨q, _, _, rfl, upd_same, rfl, rfl⟩ (filter_snoc hd (decide_eq_true h1))
        · rw [decide_eq_false h1]
          exact kf _ _ (Pu.refl pu.sub) (filter_skip hd (decide_eq_false h1))
      · rw [hl, take_all] at pd1
        have w2 := w1.lc hD pu fD hl1
        have w3 := w2.fix 0
        have hfl : (cs.filter fun c => decide (0 < c.2)).length ≤ cs.length := List.length_filter_le _ _
        refine ⟨_, _, cs.filter fun c => decide (0 < c.2), rfl, w3.sub, ⟨D, ys, rfl, upd_same, pd_mono (fun _ _ => RCl.mono (w2.ext 0)) pd1⟩, fun c hc => of_decide_eq_true (List.mem_filter.mp hc).2, by omega, fun r F2 H2 cl pu2 rr pcl ccl lcl => ?_⟩
        have w4 := w3.step pu2
        refine ⟨_, rfl, st_fld w4 N.cl (N.no _ (by decide)) 0 [] rfl rfl (by decide +kernel) (by decide) fun w5 => ?_⟩
        -- singles
        refine ⟨_, rfl, a, rfl, ⟨_, SqL.of (w5.sub _ _ (w5.ff _ _ ha))⟩, fun D2 hD2 => ?_⟩
        refine go_lc (F1 := F2) (walk_list (xs := ps)) Rp.int (fun i => ((cs.take i).filter fun c => decide (c.2 = 0)).map (·.1)) (by omega) w5.sub hD2 (by simp) (fun F1 H1 pu => SqL.of (pu.sub _ _ (pu.ff _ _ (w5.ff _ _ ha)))) (fun i y F1 H1 l H' N hi pu fD hl1 hy kt kf => ?_) (fun F3 H3 ys3 pu3 fD3 hl3 pd3 => ?_)
        · obtain ⟨e1, hy⟩ := hy
          subst e1
          obtain ⟨d, t, z, u, hd, rfl, ht, rfl, rfl⟩ := pair_at pd hy
          refine ⟨t, _, rfl, SqT.of (pu.sub _ _ (pu.ff _ _ (w5.ff _ _ ht))), rfl, _, _, rfl, _, _, rfl, rfl, rfl, ?_⟩
          refine ⟨_, rfl, .inl ⟨rfl, _, rfl, ?_⟩⟩
          by_cases h1 : d.2 = 0
          · rw [decide_eq_true (congrArg V.int h1)]
            exact ⟨_, rfl, kt (.int d.1) _ F1 d.1 (Pu.refl pu.sub) rfl (by rw [filter_snoc hd (decide_eq_true h1), List.map_append]; rfl)⟩
          · rw [decide_eq_false (fun q => h1 (V.int.inj q))]
            exact kf _ _ (Pu.refl pu.sub) (by rw [filter_skip hd (decide_eq_false h1)])
        · rw [hl, take_all] at pd3
          have e3 := pd_eq (f := V.int) (by exact pd3)
          have w6 := w5.lc hD2 pu3 fD3 hl3
          have hfl3 : ((cs.filter fun c => decide (c.2 = 0)).map (·.1)).length ≤ cs.length := by rw [List.length_map]; exact List.length_filter_le _ _
          refine ⟨D2, _, rfl, SqL.of (by rw [hl3, e3]), by omega, fun b n hb hn => ?_⟩
          have w7 := w6.tmp (Same.new (o := SetO w b (fun j => decide (j ∈ (cs.filter fun c => decide (c.2 = 0)).map (·.1))) n) hb)
          refine ⟨b, _, n, rfl, upd_same, by omega, fun ns q _ hns hnl hq => ?_⟩
          have w8 := w7.new (o := .lst (ns.map V.int)) hq
          have hns2 : ∀ k : Int, k ∈ ns ↔ k ∈ (cs.filter fun c => decide (c.2 = 0)).map (·.1) := fun k => by
            rw [hns k, decide_eq_true_eq]
          -- self.singles
          refine ⟨_, rfl, q, rfl, ⟨_, SqL.of (w8.at 0)⟩, fun D3 hD3 => ?_⟩
          refine go_lc (F1 := F3) (walk_list (xs := ns.map V.int)) Rp.int (fun i => (ns.take i).filter fun n => !cov n cl) (by simp; omega) w8.sub hD3 (by simp) (fun F1 H1 pu => SqL.of (pu.same _ _ (w8.at 0))) (fun i y F1 H1 l H' N2 hi pu fD hl1 hy kt kf => ?_) (fun F4 H4 ys4 pu4 fD4 hl4 pd4 => ?_)
          · obtain ⟨e1, hy⟩ := hy
            subst e1
            rw [List.getElem?_map] at hy
            cases hp : ns[i]? with
            | none => rw [hp] at hy; cases hy
            | some m =>
              rw [hp] at hy
              cases hy
              obtain ⟨lc, ls, rfl, r2⟩ := rr
              refine ⟨rfl, _, rfl, _, rfl, x, CN, dx, _, _, rfl, pu.same _ _ (w8.at 2), N.cl, N.no _ (by decide), rfl, F1, .ref lc, m, cl, rfl, pu.sub, RCls.mono (pu3.ff.trans pu.ff) ⟨lc, ls, rfl, r2⟩, pcl, by omega, fun H5 s5 => ?_⟩
              refine ⟨_, rfl, ?_⟩
              have p5 : Pu F1 H' F1 H5 := ⟨s5, Grow.tmp pu.sub s5⟩
              cases hc : cov m cl with
              | true => exact kf _ _ p5 (filter_skip hp (by rw [hc]; rfl))
              | false => exact ⟨_, rfl, kt (.int m) _ F1 m p5 rfl (filter_snoc hp (by rw [hc]; rfl))⟩
          · rw [List.length_map, take_all] at pd4
            have e4 := pd_eq (f := V.int) (by exact pd4)
            subst e4
            have w9 := w8.lc hD3 pu4 fD4 hl4
            refine ⟨_, rfl, st_fld w9 N.cl (N.no _ (by decide)) 3 ["classes"] rfl rfl (by decide +kernel) (by decide) fun w10 => ?_⟩
            have w11 := w10.fix 0
            have w12 := w11.fix 2
            have hfl4 : (ns.filter fun n => !cov n cl).length ≤ ns.length := List.length_filter_le _ _
            obtain ⟨lc, ls, rfl, r2⟩ := rr
            refine k _ _ ⟨cl, ns.filter fun n => !cov n cl⟩ w12.pu ⟨x, dx, lc, D3, ?_⟩ (fun n => mem_eq h0 (ccl n) hns2)
            exact { ev := rfl, ob := upd_same, cl := RCls.mono (pu3.ff.trans (pu4.ff.trans ((w10.ext 0).trans (w11.ext 2)))) ⟨lc, ls, rfl, r2⟩, sg := (w11.ext 2) _ _ upd_same,
                    pos := pcl, len := lcl, lsg := by show (ns.filter _).length < 64; omega }
end
end TR

/-! part Stat -/
/-! C.m(..), m a staticmethod of the class C. -/
namespace G
open PySem PySem.Spec PyProof.Rows L2
/-- K's words of a staticmethod m of the class at C: its record at p, its def at g -/
structure SWd (K : PySem.W.Frag) (C : Addr) (mc : Value) (m : Str) (p g : Addr) : Prop where
  at_ : PySem.W.findCls K (.ref C) mc m = some (.get (.builtin "staticmethod.__get__") (.ref p) .none (.ref C))
  rc : ∃ rest, PySem.W.recIn K p "staticmethod" = some (.ref g :: rest)
  kp : PySem.W.keepIn K (.ref g) = true
structure StF (K : PySem.W.Frag) (C : Addr) (m qual : Str) (st : Stmt) : Prop where
  ex : ∃ (mc : Value) (p f : Addr) (fd : FuncData), ClX.CRead K C mc ∧ SWd K C mc m p f ∧ FunD K m qual (defArgs st) (defBody st) (defScope st) [] [] f fd
structure Sta (P : Program) (w : World) (K : PySem.W.Frag) (mg : Str → Option Value) (base : Heap) (k : Nat) (C : Addr) (m : Str) (sp : Sp) : Prop where
  ex : ∃ (mc : Value) (p f : Addr) (fd : FuncData) (ps : List Str), FnOk P w K mg base (L2.CX P w) k f fd ps sp ∧ ClX.CRead K C mc ∧ SWd K C mc m p f ∧ Binds K fd ps []
theorem StF.sta {P : Program} {w : World} {K : PySem.W.Frag} {mg : Str → Option Value} {base : Heap} {C : Addr} {m qual : Str} {st : Stmt} {N ps : List Str} {k : Nat} {sp : Sp} (F : StF K C m qual st) (S : FnScope N ps (defScope st)) (b : BindsNo m qual st ps) (len : ∀ vs H Q E, sp vs H Q E → vs.length = ps.length)
    (body : BodyOk P w K mg base N qual st k sp) : Sta P w K mg base (k + 1) C m sp := by
  obtain ⟨mc, p, f, fd, r, W, D⟩ := F.ex
  exact ⟨mc, p, f, fd, ps, D.ok S len (body f), r, W, D.bindsN b⟩
def tSta (C : Addr) (sp : Sp) (E : XK) (ta : TE) (t : TA) : TE := fun σ H Q => ta σ H fun x H1 => x = .ref C ∧ t σ H1 fun vs H2 => sp vs H2 Q E
section
variable {X : Cx} {k j : Nat} {m : Str} {C : Addr} {sp : Sp} {e o : Expr} {es : List Expr} {ta : TE} {t : TA} {pos apos : Pos} {E : XK} {pl : Sem Bool}
theorem get_st {pins : List (Addr × Obj)} {σ : L2.St} {H : Hp} {s : Shared} {A : Around} {E : Value → Shared → Prop} {mc : Value} {p g : Addr} {Q : Value × List Value → Shared → Prop} (I : Inv X pins σ H s) (r : ClX.CRead X.K C mc) (W : SWd X.K C mc m p g) (q : ∀ s', Inv X pins σ H s' → Q (.ref g, []) s') : wpAny (model X.prog X.w) A (getMethod (.ref C) m pl) Q E s := by
  obtain ⟨rest, hp⟩ := W.rc
  refine PySem.W.method_cls I.kIn r.ga (PySem.W.cls_bind I.kIn r.rd W.at_ ?_)
  exact wpAny_call (PySem.W.sm_get (s := { s with toks := s.toks + 1 }) I.kIn hp (PySem.W.handed_on rfl (q _ (I.tok _))))
theorem pe_st (c : Sta X.prog X.w X.K X.mg X.base k C m sp) (hr : Room j X.A) (hk : k ≤ j) (ho : PE X o ta) (ha : PA X (e :: es) t) (hx : Passes (L2.CX X.prog X.w) X E)
    (hst : starEach (e :: es) X.env = (false, eval e X.env) :: starEach es X.env := by rfl) (hpl : (backTo pos (starEach es X.env)).any (·.1) = false := by rfl)
    (ht : eval (.Call (.Attribute o m apos) (e :: es) [] pos) X.env = (do
      let u ← eval o X.env
      standAt apos.atName
      let (g, us) ← holding [u] (getMethod u m pl)
      callWith pos g us (backTo pos (starEach (e :: es) X.env)) (backToKw pos (keywordEach [] X.env))) := by rfl) : PE X (.Call (.Attribute o m apos) (e :: es) [] pos) (tSta C sp E ta t) := by
  obtain ⟨mc, p, g, fd, ps, F, r, W, b⟩ := c.ex
  refine ⟨fun pins s σ H Q I h => ?_⟩
  refine PySem.W.methodCall_KW (pl := pl) (thn (ho.run pins s σ H _ I h) fun u s1 ⟨x, H1, I1, rx, ex, q⟩ => ?_) ht
  subst ex
  obtain rfl : u = Value.ref C := rx
  refine get_st I1 r W fun s2 I2 => ?_
  refine PySem.W.callWith_K (first := []) (h₀ := X.base) I2.ok.mod.kin W.kp (thn (ha.run pos pins s2 σ H1 _ I2 q) fun us s3 ⟨vs, H2, I3, rv, q2⟩ => ⟨I3.kIn, ?_⟩) hst hpl
  exact run_fn F (hr.mono hk) b .nil hx I3 rv (by rw [List.append_nil]; exact q2)
theorem pe_st0 (c : Sta X.prog X.w X.K X.mg X.base k C m sp) (hr : Room j X.A) (hk : k ≤ j) (ho : PE X o ta) (hx : Passes (L2.CX X.prog X.w) X E)
    (ht : eval (.Call (.Attribute o m apos) [] [] pos) X.env = (do
      let u ← eval o X.env
      standAt apos.atName
      let (g, us) ← holding [u] (getMethod u m pl)
      callWith pos g us (backTo pos (starEach [] X.env)) (backToKw pos (keywordEach [] X.env))) := by rfl) : PE X (.Call (.Attribute o m apos) [] [] pos) (tSta C sp E ta tNil) := by
  obtain ⟨mc, p, g, fd, ps, F, r, W, b⟩ := c.ex
  refine ⟨fun pins s σ H Q I h => ?_⟩
  refine PySem.W.methodCall_KW (pl := pl) (thn (ho.run pins s σ H _ I h) fun u s1 ⟨x, H1, I1, rx, ex, q⟩ => ?_) ht
  subst ex
  obtain rfl : u = Value.ref C := rx
  refine get_st I1 r W fun s2 I2 => ?_
  exact PySem.W.callWith_K0 (first := []) I2.kIn W.kp (run_fn F (hr.mono hk) b .nil hx I2 .nil q)
end
end G

/-! part A10 -/
namespace TR
open PySem PySem.Spec PyProof.Rows L2 G
theorem inV_ints (n : Int) : ∀ l : List Int, inV (.int n) (l.map V.int) = decide (n ∈ l)
  | [] => rfl
  | a :: r => by
    have h := inV_ints n r
    unfold inV at h ⊢
    rw [List.map_cons, List.any_cons, h]
    show ((a == n) || _) = _
    by_cases e : a = n
    · subst e; simp
    · simp [e, Ne.symm e]
section
variable {P : Program} {w : World} {K : PySem.W.Frag} {mg : Str → Option Value} {base : Heap} {CN : Addr}
abbrev s_Numbers_contains : Stmt := inClass (top 37) 6
abbrev N_Numbers_contains : List Str := ["self", "n"]
abbrev P_Numbers_contains : List Str := ["self", "n"]
theorem sc_Numbers_contains : FnScope N_Numbers_contains P_Numbers_contains (defScope s_Numbers_contains) := ⟨rfl, rfl, rfl, by decide +kernel, rfl, by decide +kernel, by decide +kernel⟩
theorem bn_Numbers_contains : BindsNo "__contains__" "Numbers.__contains__" s_Numbers_contains P_Numbers_contains := fun _ _ _ _ _ _ us hl => match us, hl with | [_, _], _ => rfl
def sp_Num_in (C : Addr) : Sp := fun vs H Q _ => ∃ (F : Hp) (v : V) (n : Int) (d : NumD), vs = [v, .int n] ∧ Same F H ∧ (RNum C).rel d v F ∧ ∀ H', Same H H' → Q (.bl (memD n d)) H'
theorem ok_Num_in (B : Bt mg) (N : KlF K mg "Numbers" CN ["classes", "singles"]) (c_is_whole : Cal P w K mg base 1 "is_whole" sp_is_whole) (c_is_covered : Cal P w K mg base 1 "is_covered" sp_is_covered)
    (F : MtF K CN "__contains__" "Numbers.__contains__" s_Numbers_contains []) : Met P w K mg base 2 CN "__contains__" (sp_Num_in CN) := by
  refine F.met N.cl sc_Numbers_contains bn_Numbers_contains (fun vs H Q E h => ?_) (fun f cdv A outer s H vs Q E hr h => ?_)
  · obtain ⟨_, _, _, _, rfl, _⟩ := h
    rfl
  · obtain ⟨F, v, n, d, rfl, sF, ⟨a, dx, lc, ls, h⟩, k⟩ := h
    refine ⟨_, (pss_one (ps_ret (pe_and (pe_c c_is_whole hr (by decide) (pa_cons (pv 1) pa_nil) passL) (pe_one (pe_or (pe_cmpR (op_inU (K := K)) (pv 1) (k_fld (pv 0) (K := K)) (by rfl)) (pe_one (pe_c c_is_covered hr (by decide) (pa_cons (pv 1) (pa_cons (k_fld (pv 0) (K := K)) pa_nil)) passL))))))), ?_⟩
    refine ⟨_, rfl, n, rfl, fun H1 s1 => ⟨_, rfl, ?_⟩⟩
    have sF1 := sF.trans s1
    refine iteT ⟨_, rfl, _, rfl, a, CN, dx, _, _, h.ev, sF1 _ _ h.ob, N.cl, N.no _ (by decide), rfl, .inr ⟨ls, _, rfl, .inl (SqL.of (sF1 _ _ h.sg)), rfl, ?_, _, rfl, ?_⟩⟩
    · rw [List.all_eq_true]
      intro x hx
      obtain ⟨i, _, rfl⟩ := List.mem_map.mp hx
      rfl
    · show if inV (.int n) (d.sg.map V.int) = true then _ else _
      rw [inV_ints]
      by_cases hm : n ∈ d.sg
      · rw [decide_eq_true hm]
        have q := k H1 s1
        rw [show memD n d = true by unfold memD; rw [decide_eq_true hm]; rfl] at q
        exact q
      · rw [decide_eq_false hm]
        refine ⟨_, rfl, _, rfl, a, CN, dx, _, _, h.ev, sF1 _ _ h.ob, N.cl, N.no _ (by decide), rfl, F, .ref lc, n, d.cs, rfl, sF1, h.cl, h.pos, by have := h.len; omega, fun H2 s2 => ?_⟩
        have q := k H2 (s1.trans s2)
        rw [show memD n d = cov n d.cs by unfold memD; rw [decide_eq_false hm]; rfl] at q
        exact q
abbrev s_Numbers_every : Stmt := inClass (top 37) 1
abbrev N_Numbers_every : List Str := []
abbrev P_Numbers_every : List Str := []
theorem sc_Numbers_every : FnScope N_Numbers_every P_Numbers_every (defScope s_Numbers_every) := ⟨rfl, rfl, rfl, by decide +kernel, rfl, by decide +kernel, by decide +kernel⟩
theorem bn_Numbers_every : BindsNo "every" "Numbers.every" s_Numbers_every P_Numbers_every := fun _ _ _ _ _ _ us hl => match us, hl with | [], _ => rfl
def sp_every (C : Addr) : Sp := fun vs H Q _ => vs = [] ∧ ∃ F, Same F H ∧ ∀ r F' H' d, Pu F H F' H' → (RNum C).rel d r F' → Q r H'
theorem ok_every (N : KlF K mg "Numbers" CN ["classes", "singles"]) (k_Numbers : Mak P w K mg base 3 "Numbers" CN (sp_Numbers_init CN)) (F : StF K CN "every" "Numbers.every" s_Numbers_every) : Sta P w K mg base 5 CN "every" (sp_every CN) := by
  refine F.sta sc_Numbers_every bn_Numbers_every (fun vs H Q E h => ?_) (fun f cdv A outer s H vs Q E hr h => ?_)
  · obtain ⟨rfl, _⟩ := h
    rfl
  · obtain ⟨rfl, F, sF, k⟩ := h
    refine ⟨_, (pss_one (ps_ret (pe_k k_Numbers hr (by decide) (pa_cons (pe_lst (pa_cons (pe_tup (pa_cons pe_int (pa_cons pe_int pa_nil))) pa_nil)) pa_nil) passL))), ?_⟩
    refine ⟨sz (n := 2) (by decide), fun p hp => ⟨sz (n := 1) (by decide), fun l hl => ?_⟩⟩
    have p1 := ((Pu.refl sF).add (o := .tup [.int 0, .int 1]) hp)
    have p2 := p1.add (o := .lst [.ref p]) hl
    refine fun x dx hx hdx ne => ⟨_, _, x, dx, .ref l, [(0, 1)], rfl, ⟨p2.sub, hx, hdx, ne, rfl⟩, ⟨l, _, rfl, upd_same, .cons ⟨p, _, _, rfl, look_new upd_same (p1.sub.free hl), rfl, rfl⟩ .nil⟩, ?_, by decide, fun F' H' d pu r _ => ⟨rfl, k _ _ _ d (p2.trans pu) r⟩⟩
    intro c hc
    rw [List.mem_singleton.mp hc]
    decide
end
end TR

/-! part A11 -/
namespace TR
open PySem PySem.Spec PyProof.Rows L2 G
theorem inV_strs (z : Str) : ∀ l : List Str, inV (.str z) (l.map V.str) = decide (z ∈ l)
  | [] => rfl
  | a :: r => by
    have h := inV_strs z r
    unfold inV at h ⊢
    rw [List.map_cons, List.any_cons, h]
    show ((a == z) || _) = _
    by_cases e : a = z
    · subst e; simp
    · simp [e, Ne.symm e]
theorem flat_strs (l : List Str) : (l.map V.str).all flatV = true := by
  rw [List.all_eq_true]
  intro x hx
  obtain ⟨i, _, rfl⟩ := List.mem_map.mp hx
  rfl
/-- what isinstance asks of an own class -/
structure InsF (K : PySem.W.Frag) (C : Addr) : Prop where
  cl : Cls K C
  h1 : PySem.W.findIn K (.ref C) "__class__" = some (some (.builtin "object.__class__"))
  h2 : PySem.W.specialIn K (.builtin "object.__class__") "__get__" = some (some (.builtin "getset_descriptor.__get__"))
  h3 : PySem.W.takesIn K (.builtin "object.__class__") = some true
  h4 : PySem.W.mroIn K C (.type "object") = some true
theorem InsF.ty {K : PySem.W.Frag} {C : Addr} {H : Hp} {a dx : Addr} {fs : List (Str × V)} (h : InsF K C) (e : H a = some (.ins C dx fs)) : TyX K H (.ref a) (.ref C) := TyX.base (TyOf.ins e h.cl h.h1 h.h2 h.h3 h.h4)
theorem kit_self {K : PySem.W.Frag} {C : Addr} : PySem.W.kitOne K (.ref C) (.ref C) = some true := by
  unfold PySem.W.kitOne
  rw [if_pos (by simp)]
structure ArrD where
  one : Str
  name : Str
  num : NumD
  other : Str
structure ArrAt (CN : Addr) (d : ArrD) (v : V) (F : Hp) (a : Addr) (nv : V) : Prop where
  ev : v = .ref a
  ob : F a = some (.tup [.str d.one, .str d.name, nv, .str d.other])
  nu : (RNum CN).rel d.num nv F
def RArr (CN : Addr) : Rp ArrD := ⟨fun d v F => ∃ a nv, ArrAt CN d v F a nv, fun s ⟨a, nv, h⟩ => ⟨a, nv, h.ev, s _ _ h.ob, (RNum CN).mono s h.nu⟩⟩
def arrGood (ks : Kinds) (st : List Str) (d : ArrD) : Prop := d.one ∈ st ∧ (ks.lookup d.name).isSome = true ∧ d.other ∈ st
/-- what is no arrow -/
inductive ArrBad (K : PySem.W.Frag) (CN : Addr) (ks : Kinds) (st : List Str) : V → Hp → Prop
  | ty {v : V} {t : Value} {F : Hp} (h : TyX K F v t) (k : PySem.W.kitOne K t (.type "tuple") = some false) : ArrBad K CN ks st v F
  | len {a : Addr} {xs : List V} {F : Hp} (h : F a = some (.tup xs)) (n : xs.length ≠ 4) : ArrBad K CN ks st (.ref a) F
  | num {a : Addr} {x y z u : V} {t : Value} {F : Hp} (h : F a = some (.tup [x, y, z, u])) (ht : TyX K F z t) (k : PySem.W.kitOne K t (.ref CN) = some false) : ArrBad K CN ks st (.ref a) F
  | str1 {a : Addr} {x u : Str} {y nv : V} {d : NumD} {F : Hp} (h : F a = some (.tup [.str x, y, nv, .str u])) (hn : (RNum CN).rel d nv F) (k : NotStr K F y) : ArrBad K CN ks st (.ref a) F
  | out {v : V} {d : ArrD} {F : Hp} (h : (RArr CN).rel d v F) (n : ¬ arrGood ks st d) : ArrBad K CN ks st v F
theorem TyX.mono {K : PySem.W.Frag} {F F' : Hp} {v : V} {t : Value} (s : Same F F') (h : TyX K F v t) : TyX K F' v t := by
  cases h with
  | base h =>
    refine .base ?_
    cases h with
    | non => exact .non
    | bl x => exact .bl x
    | int i => exact .int i
    | str x => exact .str x
    | flt x => exact .flt x
    | lst h => exact .lst (s _ _ h)
    | frz h => exact .frz (s _ _ h)
    | tup h => exact .tup (s _ _ h)
    | dK h => exact .dK (s _ _ h)
    | dT h => exact .dT (s _ _ h)
    | ins h a b c d e => exact .ins (s _ _ h) a b c d e
  | byt b => exact .byt b
  | set h => exact .set (s _ _ h)
  | kList a b => exact .kList a b
  | kTuple a b => exact .kTuple a b
  | kDict a b => exact .kDict a b
  | fTuple h => exact .fTuple (s _ _ h)
  | fDict h => exact .fDict (s _ _ h)
theorem NotStr.mono {K : PySem.W.Frag} {F F' : Hp} {v : V} (s : Same F F') : NotStr K F v → NotStr K F' v := fun ⟨t, h, k⟩ => ⟨t, TyX.mono s h, k⟩
theorem ArrBad.mono {K : PySem.W.Frag} {CN : Addr} {ks : Kinds} {st : List Str} {F F' : Hp} {v : V} (s : Same F F') (h : ArrBad K CN ks st v F) : ArrBad K CN ks st v F' := by
  cases h with
  | ty h k => exact .ty (TyX.mono s h) k
  | len h n => exact .len (s _ _ h) n
  | num h ht k => exact .num (s _ _ h) (TyX.mono s ht) k
  | str1 h hn k => exact .str1 (s _ _ h) ((RNum CN).mono s hn) (NotStr.mono s k)
  | out h n => exact .out ((RArr CN).mono s h) n
section
variable {P : Program} {w : World} {K : PySem.W.Frag} {mg : Str → Option Value} {base : Heap} {CT CN : Addr}
abbrev s_is_arrow : Stmt := top 41
abbrev N_is_arrow : List Str := ["value", "turns", "stations", "name"]
abbrev P_is_arrow : List Str := ["value", "turns", "stations"]
theorem sc_is_arrow : FnScope N_is_arrow P_is_arrow (defScope s_is_arrow) := ⟨rfl, rfl, rfl, by decide +kernel, rfl, by decide +kernel, by decide +kernel⟩
theorem bn_is_arrow : BindsNo "is_arrow" "is_arrow" s_is_arrow P_is_arrow := fun _ _ _ _ _ _ us hl => match us, hl with | [_, _, _], _ => rfl
def sp_is_arrow (K : PySem.W.Frag) (CT CN : Addr) : Sp := fun vs H Q _ => ∃ (F : Hp) (v tv sv : V) (ks : Kinds) (st : List Str) (ts : Addr), vs = [v, tv, sv] ∧ Same F H ∧ (RTurns CT).rel ks tv F ∧ sv = .ref ts ∧ F ts = some (.tup (st.map V.str)) ∧
  ((ArrBad K CN ks st v F ∧ ∀ H', Same H H' → Q (.bl false) H') ∨ (∃ d, (RArr CN).rel d v F ∧ arrGood ks st d ∧ ∀ H', Same H H' → Q (.bl true) H'))
theorem ok_is_arrow (B : Bt mg) (g_Numbers : mg "Numbers" = some (.ref CN)) (IN : InsF K CN) (m_in : Met P w K mg base 1 CT "__contains__" (sp_Turns_in K CT)) (F : FnF K mg "is_arrow" s_is_arrow []) : Cal P w K mg base 2 "is_arrow" (sp_is_arrow K CT CN) := by
  refine F.cal sc_is_arrow bn_is_arrow (fun vs H Q E h => ?_) (fun f cdv A outer s H vs Q E hr h => ?_)
  · obtain ⟨_, _, _, _, _, _, _, rfl, _⟩ := h
    rfl
  · obtain ⟨F, v, tv, sv, ks, st, ts, rfl, sF, rt, rfl, hts, h⟩ := h
    obtain ⟨ta, tdx, tp, tn, td, tr, t⟩ := id rt
    refine ⟨_, (pss_cons (ps_if (PW.pt (pw_or (pt_not (pt_val (pe_callB (k_isi (K := K)) (by rfl) B.isinstance (by decide +kernel) (pa_cons (pv 0) (pa_cons (pe_ty (n := "tuple") B.tuple) pa_nil))))) (pw_or (pt_cmpR (op_neU hr (K := K)) (pe_callB (call_lenU (K := K)) (by rfl) B.len (by decide +kernel) (pa_cons (pv 0) pa_nil)) pe_int (nomark _)) (pw_or1 (pt_not (pt_val (pe_callB (k_isi (K := K)) (by rfl) B.isinstance (by decide +kernel) (pa_cons (pe_ix (k_ix (K := K)) (pv 0) pe_int (fun _ _ => rfl)) (pa_cons (pe_gr g_Numbers) pa_nil))))))))) (pss_one (ps_ret pe_bl)) pss_nil)
    (pss_cons (ps_if (pt_not (pt_val (pe_callB (k_all (K := K)) (by rfl) B.all (by decide +kernel) (pa_cons (pe_lc (own := [("name", 3)]) rfl sc_is_arrow.nd (k_it (pe_tup (pa_cons (pe_ix (k_ix (K := K)) (pv 0) pe_int (fun _ _ => rfl)) (pa_cons (pe_ix (k_ix (K := K)) (pv 0) pe_int (fun _ _ => rfl)) (pa_cons (pe_ix (k_ix (K := K)) (pv 0) pe_int (fun _ _ => rfl)) pa_nil)))) (K := K)) (blkOk_by (N := N_is_arrow) (sc := defScope s_is_arrow) (by decide +kernel)) (fun _ _ _ _ _ => (pg_name (i := 3) sc_is_arrow.nd rfl (Or.inl rfl))) (fun _ _ _ _ _ => pts_nil) (fun _ _ _ _ _ => (pe_callB (k_isi (K := K)) (by rfl) B.isinstance (by decide +kernel) (pa_cons (pv 3) (pa_cons (pe_ty (n := "str") B.str) pa_nil))))) pa_nil)))) (pss_one (ps_ret pe_bl)) pss_nil)
    (pss_one (ps_ret (pe_and (pe_cmpR (op_inU (K := K)) (pe_ix (k_ix (K := K)) (pv 0) pe_int (fun _ _ => rfl)) (pv 2) (by rfl)) (pe_and (pe_cmpR (op_inO m_in hr (by decide) passL) (pe_ix (k_ix (K := K)) (pv 0) pe_int (fun _ _ => rfl)) (pv 1) (by rfl)) (pe_one (pe_cmpR (op_inU (K := K)) (pe_ix (k_ix (K := K)) (pv 0) pe_int (fun _ _ => rfl)) (pv 2) (by rfl))))))))), ?_⟩
    have h' : (∃ t, TyX K H v t ∧ PySem.W.kitOne K t (.type "tuple") = some false ∧ ∀ H', Same H H' → Q (.bl false) H') ∨ (∃ a xs, v = .ref a ∧ F a = some (.tup xs) ∧ xs.length ≠ 4 ∧ ∀ H', Same H H' → Q (.bl false) H') ∨
        (∃ a x y z u t, v = .ref a ∧ F a = some (.tup [x, y, z, u]) ∧ TyX K H z t ∧ PySem.W.kitOne K t (.ref CN) = some false ∧ ∀ H', Same H H' → Q (.bl false) H') ∨
        (∃ a p y nv r d, v = .ref a ∧ F a = some (.tup [.str p, y, nv, .str r]) ∧ (RNum CN).rel d nv F ∧ ((NotStr K F y ∧ ∀ H', Same H H' → Q (.bl false) H') ∨ ∃ q, y = .str q ∧ ∀ H', Same H H' → Q (.bl (decide (p ∈ st) && ((ks.lookup q).isSome && decide (r ∈ st)))) H')) := by
      rcases h with ⟨hb, k⟩ | ⟨d, ⟨a, nv, ha⟩, hg, k⟩
      · cases hb with
        | ty h1 h2 => exact .inl ⟨_, TyX.mono sF h1, h2, k⟩
        | len h1 h2 => exact .inr (.inl ⟨_, _, rfl, h1, h2, k⟩)
        | num h1 h2 h3 => exact .inr (.inr (.inl ⟨_, _, _, _, _, _, rfl, h1, TyX.mono sF h2, h3, k⟩))
        | str1 h1 h2 h3 => exact .inr (.inr (.inr ⟨_, _, _, _, _, _, rfl, h1, h2, .inl ⟨h3, k⟩⟩))
        | out h1 h2 =>
          obtain ⟨a, nv, ha⟩ := h1
          refine .inr (.inr (.inr ⟨_, _, _, _, _, _, ha.ev, ha.ob, ha.nu, .inr ⟨_, rfl, ?_⟩⟩))
          rename_i d
          rw [show (decide (d.one ∈ st) && ((ks.lookup d.name).isSome && decide (d.other ∈ st))) = false by
            cases q : (decide (d.one ∈ st) && ((ks.lookup d.name).isSome && decide (d.other ∈ st))) with
            | false => rfl
            | true =>
              obtain ⟨q1, q2⟩ := Bool.and_eq_true_iff.mp q
              obtain ⟨q2, q3⟩ := Bool.and_eq_true_iff.mp q2
              exact absurd ⟨of_decide_eq_true q1, q2, of_decide_eq_true q3⟩ h2]
          exact k
      · refine .inr (.inr (.inr ⟨_, _, _, _, _, _, ha.ev, ha.ob, ha.nu, .inr ⟨_, rfl, ?_⟩⟩))
        rw [decide_eq_true hg.1, hg.2.1, decide_eq_true hg.2.2]
        exact k
    rcases h' with ⟨ty, h1, h2, k⟩ | ⟨a, xs, rfl, ha, hn, k⟩ | ⟨a, x, y, z, u, ty, rfl, ha, h1, h2, k⟩ | ⟨a, p, y, nv, r, d, rfl, ha, ⟨na, ndx, lc, ls, hna⟩, h⟩
    · refine ⟨_, rfl, _, _, _, _, _, rfl, ClsV.ty _, h1, h2, ?_⟩
      exact ⟨_, rfl, iteT (k _ (Same.refl _))⟩
    · refine ⟨_, rfl, _, _, _, _, _, rfl, ClsV.ty _, TyX.base (TyOf.tup (sF _ _ ha)), kit_ty (r := true) (by decide +kernel), ?_⟩
      refine ⟨_, rfl, ?_⟩
      refine iteF ⟨_, rfl, .inl ⟨a, _, rfl, .inr (SqT.of (sF _ _ ha)), .inl ⟨rfl, _, rfl, ?_⟩⟩⟩
      rw [decide_eq_false (show ¬ V.int (xs.length : Nat) = V.int 4 from fun q => hn (by injection q with q; omega))]
      exact iteT (k _ (Same.refl _))
    · refine ⟨_, rfl, _, _, _, _, _, rfl, ClsV.ty _, TyX.base (TyOf.tup (sF _ _ ha)), kit_ty (r := true) (by decide +kernel), ?_⟩
      refine ⟨_, rfl, ?_⟩
      refine iteF ⟨_, rfl, .inl ⟨a, _, rfl, .inr (SqT.of (sF _ _ ha)), .inl ⟨rfl, _, rfl, ?_⟩⟩⟩
      refine iteF ⟨_, rfl, .inr (.inl ⟨a, _, 2, _, rfl, rfl, SqT.of (sF _ _ ha), atI_nat rfl, ?_⟩)⟩
      refine ⟨_, _, _, _, _, rfl, ClsV.own _, h1, h2, ?_⟩
      exact ⟨_, rfl, iteT (k _ (Same.refl _))⟩
    · refine ⟨_, rfl, _, _, _, _, _, rfl, ClsV.ty _, TyX.base (TyOf.tup (sF _ _ ha)), kit_ty (r := true) (by decide +kernel), ?_⟩
      refine ⟨_, rfl, ?_⟩
      refine iteF ⟨_, rfl, .inl ⟨a, _, rfl, .inr (SqT.of (sF _ _ ha)), .inl ⟨rfl, _, rfl, ?_⟩⟩⟩
      refine iteF ⟨_, rfl, .inr (.inl ⟨a, _, 2, _, rfl, rfl, SqT.of (sF _ _ ha), atI_nat rfl, ?_⟩)⟩
      refine ⟨_, _, _, _, _, rfl, ClsV.own _, by rw [hna.ev]; exact IN.ty (sF _ _ hna.ob), kit_self, ?_⟩
      refine ⟨_, rfl, ?_⟩
      refine iteF ?_
      refine ⟨_, rfl, .inr (.inl ⟨a, _, 0, _, rfl, rfl, SqT.of (sF _ _ ha), atI_nat rfl, ?_⟩)⟩
      refine ⟨_, rfl, .inr (.inl ⟨a, _, 1, _, rfl, rfl, SqT.of (sF _ _ ha), atI_nat rfl, ?_⟩)⟩
      refine ⟨_, rfl, .inr (.inl ⟨a, _, 3, _, rfl, rfl, SqT.of (sF _ _ ha), atI_nat rfl, ?_⟩)⟩
      refine ⟨sz (n := 3) (by decide), fun q hq => ⟨q, rfl, ⟨_, SqT.of upd_same⟩, fun D hD => ?_⟩⟩
      have s1 := Same.new (o := .tup [.str p, y, .str r]) hq
      obtain ⟨b, hb, hy⟩ : ∃ b, (∃ t, TyX K H y t ∧ PySem.W.kitOne K t (.type "str") = some b) ∧ ((b = false ∧ ∀ H', Same H H' → Q (.bl false) H') ∨ (b = true ∧ ∃ q, y = .str q ∧ ∀ H', Same H H' → Q (.bl (decide (p ∈ st) && ((ks.lookup q).isSome && decide (r ∈ st)))) H')) := by
        rcases h with ⟨⟨t, h1, h2⟩, k⟩ | ⟨q, rfl, k⟩
        · exact ⟨false, ⟨t, TyX.mono sF h1, h2⟩, .inl ⟨rfl, k⟩⟩
        · exact ⟨true, ⟨_, TyX.base (TyOf.str _), kit_ty (r := true) (by decide +kernel)⟩, .inr ⟨rfl, q, rfl, k⟩⟩
      refine go_lc (F1 := upd H q (.tup [.str p, y, .str r])) (walk_tup (xs := [.str p, y, .str r])) Rp.bl (fun i => [true, b, true].take i) (by simp) (Same.refl _) hD (by simp) (fun F1 H1 pu => SqT.of (pu.sub _ _ (pu.ff _ _ upd_same))) (fun i v F1 H1 l H' N hi pu fD hl1 hy kt kf => ?_) (fun F1 H1 ys pu fD hl1 pd1 => ?_)
      · obtain ⟨e1, hy⟩ := hy
        subst e1
        obtain ⟨ty, hty, hky⟩ := hb
        have s2 := s1.trans (pu.same)
        match i, hi, hy with
        | 0, _, hy =>
          cases hy
          exact ⟨rfl, _, rfl, _, _, _, _, _, rfl, ClsV.ty _, TyX.base (TyOf.str _), kit_ty (r := true) (by decide +kernel), kt (.bl true) H' F1 true (Pu.refl pu.sub) rfl rfl⟩
        | 1, _, hy =>
          cases hy
          exact ⟨rfl, _, rfl, _, _, _, _, _, rfl, ClsV.ty _, TyX.mono s2 hty, hky, kt (.bl b) H' F1 b (Pu.refl pu.sub) rfl rfl⟩
        | 2, _, hy =>
          cases hy
          exact ⟨rfl, _, rfl, _, _, _, _, _, rfl, ClsV.ty _, TyX.base (TyOf.str _), kit_ty (r := true) (by decide +kernel), kt (.bl true) H' F1 true (Pu.refl pu.sub) rfl rfl⟩
        | (n + 3), hi, _ => simp at hi; omega
      · have e := pd_eq (f := V.bl) (by exact pd1)
        refine ⟨D, [true, b, true], rfl, .inl (.inl (by rw [hl1, e]; rfl)), ?_⟩
        refine ⟨_, rfl, ?_⟩
        have s2 := s1.trans (pu.same)
        have sF2 := sF.trans s2
        rcases hy with ⟨rfl, k⟩ | ⟨rfl, q1, rfl, k⟩
        · exact k _ s2
        · -- value[0] in stations and value[1] in turns and (value[3] in stations)
          refine ⟨_, rfl, .inr (.inl ⟨a, _, 0, _, rfl, rfl, SqT.of (sF2 _ _ ha), atI_nat rfl, ?_⟩)⟩
          refine ⟨_, rfl, .inr ⟨ts, _, rfl, .inr (SqT.of (sF2 _ _ hts)), rfl, flat_strs st, _, rfl, ?_⟩⟩
          show if inV (.str p) (st.map V.str) = true then _ else _
          rw [inV_strs]
          by_cases hp : p ∈ st
          · rw [decide_eq_true hp] at k ⊢
            refine iteT ⟨_, rfl, .inr (.inl ⟨a, _, 1, _, rfl, rfl, SqT.of (sF2 _ _ ha), atI_nat rfl, ?_⟩)⟩
            refine ⟨_, rfl, ta, tdx, _, t.ev, sF2 _ _ t.ob, tv, .str q1, ks, rfl, (RTurns CT).mono sF2 rt, .inl ⟨q1, rfl, fun H4 s4 => ?_⟩⟩
            have s5 := s2.trans s4
            have sF5 := sF.trans s5
            refine ⟨_, rfl, _, rfl, ?_⟩
            cases hk : (ks.lookup q1).isSome with
            | false =>
              rw [hk] at k
              exact iteF (k _ s5)
            | true =>
              rw [hk] at k
              refine iteT ⟨_, rfl, .inr (.inl ⟨a, _, 3, _, rfl, rfl, SqT.of (sF5 _ _ ha), atI_nat rfl, ?_⟩)⟩
              refine ⟨_, rfl, .inr ⟨ts, _, rfl, .inr (SqT.of (sF5 _ _ hts)), rfl, flat_strs st, ?_⟩⟩
              show Q (.bl (inV (.str r) (st.map V.str))) _
              rw [inV_strs]
              exact k _ s5
          · rw [decide_eq_false hp] at k ⊢
            exact iteF (k _ s2)
end
end TR

/-! part Exc1 -/
/-! An own exception, its class's class over ValueError, whose __init__ says super().__init__('..') and then self.f = p. -/
namespace G
open PySem PySem.Spec PySem.W PySem.Calls PyProof.Rows L2
/-- the text of such an __init__ -/
structure XBody (st : Stmt) (qual fld : Str) (ar : Arg) (prm : Str) (body : List Stmt) : Prop where
  bd : defBody st = body
  sh : ∃ (txt : Str) (k : Nat) (p0 p1 p2 p3 p4 p5 p6 p7 p8 p9 : Pos), body = [.Expr (.Call (.Attribute (.Call (.Name "super" p0) [] [] p1) "__init__" p2) [.Constant (.str txt) k p3] [] p4) p5, .Assign [.Attribute (.Name "self" p6) fld p7] (.Name prm p8) p9] ∧
    ∀ (L f cda cc : Addr) (env : Env), env = ksEnv qual (defScope st) L f (.ref cda) cc → (∃ pl : Sem Bool, eval (.Call (.Attribute (.Call (.Name "super" p0) [] [] p1) "__init__" p2) [.Constant (.str txt) k p3] [] p4) env = (do
        let o ← attributeBase (.Call (.Name "super" p0) [] [] p1) "__init__" env (eval (.Call (.Name "super" p0) [] [] p1) env)
        standAt p2.atName
        let (g, us) ← holding [o] (getMethod o "__init__" pl)
        callWith p4 g us (backTo p4 (starEach [.Constant (.str txt) k p3] env)) [])) ∧
      swapsWith (.Call (.Attribute (.Call (.Name "super" p0) [] [] p1) "__init__" p2) [.Constant (.str txt) k p3] [] p4) none p5.line env = pure false ∧
      swapsWith (.Name prm p8) (some (.Attribute (.Name "self" p6) fld p7)) p9.line env = pure false ∧ interactive env = false ∧
      starEach [.Constant (.str txt) k p3] env = (false, eval (.Constant (.str txt) k p3) env) :: starEach [] env
  hr : ((defArgs st).posonlyargs ++ (defArgs st).args).head? = some ar
  se : ar.arg = "self"
  ks : (defScope st).names.lookup ("super" : Str) = some .globalImplicit
  kc : (defScope st).names.lookup ("__class__" : Str) = some .free
  ka : (defScope st).names.lookup ("self" : Str) = some .local
  kp : (defScope st).names.lookup prm = some .local
  ki : (defScope st).kind = .function
  co : (defScope st).isCoroutine = false
  ge : (defScope st).isGenerator = false
  ce : ∀ x ∈ (defScope st).names, x.2 ≠ .cell
  pr : prm ≠ "self" ∧ (prm == ("__debug__" : Str)) = false
  bi : ∀ (kV doc pm cdv ct : Value) (an : Option Addr) (cc : Addr) (a v : Value), bindArgs (ksFn "__init__" qual (defArgs st) (defBody st) (defScope st) .none kV doc pm an cdv ct cc) ⟨[a, v], []⟩ = pure [(("self" : Str), a), (prm, v)]
/-- what K says of the class x at C and of its __init__ -/
structure XTxt (P : Program) (K : Frag) (mg : Str → Option Value) (x qual fld : Str) (st : Stmt) (C : Addr) : Prop where
  gC : mg x = some (.ref C)
  oc : OexC K C
  ga : findIn K (.ref C) "__getattribute__" = some (some (.builtin "BaseException.__getattribute__"))
  gg : findIn K (.ref C) "__getattr__" = some none
  hd : hasDictIn K C = true
  nof : findIn K (.ref C) fld = some none
  sv : subIn K (.ref C) (.type "ValueError") = some true
  mr : mroIn K C (.ref C) = some true
  op : nsIn K cStatics "thirdparty.any" = some none
  su : ks_superIn K C C "__init__" = some (some (.builtin "ValueError.__init__"))
  sg : mg "super" = none
  top : (P.main.scope.names.lookup ("super" : Str)).isSome = false
  bd : ∃ (ar : Arg) (prm : Str) (body : List Stmt), XBody st qual fld ar prm body
  fn : ∃ (fI cc cda : Addr) (oc : Value) (od : Option Addr) (kV doc pm ct : Value) (an : Option Addr) (osl : Array (Option Value)) (ccl cl : Value) (cdd cld : Option Addr) (vs : Array Value) (ccs csl : Array (Option Value)) (file : Str) (tf : Tok),
    findIn K (.ref C) "__init__" = some (some (.ref fI)) ∧ typeIn K (.ref fI) = some (.type "function") ∧
    K.lookup fI = some ⟨oc, od, .func (ksFn "__init__" qual (defArgs st) (defBody st) (defScope st) .none kV doc pm an (.ref cda) ct cc), osl⟩ ∧ codeIn K (.ref cda) qual = true ∧
    K.lookup cc = some ⟨cl, cld, .cell (some (.ref C)), csl⟩ ∧ K.lookup cda = some ⟨ccl, cdd, .fields vs, ccs⟩ ∧ vs[2]? = some (.str file tf) ∧ ((P.main.file : Str) == file) = true
section
variable {prog : Program} {w : World} {A : Around} {E : Value → Shared → Prop} {R : Result → Shared → Prop} {s : Shared} {K : Frag} {mg mb : Str → Option Value} {x qual fld : Str} {st : Stmt} {C : Addr}
/-- the built-in __init__, bound to the exception, called -/
theorem call_mw {h : Heap} {g : Array GenState} {d : Drawn} {t : Nat} {os : OsState} {nm q : Str} {N e u t0 : Addr} {bs bm : List Value} {hdct : Bool} {sn : List Str} {sub : List Value} {ab : Bool} {col : Option Bool} {dd : Option Addr} {k0 k1 k2 k3 k5 : Option Value} {rest : List Value} {Q : Value → Shared → Prop}
    (hC : h.get? C = some (excClassObj nm q C N bs bm hdct sn sub ab col dd k0 k1 k2 k3 k5 "ValueError.__new__")) (he : h.get? e = some (PySem.HandSPX.excO C t0)) (hu : h.get? u = some (kxs_mw "ValueError.__init__" e)) (hz : rest.length ≤ sizeLine)
    (go : ∀ h' t1, (∀ b o, b ≠ e → h.get? b = some o → h'.get? b = some o) → h'.get? e = some (PySem.HandSPX.excO C t1) → Q .none ⟨h', g, d, t, os⟩) : wpAny (model prog w) A (call (.ref u) rest) Q E ⟨h, g, d, t, os⟩ := by
  refine wpAny_call (codeAny_of_tree ?_); show wpAny _ A.in1 (callAny (.ref u) ⟨rest, []⟩) _ _ _
  simp only [callAny]; refine wpAny_bind (wpAny_load hu ?_)
  have z : (Value.type "method-wrapper" == Value.type "method" || Value.type "method-wrapper" == Value.type "builtin_function_or_method" || Value.type "method-wrapper" == Value.type "method-wrapper") = true := by decide
  simp only [kxs_mw, z, if_true]; refine KFB.if_so (by decide) ?_
  refine wpAny_bind (check_bound_init F.excBase_ValueError.toExcCallFacts hC he rfl ?_)
  refine wpAny_bind (wpAny_pure (wpAny_pure ⟨plainId_quiet F.excBase_ValueError.init.plain _, codeAny_builtin F.excBase_ValueError.initEntry ?_⟩))
  exact exc_init_tree (cls := .ref C) (t0 := t0) (dv := none) (c2 := .none) (c3 := .none) (b4 := .bool false) he hz fun h' k e' _ => go h' _ k e'
theorem ldX {M : Model} {env : Env} {m : Str → Option Value} {y : Str} {pos : Pos} {v : Value} {Q : Value → Shared → Prop} (hn : s.heap.Ns env.locals m) (hv : m y = some v) (h : Q v s) (hk : env.scope.kind = .function) (hl : env.kindOf y = some .local) (hd : (y == ("__debug__" : Str)) = false) :
    wpAny M A (eval (.Name y pos) env) Q E s := wpAny_Name (wpAny_loadName_local hk hl hn hv h) hd
/-- what __init__ leaves of a new exception at e -/
structure XEnd (h h' : Heap) (e C dx t1 : Addr) (fld : Str) (v : Value) : Prop where
  keep : ∀ b o, b ≠ e → h.get? b = some o → h'.get? b = some o
  obj : h'.get? e = some { cls := .ref C, dict := some dx, data := .fields #[.ref t1, .none, .none, .none, .bool false, .none] }
  big : h.objs.size ≤ dx
  ne : dx ≠ e
  ns : h'.Ns1 dx (fun y => if y = fld then some v else none)
theorem keep_but {h h' : Heap} {e : Addr} (X : K.In h) (he : K.lookup e = none) (k : ∀ b o, b ≠ e → h.get? b = some o → h'.get? b = some o) : K.In h' := fun a o z => k a o (fun y => by rw [y, he] at z; cases z) (X a o z)
theorem x_init (T : XTxt prog K mg x qual fld st C) {e t0 fI : Addr} {v : Value} (hfI : findIn K (.ref C) "__init__" = some (some (.ref fI))) (X : K.In s.heap) (G : s.heap.Ns mainGlobals mg) (Bl : s.heap.Ns builtinsNs mb) (hb : mb "super" = bootBuiltins "super") (lim : s.heap.NoLimit)
    (he : s.heap.get? e = some (PySem.HandSPX.excO C t0)) (hne : K.lookup e = none) (room : A.depth < recursionLimit)
    (go : ∀ h' tk dx t1, XEnd s.heap h' e C dx t1 fld v → R (.ok (.ret .none)) { s with heap := h', toks := tk }) : codeAny (model prog w) A (.call (.ref fI) ⟨[.ref e, v], []⟩) R s := by
  obtain ⟨fI', cc, cda, oc, od, kV, doc, pm, ct, an, osl, ccl, cl, cdd, cld, vs, ccs, csl, file, tf, iC, tI, lf, hcd, lcc, lcd, hvs, hfile⟩ := T.fn
  obtain rfl : fI' = fI := by rw [iC] at hfI; cases hfI; rfl
  obtain ⟨ar, prm, body, Bd⟩ := T.bd
  obtain ⟨txt, kk, p0, p1, p2, p3, p4, p5, p6, p7, p8, p9, hbody, hev⟩ := Bd.sh
  obtain ⟨⟨pl, ev⟩, sw1, sw2, nint, hst⟩ := hev s.heap.objs.size fI' cda cc _ rfl
  obtain ⟨nm, q, N, bs, bm, sn, sub, ab, col, dd, k0, k1, k2, k3, k5, hC, hbm⟩ := T.oc.cls
  have hcl : clsIn K C = some { name := nm, bases := bs, mro := .ref C :: bm, ns := N, qualname := q, hasDict := true, slotNames := sn, subclasses := sub, abstract := ab, collection := col, hasDel := false } := by unfold clsIn; rw [hC] <;> rfl
  refine ks_codeAny_call_defAt (binds := [(("self" : Str), .ref e), (prm, v)]) room (X _ _ lf) rfl lim (codeRec_of X hcd) rfl (BindsTo.of_eq (Bd.bi ..)) Bd.ce (fun y hy => ?_) (fun h0 hns kp => ?_) Bd.co Bd.ge Bd.ki
  · rcases List.mem_cons.mp hy with rfl | hy
    · exact Bd.ka
    · rw [List.mem_singleton.mp hy]; exact Bd.kp
  show PySem.wpAt _ _ (.func (defBody st) (ksEnv qual (defScope st) s.heap.objs.size fI' (.ref cda) cc)) (execs (defBody st) (ksEnv qual (defScope st) s.heap.objs.size fI' (.ref cda) cc)) _ _ _
  have X0 : K.In h0 := X.keeps kp
  have he0 := kp _ _ he
  have hse : (fun y => ([(("self" : Str), Value.ref e), (prm, v)].reverse).lookup y) "self" = some (.ref e) := by
    show ([(prm, v), (("self" : Str), Value.ref e)]).lookup ("self" : Str) = _
    have n1 : (("self" : Str) == prm) = false := by simpa using Ne.symm Bd.pr.1
    have n2 : (("self" : Str) == ("self" : Str)) = true := by simp
    rw [List.lookup_cons, n1, List.lookup_cons, n2]
  have hpr : (fun y => ([(("self" : Str), Value.ref e), (prm, v)].reverse).lookup y) prm = some v := by
    show ([(prm, v), (("self" : Str), Value.ref e)]).lookup prm = _
    have n1 : (prm == prm) = true := by simp
    rw [List.lookup_cons, n1]
  rw [Bd.bd, hbody]
  refine ks_wpAt_execs_cons (ks_wpAt_Expr_any (ks_wpAt_MethodCall ?_ ev) nint sw1)
  refine ks_wpAt_super_base (env := ksEnv qual (defScope st) s.heap.objs.size fI' (.ref cda) cc) (fd := ksFn "__init__" qual (defArgs st) (defBody st) (defScope st) .none kV doc pm an (.ref cda) ct cc) Bd.ks Bd.kc (by decide +kernel) rfl (X0 _ _ lf) rfl Bd.hr rfl (X0 _ _ lcd) rfl hvs hfile T.top ?_
  refine ks_loadName_global Bd.ki Bd.ks (loadGlobal_builtin (env := ksEnv qual (defScope st) s.heap.objs.size fI' (.ref cda) cc) (G.keeps kp) T.sg (Bl.keeps kp) (hb.trans (by rfl : bootBuiltins "super" = some (.type "super"))) ⟨rfl, ?_⟩)
  refine wpAny_loadName_free Bd.ki Bd.kc rfl ⟨_, X0 _ _ lcc, rfl⟩ ?_
  rw [Bd.se]
  refine wpAny_loadName_local Bd.ki Bd.ka hns hse ?_
  have hC0 := X0 _ _ hC
  refine ks_wpAny_isType_cls hC0 rfl ⟨rfl, ?_⟩
  refine ks_wpAny_call_super hC0 rfl he0 rfl (fun c z => by cases z) (looks_mroIn X0 T.mr) (fun h1 e1 kp1 => ?_)
  have X1 : K.In h1 := X0.keeps kp1
  have I1 : InstAt h1 e (PySem.HandSPX.excO C t0) C none := ⟨kp1 _ _ he0, rfl, rfl, trivial⟩
  have su := T.su
  unfold ks_superIn at su
  rw [hcl] at su
  refine kxs_getMethod kxs_ValueError e1 (looks_opaque X1 T.op) (l₀ := .ref C :: bm) (fun A Q E s k q => wpAny_bind ((looks_clsIn X1 hcl) A _ E s k (wpAny_pure q))) rfl X1 su (I1.type.andThen (looks_subIn X1 T.sv)) (ks_ne X1 I1 hcl) (by decide +kernel) ?_
  have hne1 : ∀ b o, h1.get? b = some o → (h1.push (kxs_mw "ValueError.__init__" e)).get? b = some o := fun b o z => Heap.get?_push_of_some _ z
  have hu1 : (h1.push (kxs_mw "ValueError.__init__" e)).get? h1.objs.size = some (kxs_mw "ValueError.__init__" e) := Heap.get?_push_size _ rfl
  refine kxs_callWith (i := "ValueError.__init__") (x := e) (by rfl) ?_
  refine evalArgs_plain ?_
  refine spliced_more (wpAny_Constant_str (spliced_none ?_)) hst
  refine ⟨hu1, ?_⟩
  refine call_mw (hne1 _ _ (kp1 _ _ hC0)) (hne1 _ _ (kp1 _ _ he0)) hu1 (by show 1 ≤ sizeLine; rw [sizeLine_eq]; decide) fun h2 t1 kp2 he2 => ?_
  -- self.f = p
  have ek : ∀ b o, b ≠ e → h0.get? b = some o → h2.get? b = some o := fun b o hb z => kp2 b o hb (hne1 _ _ (kp1 _ _ z))
  have X2 : K.In h2 := keep_but X0 hne ek
  have nL : s.heap.objs.size ≠ e := Nat.ne_of_gt (Heap.lt_size he)
  have hns2 : h2.Ns s.heap.objs.size (fun y => ([(("self" : Str), Value.ref e), (prm, v)].reverse).lookup y) := by
    obtain ⟨oL, es, ep, hL, r⟩ := hns
    exact ⟨oL, es, ep, ek _ _ nL hL, r⟩
  refine wpAt_of_wpAny ?_
  refine wpAny_execs_cons (plainObj_wpAny_Assign_Attribute ?_ sw2)
  refine ldX hns2 hpr (ldX hns2 hse ?_ Bd.ki Bd.ka (by decide +kernel)) Bd.ki Bd.kp Bd.pr.2
  refine set_plain X2 (ox := PySem.HandSPX.excO C t1) (od := none) ⟨he2, rfl, rfl, trivial⟩ T.oc.sa ?_
  refine PySem.HandSPX.exc_osa X2 he2 hcl (show PySem.HandSPX.refsVE (.ref C :: bm) = true from hbm) rfl T.nof (fun h3 tk3 dx k3 dn dne he3 hns3 => ?_)
  refine wpAny_execs_nil (go h3 _ dx t1 ⟨fun b o hb z => k3 b o hb (ek b o hb (kp _ _ z)), he3, ?_, dne, hns3⟩)
  have z1 : s.heap.objs.size < h2.objs.size := by
    obtain ⟨oL, es, ep, hL, r⟩ := hns2
    exact Heap.lt_size hL
  exact Nat.le_trans (Nat.le_of_lt z1) dn
/-- a new exception at e, its dict at d -/
structure XMade (h h' : Heap) (e C d : Addr) (fld : Str) (v : Value) : Prop where
  keep : ∀ b o, h.get? b = some o → h'.get? b = some o
  new : h.objs.size ≤ e
  obj : ∃ oe vs, h'.get? e = some oe ∧ oe.cls = .ref C ∧ oe.dict = some d ∧ oe.data = .fields vs ∧ vs[1]? = some .none
  big : h.objs.size ≤ d
  ne : d ≠ e
  ns : h'.Ns1 d (fun y => if y = fld then some v else none)
theorem x_made (T : XTxt prog K mg x qual fld st C) {v : Value} (X : K.In s.heap) (G : s.heap.Ns mainGlobals mg) (Bl : s.heap.Ns builtinsNs mb) (hb : mb "super" = bootBuiltins "super") (lim : s.heap.NoLimit) (room : A.depth + 1 < recursionLimit)
    (go : ∀ h' tk e d, XMade s.heap h' e C d fld v → R (.ok (.ret (.ref e))) { s with heap := h', toks := tk }) : codeAny (model prog w) A (.call (.ref C) ⟨[v], []⟩) R s := by
  obtain ⟨fI, cc, cda, oc, od, kV, doc, pm, ct, an, osl, ccl, cl, cdd, cld, vs, ccs, csl, file, tf, iC, tI, _⟩ := id T.fn
  obtain ⟨nm, q, N, bs, bm, sn, sub, ab, col, dd, k0, k1, k2, k3, k5, hC, hbm⟩ := T.oc.cls
  obtain ⟨hp, g, dr, tk, os⟩ := s
  have up : ∀ b o, hp.get? b = some o → ((hp.push (kdv_tup [v])).push (PySem.HandSPX.excO C hp.objs.size)).get? b = some o := fun b o z => Heap.get?_push_of_some _ (Heap.get?_push_of_some _ z)
  have he : ((hp.push (kdv_tup [v])).push (PySem.HandSPX.excO C hp.objs.size)).get? (hp.objs.size + 1) = some (PySem.HandSPX.excO C hp.objs.size) := by heap_get
  have hne : K.lookup (hp.objs.size + 1) = none := by
    cases z : K.lookup (hp.objs.size + 1) with
    | none => rfl
    | some o => exact absurd (Nat.lt_of_succ_lt (Heap.lt_size (show hp.get? (hp.objs.size + 1) = some o from X _ _ z))) (Nat.lt_irrefl _)
  refine PySem.HandSPX.call_own F.excBase_ValueError (fun Y => PySem.HandSPX.refsVE_contains Y bm hbm) (X _ _ hC) (looks_findIn X iC) (fun self => bind_fn X self tI) (by show 1 ≤ sizeLine; rw [sizeLine_eq]; decide) ?_
  refine x_init (s := ⟨(hp.push (kdv_tup [v])).push (PySem.HandSPX.excO C hp.objs.size), g, dr, tk, os⟩) T iC (X.keeps up) (G.keeps up) (Bl.keeps up) hb (lim.keeps up) he hne ?_ fun h' tk' dx t1 D => ?_
  · exact room
  · have old : ∀ b o, hp.get? b = some o → h'.get? b = some o := fun b o z => D.keep b o (Nat.ne_of_lt (Nat.lt_succ_of_lt (Heap.lt_size z))) (up b o z)
    have big := D.big
    rw [Heap.size_push, Heap.size_push] at big
    exact ⟨rfl, go h' tk' (hp.objs.size + 1) dx ⟨old, Nat.le_succ _, ⟨_, _, D.obj, rfl, rfl, rfl, rfl⟩, Nat.le_trans (Nat.le_trans (Nat.le_succ _) (Nat.le_succ _)) big, D.ne, D.ns⟩⟩
end
/-- x(e) -/
def tXMk (C : Addr) (fld : Str) (ta : TA) : L2.St → Hp → XK → Prop := fun σ H Q => ta σ H fun vs H1 => ∃ v, vs = [v] ∧ ∀ d, H1 d = none → Q (.ref C) (some d) (upd H1 d (.xd [(fld, v)]))
section
variable {X : Cx} {C : Addr} {x qual fld : Str} {st : Stmt}
theorem pmk_x {a : Expr} {ta : TA} {p pos : Pos} {k : Nat} (T : XTxt X.prog X.K X.mg x qual fld st C) (hr : Room k X.A) (ha : PA X [a] ta) (hg : Gl X x := by rfl) (hdb : (x == ("__debug__" : Str)) = false := by decide)
    (he : starEach (a :: []) X.env = (false, eval a X.env) :: starEach [] X.env := by rfl) (hpl : (backTo pos (starEach [] X.env)).any (·.1) = false := by rfl) : PMk X (.Call (.Name x p) [a] [] pos) (tXMk C fld ta) := by
  intro pins s σ H Q I h
  refine wpAny_Call_Name_kw (ld_glob I hg T.gC ?_ hdb)
  refine PySem.W.callWith_K (h₀ := X.base) I.ok.mod.kin T.oc.kC (thn (ha.run pos pins s σ H _ I h) fun us s1 hh => ?_) he hpl
  obtain ⟨vs, H1, I1, r1, v, rfl, q1⟩ := hh
  refine ⟨I1.kIn, ?_⟩
  match us, r1 with
  | [v'], .cons rv .nil =>
    have lim := I1.nolimit
    obtain ⟨mb, b1, b2⟩ := I1.mod.blt
    have G1 := I1.mod.glob.keeps I1.bk
    have B1 := b1.keeps I1.bk
    obtain ⟨hp, g, dr, tk, os⟩ := s1
    show wpAny _ _ (call (.ref C) [v']) _ _ _
    refine wpAny_call (x_made T I1.kIn G1 B1 (b2 "super" (by decide)) lim (by have := hr.dp; omega) fun h' tk' e d M => ?_)
    show MkP X pins σ Q (.ref e) ⟨h', g, dr, tk', os⟩
    obtain ⟨oe, fv, hoe, hc, hd, hdat, h1⟩ := M.obj
    obtain ⟨G', g1, g2⟩ := restrict h' fun b => decide (b ≠ e)
    have gk : ∀ b, b ≠ e → G'.get? b = h'.get? b := fun b hb => g1 b (decide_eq_true hb)
    have ge : G'.get? e = none := g2 e (by simp)
    have old : ∀ b o, hp.get? b = some o → G'.get? b = some o := fun b o z => (gk b (Nat.ne_of_lt (Nat.lt_of_lt_of_le (Heap.lt_size z) M.new))).trans (M.keep b o z)
    have ob : ObjOk X.prog X.w (upd H1 d (.xd [(fld, v)])) G' d (.xd [(fld, v)]) :=
      ⟨_, M.ns.at (fun o z => (gk d M.ne).trans z), relO_put (fs := []) rv fun g => True.intro⟩
    have J : Inv X pins σ (upd H1 d (.xd [(fld, v)])) ⟨G', g, dr, tk', os⟩ := I1.laid (t' := tk') old M.big ob
    refine ⟨e, oe, fv, ⟨G', g, dr, tk', os⟩, _, .ref C, some d, rfl, J, fun b o z => ?_, ge, hoe, ⟨hc, hd⟩, hdat, h1, ?_, rfl, I1.bare, raises_own T.oc.exC T.oc.tyC, q1 d (I1.hok.fresh M.big)⟩
    · by_cases hb : b = e
      · subst hb
        exact absurd (ge.symm.trans z) (by simp)
      · exact (gk b hb).symm.trans z
    · rw [upd_ne (Ne.symm M.ne)]
      exact I1.hok.fresh M.new
/-- raise x(e), out of the def -/
theorem ps_x {a : Expr} {ta : TA} {W : WX} {p pos pos2 : Pos} {k : Nat} (hc : X.calm = true) (T : XTxt X.prog X.K X.mg x qual fld st C) (hr : Room k X.A) (tk : Takes X W) (ha : PA X [a] ta) (hg : Gl X x := by rfl) (hdb : (x == ("__debug__" : Str)) = false := by decide)
    (he : starEach (a :: []) X.env = (false, eval a X.env) :: starEach [] X.env := by rfl) (hpl : (backTo pos (starEach [] X.env)).any (·.1) = false := by rfl) :
    PS X (.Raise (some (.Call (.Name x p) [a] [] pos)) none pos2) (fun _ σ H => tXMk C fld ta σ H fun cls d H' => W cls d σ H') := ps_raise hc tk (pmk_x T hr ha hg hdb he hpl)
end
end G

/-! part Bag -/
/-! The bag of draws: a dict that a law's defs change; beside it nothing that was is changed. -/
namespace G
open PySem PySem.Spec PyProof.Rows L2
theorem del_upd {H : Hp} {b p : Addr} {o : HO} (n : p ≠ b) : del (upd H p o) b = upd (del H b) p o := by
  funext x
  by_cases e : x = b
  · subst e
    rw [del_same, upd_ne (Ne.symm n), del_same]
  · rw [del_ne e]
    by_cases f : x = p
    · subst f; rw [upd_same, upd_same]
    · rw [upd_ne f, upd_ne f, del_ne e]
theorem del_upd_self {H : Hp} {b : Addr} {o : HO} : del (upd H b o) b = del H b := by
  funext x
  by_cases e : x = b
  · subst e; rw [del_same, del_same]
  · rw [del_ne e, del_ne e, upd_ne e]
theorem del_sub {H : Hp} {b : Addr} : Same (del H b) H := fun a o e => by
  by_cases z : a = b
  · subst z; rw [del_same] at e; cases e
  · rw [del_ne z] at e; exact e
theorem del_at {H : Hp} {a b : Addr} {o : HO} (e : del H b a = some o) : a ≠ b := fun z => by subst z; rw [del_same] at e; cases e
/-- nothing but the thing at b is changed -/
structure Pb (b : Addr) (F H F' H' : Hp) : Prop where
  pu : Pu F (del H b) F' (del H' b)
theorem Pb.sub {b : Addr} {F H F' H' : Hp} (q : Pb b F H F' H') : Same F' H' := q.pu.sub.trans del_sub
theorem Pb.ff {b : Addr} {F H F' H' : Hp} (q : Pb b F H F' H') : Same F F' := q.pu.ff
theorem Pb.trans {b : Addr} {F H F1 H1 F2 H2 : Hp} (p : Pb b F H F1 H1) (q : Pb b F1 H1 F2 H2) : Pb b F H F2 H2 := ⟨p.pu.trans q.pu⟩
theorem same_del {b : Addr} {F H : Hp} (s : Same F H) (f : F b = none) : Same F (del H b) := fun a o e => by
  rw [del_ne (fun z => by subst z; rw [f] at e; cases e)]
  exact s a o e
theorem Pb.refl {b : Addr} {F H : Hp} (s : Same F H) (f : F b = none) : Pb b F H F H := ⟨Pu.refl (same_del s f)⟩
theorem Pu.pb {b : Addr} {F H F' H' : Hp} (q : Pu F H F' H') (f : F b = Option.none) (h : H b ≠ Option.none) : Pb b F H F' H' := by
  have f' : F' b = Option.none := q.none f h
  refine ⟨⟨fun a o e => ?_, q.ff, same_del q.sub f', fun a o e => ?_⟩⟩
  · have n := del_at e
    rw [del_ne n] at e ⊢
    exact q.same a o e
  · rcases q.grow.fresh a o e with z | z
    · exact .inl z
    · refine .inr ?_
      rw [del_ne (fun y => by subst y; rw [f'] at e; cases e)]
      exact z
theorem Pb.self {b : Addr} {F H : Hp} {o : HO} (s : Same F H) (f : F b = none) : Pb b F H F (upd H b o) := ⟨by rw [del_upd_self]; exact Pu.refl (same_del s f)⟩
theorem Pb.keep {b a : Addr} {F H F' H' : Hp} {o : HO} (q : Pb b F H F' H') (n : a ≠ b) (e : H a = some o) : H' a = some o := by
  have := q.pu.same a o (by rw [del_ne n]; exact e)
  rwa [del_ne n] at this

structure BagS where
  cells : List Int
  at_ : Nat
  digits : Int
  count : Nat
  fold : Int
def bagKv (cl : Addr) (s : BagS) : List (L2.Key × V) := [(Sum.inr "cells", .ref cl), (Sum.inr "at", .int s.at_), (Sum.inr "digits", .int s.digits), (Sum.inr "count", .int s.count), (Sum.inr "fold", .int s.fold)]
structure BagOk (F : Hp) (b cl : Addr) (n : Nat) (s : BagS) (H : Hp) : Prop where
  ob : H b = some (.dK (bagKv cl s))
  ce : F cl = some (.lst (s.cells.map V.int))
  al : s.at_ ≤ s.cells.length
  cl : s.cells.length ≤ 1000
  dg : 0 ≤ s.digits
  co : s.count ≤ n
  f0 : 0 ≤ s.fold
  f1 : s.fold < 2147483587
def BagIn (F : Hp) (b : Addr) (n : Nat) (H : Hp) : Prop := ∃ cl s, BagOk F b cl n s H
theorem BagIn.ne {F : Hp} {b : Addr} {n : Nat} {H : Hp} (h : BagIn F b n H) : H b ≠ none := by
  obtain ⟨cl, s, h⟩ := h
  exact ne_none h.ob
theorem BagIn.mono {F F' H H' : Hp} {b : Addr} {n n' : Nat} (h : BagIn F b n H) (s : Same F F') (e : ∀ o, H b = some o → H' b = some o) (hn : n ≤ n' := by omega) : BagIn F' b n' H' := by
  obtain ⟨cl, t, h⟩ := h
  exact ⟨cl, t, e _ h.ob, s _ _ h.ce, h.al, h.cl, h.dg, Nat.le_trans h.co hn, h.f0, h.f1⟩
theorem kv_at (cl : Addr) (s : BagS) : valV (bagKv cl s) (Sum.inr "at") = some (.int s.at_) ∧ valV (bagKv cl s) (Sum.inr "cells") = some (.ref cl) ∧ valV (bagKv cl s) (Sum.inr "digits") = some (.int s.digits) ∧ valV (bagKv cl s) (Sum.inr "count") = some (.int s.count) ∧ valV (bagKv cl s) (Sum.inr "fold") = some (.int s.fold) := by
  have n1 : ¬ (("cells" : Str) = "at") := by decide +kernel
  have n2 : ¬ (("cells" : Str) = "digits") := by decide +kernel
  have n3 : ¬ (("cells" : Str) = "count") := by decide +kernel
  have n4 : ¬ (("cells" : Str) = "fold") := by decide +kernel
  have n5 : ¬ (("at" : Str) = "digits") := by decide +kernel
  have n6 : ¬ (("at" : Str) = "count") := by decide +kernel
  have n7 : ¬ (("at" : Str) = "fold") := by decide +kernel
  have n8 : ¬ (("digits" : Str) = "count") := by decide +kernel
  have n9 : ¬ (("digits" : Str) = "fold") := by decide +kernel
  have n10 : ¬ (("count" : Str) = "fold") := by decide +kernel
  have g : ∀ {a b : Str}, ¬ a = b → ¬ ((Sum.inr a : L2.Key) = Sum.inr b) := fun h e => h (Sum.inr.inj e)
  unfold bagKv
  refine ⟨?_, ?_, ?_, ?_, ?_⟩
  · rw [valV_neg (g n1), valV_pos rfl]
  · rw [valV_pos rfl]
  · rw [valV_neg (g n2), valV_neg (g n5), valV_pos rfl]
  · rw [valV_neg (g n3), valV_neg (g n6), valV_neg (g n8), valV_pos rfl]
  · rw [valV_neg (g n4), valV_neg (g n7), valV_neg (g n9), valV_neg (g n10), valV_pos rfl]
theorem kv_put (cl : Addr) (s : BagS) (i : Int) (k : Nat) : putK (bagKv cl s) (Sum.inr "at") (.int k) = bagKv cl { s with at_ := k } ∧ putK (bagKv cl s) (Sum.inr "digits") (.int i) = bagKv cl { s with digits := i } ∧
    putK (bagKv cl s) (Sum.inr "count") (.int k) = bagKv cl { s with count := k } ∧ putK (bagKv cl s) (Sum.inr "fold") (.int i) = bagKv cl { s with fold := i } := by
  have n1 : ¬ (("cells" : Str) = "at") := by decide +kernel
  have n2 : ¬ (("cells" : Str) = "digits") := by decide +kernel
  have n3 : ¬ (("cells" : Str) = "count") := by decide +kernel
  have n4 : ¬ (("cells" : Str) = "fold") := by decide +kernel
  have n5 : ¬ (("at" : Str) = "digits") := by decide +kernel
  have n6 : ¬ (("at" : Str) = "count") := by decide +kernel
  have n7 : ¬ (("at" : Str) = "fold") := by decide +kernel
  have n8 : ¬ (("digits" : Str) = "count") := by decide +kernel
  have n9 : ¬ (("digits" : Str) = "fold") := by decide +kernel
  have n10 : ¬ (("count" : Str) = "fold") := by decide +kernel
  refine ⟨?_, ?_, ?_, ?_⟩ <;> simp [putK, bagKv, n1, n2, n3, n4, n5, n6, n7, n8, n9, n10, Ne.symm n1, Ne.symm n2, Ne.symm n3, Ne.symm n4, Ne.symm n5, Ne.symm n6, Ne.symm n7, Ne.symm n8, Ne.symm n9, Ne.symm n10]
/-- one's own things beside the bag -/
structure Bw (b : Addr) (F0 H0 F H : Hp) (n : Nat) (ls : List (Addr × HO)) : Prop where
  w : Own F0 (del H0 b) F (del H b) ls
  bg : BagIn F b n H
section
variable {b : Addr} {F0 H0 F H F' H' : Hp} {n m : Nat} {ls : List (Addr × HO)} {p : Addr} {o o' : HO}
theorem Bw.nil (s : Same F H) (f : F b = none) (g : BagIn F b n H) : Bw b F H F H n [] := ⟨Own.nil (Pu.refl (same_del s f)), g⟩
theorem Bw.fb (w : Bw b F0 H0 F H n ls) : F b = none := by
  cases q : F b with
  | none => rfl
  | some o => exact absurd rfl (del_at (w.w.sub b o q))
theorem Bw.nb (w : Bw b F0 H0 F H n ls) (h : H p = none) : p ≠ b := fun e => by subst e; exact w.bg.ne h
theorem Bw.at (w : Bw b F0 H0 F H n ls) (i : Nat) (e : ls[i]? = some (p, o) := by rfl) : H p = some o := del_sub _ _ (w.w.at i e)
theorem Bw.nf (w : Bw b F0 H0 F H n ls) (i : Nat) (e : ls[i]? = some (p, o) := by rfl) : F p = none := w.w.nf i e
theorem Bw.sub (w : Bw b F0 H0 F H n ls) : Same F H := w.w.sub.trans del_sub
theorem Bw.ff (w : Bw b F0 H0 F H n ls) : Same F0 F := w.w.ff
theorem Bw.pb (w : Bw b F0 H0 F H n ls) : Pb b F0 H0 F H := ⟨w.w.pu⟩
theorem Bw.call (w : Bw b F0 H0 F H n ls) (q : Pb b F H F' H') (g : BagIn F' b m H') : Bw b F0 H0 F' H' m ls := ⟨w.w.step q.pu, g⟩
theorem Bw.step (w : Bw b F0 H0 F H n ls) (q : Pu F H F' H') : Bw b F0 H0 F' H' n ls := w.call (q.pb w.fb w.bg.ne) (w.bg.mono q.ff (fun o e => q.same _ _ e))
theorem Bw.tmp (w : Bw b F0 H0 F H n ls) (s : Same H H') : Bw b F0 H0 F H' n ls := w.step ⟨s, Grow.tmp w.sub s⟩
theorem Bw.le (w : Bw b F0 H0 F H n ls) (h : n ≤ m) : Bw b F0 H0 F H m ls := ⟨w.w, w.bg.mono (Same.refl _) (fun o e => e) h⟩
theorem Bw.new (w : Bw b F0 H0 F H n ls) (h : H p = none) : Bw b F0 H0 F (upd H p o) n ((p, o) :: ls) := by
  have nb := w.nb h
  refine ⟨?_, w.bg.mono (Same.refl _) fun u e => by rw [upd_ne (Ne.symm nb)]; exact e⟩
  rw [del_upd nb]
  exact w.w.new (by rw [del_ne nb]; exact h)
theorem Bw.add (w : Bw b F0 H0 F H n ls) (h : H p = none) : Bw b F0 H0 (upd F p o) (upd H p o) n ls := w.step ((Pu.refl w.sub).add h)
theorem Bw.add' (w : Bw b F0 H0 F H n ls) (h : H p = none) : ∃ F', Bw b F0 H0 F' (upd H p o) n ls ∧ Same F F' ∧ F' p = some o := ⟨_, w.add h, Same.new (w.sub.free h), upd_same⟩
theorem Bw.mut (w : Bw b F0 H0 F H n ls) (i : Nat) (e : ls[i]? = some (p, o) := by rfl) : Bw b F0 H0 F (upd H p o') n (ls.set i (p, o')) := by
  have nb : p ≠ b := del_at (w.w.at i e)
  refine ⟨?_, w.bg.mono (Same.refl _) fun u e => by rw [upd_ne (Ne.symm nb)]; exact e⟩
  rw [del_upd nb]
  exact w.w.mut i e
theorem Bw.fix (w : Bw b F0 H0 F H n ls) (i : Nat) (e : ls[i]? = some (p, o) := by rfl) : Bw b F0 H0 (upd F p o) H n (ls.eraseIdx i) :=
  ⟨w.w.fix i e, w.bg.mono (w.w.ext i e) fun o e => e⟩
theorem Bw.ext (w : Bw b F0 H0 F H n ls) (i : Nat) (e : ls[i]? = some (p, o) := by rfl) : Same F (upd F p o) := Same.new (w.nf i e)
theorem Bw.lc (w : Bw b F0 H0 F H n ls) (h : H p = none) (q : Pu F H F' H') (f : F' p = none) (e : H' p = some o) : Bw b F0 H0 F' H' n ((p, o) :: ls) := by
  have nb := w.nb h
  have w2 := w.step q
  refine ⟨?_, w2.bg⟩
  have qb := q.pb w.fb w.bg.ne
  exact w.w.lc (by rw [del_ne nb]; exact h) qb.pu f (by rw [del_ne nb]; exact e)
theorem Bw.drop (w : Bw b F0 H0 F H n ((p, o) :: ls)) : Bw b F0 H0 F H n ls := ⟨⟨w.w.pu, fun i q u e => w.w.al (i + 1) q u (by simpa using e), (List.nodup_cons.mp w.w.nd).2⟩, w.bg⟩
end
theorem atI_int {α : Type} {xs : List α} {i : Int} {v : α} (h0 : 0 ≤ i) (h : xs[i.toNat]? = some v) : atI xs i = some v := by
  have := atI_nat h
  rwa [Int.toNat_of_nonneg h0] at this
/-- a comprehension whose elements draw -/
theorem go_lcB {J : It} {n : Nat} {Gd : Hp → Prop} {Y : Nat → Hp → V → Hp → Prop} {β : Type} (wk : Walk J n Gd Y) {b : Addr} {F0 H0 F1 H1 : Hp} {n0 : Nat} {ls : List (Addr × HO)} {g : TG} {tt : TT} {te : TE} {vs : List Nat} {σ : L2.St} {D : Addr} {Qd : Hp → Prop}
    (w0 : Bw b F0 H0 F1 H1 n0 ls) (nD : H1 D = none) (A : Rp β) (c : Nat) (P : Nat → List β → Prop) (hn : n ≤ 100000) (h0 : P 0 []) (hG : ∀ F H m, Bw b F0 H0 F H m ls → Same F1 F → (∀ a o, a ≠ b → H1 a = some o → H a = some o) → Gd H)
    (hs : ∀ (i : Nat) (x : V) (ds : List β) (F H : Hp) (l : List V) (H' : Hp) (N : Hp → Prop), i < n → Bw b F0 H0 F H (n0 + c * i) ((D, .lst l) :: ls) → Same F1 F → (∀ a o, a ≠ b → H1 a = some o → H a = some o) → P i ds → Y i H x H' →
      (∀ y H4 F4 d, Bw b F0 H0 F4 H4 (n0 + c * (i + 1)) ((D, .lst l) :: ls) → Pb b F H F4 H4 → A.rel d y F4 → P (i + 1) (ds ++ [d]) → ∃ acc, H4 D = some (.lst acc) ∧ acc.length < sizeLine ∧ N (upd H4 D (.lst (acc ++ [y])))) →
      (∀ H3 F3, Bw b F0 H0 F3 H3 (n0 + c * (i + 1)) ((D, .lst l) :: ls) → Pb b F H F3 H3 → P (i + 1) ds → N H3) →
      g x (wipe σ vs) H' fun σ2 H2 => wipe σ2 vs = wipe σ vs ∧ tt σ2 H2 fun k H3 =>
      if k = true then te σ2 H3 fun y H4 => ∃ acc, H4 D = some (.lst acc) ∧ acc.length < sizeLine ∧ N (upd H4 D (.lst (acc ++ [y]))) else N H3)
    (hd : ∀ ds F H ys, Bw b F0 H0 F H (n0 + c * n) ((D, .lst ys) :: ls) → Same F1 F → Paired (fun d x => A.rel d x F) ds ys → P n ds → Qd H) :
    ∃ W : Nat → Nat → Hp → Prop, (∃ m, W 0 m (upd H1 D (.lst []))) ∧ ∀ i m H, W i m H →
      (J.stop i H ∧ Qd H) ∨ (J.go i H ∧ ∃ Nx : Hp → Prop, (∀ H', Nx H' → ∃ m', m' < m ∧ W (i + 1) m' H') ∧ ∀ x H', J.yld i H x H' → g x (wipe σ vs) H' fun σ2 H2 => wipe σ2 vs = wipe σ vs ∧ tt σ2 H2 fun k H3 =>
        if k = true then te σ2 H3 fun y H4 => ∃ acc, H4 D = some (.lst acc) ∧ acc.length < sizeLine ∧ Nx (upd H4 D (.lst (acc ++ [y]))) else Nx H3) := by
  have up : ∀ {H : Hp} {l l' : List V} , (∀ a o, a ≠ b → H1 a = some o → H a = some o) → ∀ a o, a ≠ b → H1 a = some o → (upd H D (.lst l')) a = some o := fun k a o n e => by
    rw [upd_ne (ne_of_none e nD)]
    exact k a o n e
  refine lc_it wk (fun i H => ∃ F ys ds, Bw b F0 H0 F H (n0 + c * i) ((D, .lst ys) :: ls) ∧ Same F1 F ∧ (∀ a o, a ≠ b → H1 a = some o → H a = some o) ∧ P i ds ∧ ys.length ≤ i ∧ Paired (fun d x => A.rel d x F) ds ys) ?_ (fun i H hi ⟨F, ys, ds, w, s, k, _⟩ => hG F H _ w.drop s k)
    (fun i x H H' hi ⟨F, ys, ds, w, s, k, hp, hl, pd⟩ y => ?_) (fun H ⟨F, ys, ds, w, s, k, hp, hl, pd⟩ => hd ds F H ys w s pd hp)
  · exact ⟨F1, [], [], (w0.new nD).le (by omega), Same.refl _, up (l := []) (fun a o _ e => e), h0, Nat.le_refl 0, .nil⟩
  · refine hs i x ds F H ys H' _ hi w s k hp y (fun y H4 F4 d w4 q r e => ?_) (fun H3 F3 w3 q e => ?_)
    · refine ⟨ys, w4.at 0, szl (by omega), F4, ys ++ [y], ds ++ [d], w4.mut 0, s.trans q.ff, up (l := ys) (fun a o n e => q.keep n (k a o n e)), e, by simp; omega, pd_snoc (pd_mono (fun _ _ => A.mono q.ff) pd) r⟩
    · exact ⟨F3, ys, ds, w3, s.trans q.ff, fun a o n e => q.keep n (k a o n e), e, by omega, pd_mono (fun _ _ => A.mono q.ff) pd⟩
end G

/-! part B1 -/
namespace TR
open PySem PySem.Spec PyProof.Rows L2 G
section
variable {P : Program} {w : World} {K : PySem.W.Frag} {mg : Str → Option Value} {base : Heap}
abbrev s_w_bag : Stmt := top 44
abbrev N_w_bag : List Str := ["_law_script", "_law_fold", "_law_cell"]
abbrev P_w_bag : List Str := ["_law_script"]
theorem sc_w_bag : FnScope N_w_bag P_w_bag (defScope s_w_bag) := ⟨rfl, rfl, rfl, by decide +kernel, rfl, by decide +kernel, by decide +kernel⟩
theorem bn_w_bag : BindsNo "_law_bag" "_law_bag" s_w_bag P_w_bag := fun _ _ _ _ _ _ us hl => match us, hl with | [_], _ => rfl
def sp_bag (K : PySem.W.Frag) : Sp := fun vs H Q _ => ∃ (F : Hp) (a : Addr) (ns : List Int), vs = [.ref a] ∧ Same F H ∧ SqL K F a (ns.map V.int) ∧ (∀ H', Same F H' → SqL K H' a (ns.map V.int)) ∧ ns.length ≤ 1000 ∧
  ∀ (b : Addr) (F' H' : Hp), Pu F H F' H' → H b = none → F' b = none → BagIn F' b 0 H' → Q (.ref b) H'
theorem ok_bag (B : Bt mg) (F : FnF K mg "_law_bag" s_w_bag []) : Cal P w K mg base 1 "_law_bag" (sp_bag K) := by
  refine F.cal sc_w_bag bn_w_bag (fun vs H Q E h => ?_) (fun f cdv A outer s H vs Q E hr h => ?_)
  · obtain ⟨_, _, _, rfl, _⟩ := h
    rfl
  · obtain ⟨F, a, ns, rfl, sF, ha, hk, hlen, k⟩ := h
    refine ⟨_, (pss_cons (ps_set (i := 1) sc_w_bag.nd rfl (Or.inl rfl) pe_int)
    (pss_cons (ps_for (passes_of rfl) rfl (k_il (pv 0) (K := K)) (pg_name (i := 2) sc_w_bag.nd rfl (Or.inl rfl))
    (pss_one (ps_set (i := 1) sc_w_bag.nd rfl (Or.inl rfl) (pe_op op_mod (pe_callTy call_int1 (by rfl) B.int (by decide +kernel) (pa_cons (pe_op op_addU (pe_op op_mulU (pv 1) pe_int) (pv 2)) pa_nil)) pe_int))))
    (pss_one (ps_ret (pe_disp (pps_cons pe_str (pe_callTy (k_list (K := K)) (by rfl) B.list (by decide +kernel) (pa_cons (pv 0) pa_nil)) (pps_cons pe_str pe_int (pps_cons pe_str pe_int (pps_cons pe_str pe_int (pps_cons pe_str (pv 1) pps_nil))))) (by rfl) (by rfl) (fun z => by cases z) (by decide)))))), ?_⟩
    refine ⟨_, rfl, a, rfl, ⟨_, hk _ sF⟩, ?_⟩
    refine for_it (walk_list (xs := ns.map V.int)) (fun i σ H' => ∃ (fo : Int) (c : Option V), H' = H ∧ 0 ≤ fo ∧ fo < 1000000009 ∧ σ = [some (.ref a), some (.int fo), c]) ⟨0, none, rfl, by omega, by omega, rfl⟩ (fun i σ H' _ ⟨fo, c, e, _⟩ => by rw [e]; exact hk _ sF) ?_ ?_
    · rintro i y σ H' H'' hi ⟨fo, c, rfl, h1, h2, rfl⟩ ⟨e1, hy⟩
      subst e1
      rw [List.getElem?_map] at hy
      cases hp : ns[i]? with
      | none => rw [hp] at hy; cases hy
      | some m =>
        rw [hp] at hy
        cases hy
        refine ⟨_, rfl, .inl ⟨_, _, rfl, rfl, .inl ⟨by omega, by omega⟩, _, rfl, .inl ⟨_, _, rfl, rfl, .inl ⟨_, rfl, _, _, rfl, rfl, (by show (0 : Int) < 1000000009; decide), ?_⟩⟩⟩⟩
        exact ⟨_, _, rfl, Int.emod_nonneg _ (by decide), Int.emod_lt_of_pos _ (by decide), rfl⟩
    · rintro σ H' ⟨fo, c, rfl, h1, h2, rfl⟩
      refine fun p hp => ?_
      have w1 : Own F H' F (upd H' p (.dK [])) [(p, .dK [])] := (Own.nil (Pu.refl sF)).new hp
      refine ⟨_, rfl, a, _, rfl, .inl (hk _ w1.sub), fun l hl => ?_⟩
      refine ⟨_, rfl, ?_⟩
      have w2 := w1.add (o := .lst (ns.map V.int)) hl
      refine ⟨w2.at 0, [(Sum.inr "cells", .ref l), (Sum.inr "at", .int 0), (Sum.inr "digits", .int 0), (Sum.inr "count", .int 0), (Sum.inr "fold", .int fo)], rfl, Nat.le_of_ble_eq_true rfl, ?_⟩
      have e : mergeK [] [(Sum.inr "cells", V.ref l), (Sum.inr "at", .int 0), (Sum.inr "digits", .int 0), (Sum.inr "count", .int 0), (Sum.inr "fold", .int fo)] = bagKv l ⟨ns, 0, 0, 0, fo⟩ := by
        have n1 : ¬ (("cells" : Str) = "at") := by decide +kernel
        have n2 : ¬ (("cells" : Str) = "digits") := by decide +kernel
        have n3 : ¬ (("cells" : Str) = "count") := by decide +kernel
        have n4 : ¬ (("cells" : Str) = "fold") := by decide +kernel
        have n5 : ¬ (("at" : Str) = "digits") := by decide +kernel
        have n6 : ¬ (("at" : Str) = "count") := by decide +kernel
        have n7 : ¬ (("at" : Str) = "fold") := by decide +kernel
        have n8 : ¬ (("digits" : Str) = "count") := by decide +kernel
        have n9 : ¬ (("digits" : Str) = "fold") := by decide +kernel
        have n10 : ¬ (("count" : Str) = "fold") := by decide +kernel
        simp [mergeK, putK, bagKv, n1, n2, n3, n4, n5, n6, n7, n8, n9, n10]
      rw [e]
      have w3 := w2.mut (o' := .dK (bagKv l ⟨ns, 0, 0, 0, fo⟩)) 0
      exact k p _ _ w3.pu hp (w3.nf 0) ⟨l, _, w3.at 0, upd_same, Nat.zero_le _, hlen, by show (0 : Int) ≤ 0; omega, Nat.le_refl 0, h1, by show fo < 2147483587; omega⟩
abbrev s_w_draw : Stmt := top 45
abbrev N_w_draw : List Str := ["_law_bag_here", "_law_limit", "_law_cell", "_law_digit", "_law_base"]
abbrev P_w_draw : List Str := ["_law_bag_here", "_law_limit"]
theorem sc_w_draw : FnScope N_w_draw P_w_draw (defScope s_w_draw) := ⟨rfl, rfl, rfl, by decide +kernel, rfl, by decide +kernel, by decide +kernel⟩
theorem bn_w_draw : BindsNo "_law_draw" "_law_draw" s_w_draw P_w_draw := fun _ _ _ _ _ _ us hl => match us, hl with | [_, _], _ => rfl
def sp_draw : Sp := fun vs H Q _ => ∃ (F : Hp) (b : Addr) (n : Nat) (lim : Int), vs = [.ref b, .int lim] ∧ Same F H ∧ F b = none ∧ BagIn F b n H ∧ 0 < lim ∧ lim < 100000 ∧ n < 1000000000 ∧
  ∀ i H', 0 ≤ i → i < lim → Pb b F H F H' → BagIn F b (n + 1) H' → Q (.int i) H'
theorem ok_draw (B : Bt mg) (F : FnF K mg "_law_draw" s_w_draw []) : Cal P w K mg base 1 "_law_draw" sp_draw := by
  refine F.cal sc_w_draw bn_w_draw (fun vs H Q E h => ?_) (fun f cdv A outer s H vs Q E hr h => ?_)
  · obtain ⟨_, _, _, _, rfl, _⟩ := h
    rfl
  · obtain ⟨F, b, n, lim, rfl, sF, fb, ⟨cl, t, g⟩, l0, l1, hn, k⟩ := h
    refine ⟨_, (pss_cons (ps_dput (hu_of hr) (pv 0) pe_str (pe_op op_addU (pe_dget (hu_of hr) (pv 0) pe_str (fun _ _ => rfl)) pe_int) rfl)
    (pss_cons (ps_if (PW.pt (pw_and (pt_cmpR (op_eqU hr (K := K)) (pe_dget (hu_of hr) (pv 0) pe_str (fun _ _ => rfl)) pe_int (nomark _)) (pw_and1 (pt_cmpR op_lt (pe_dget (hu_of hr) (pv 0) pe_str (fun _ _ => rfl)) (pe_callB (call_lenU (K := K)) (by rfl) B.len (by decide +kernel) (pa_cons (pe_dget (hu_of hr) (pv 0) pe_str (fun _ _ => rfl)) pa_nil)) (nomark _))))) (pss_cons (ps_set (i := 2) sc_w_draw.nd rfl (Or.inl rfl) (pe_ix (k_ix (K := K)) (pe_dget (hu_of hr) (pv 0) pe_str (fun _ _ => rfl)) (pe_dget (hu_of hr) (pv 0) pe_str (fun _ _ => rfl)) (fun _ _ => rfl)))
    (pss_cons (ps_dput (hu_of hr) (pv 0) pe_str (pe_op op_addU (pe_dget (hu_of hr) (pv 0) pe_str (fun _ _ => rfl)) pe_int) rfl)
    (pss_one (ps_if (pt_cmpR op_ge (pv 2) (pe_op op_pow pe_int pe_int) (nomark _)) (pss_one (ps_dput (hu_of hr) (pv 0) pe_str (pe_op op_sub (pv 2) (pe_op op_pow pe_int pe_int)) rfl)) (pss_one (ps_dput (hu_of hr) (pv 0) pe_str (pe_op op_mod (pe_callTy call_int1 (by rfl) B.int (by decide +kernel) (pa_cons (pe_op op_addU (pe_op op_mulU (pe_dget (hu_of hr) (pv 0) pe_str (fun _ _ => rfl)) pe_int) (pv 2)) pa_nil)) pe_int) rfl)))))) pss_nil)
    (pss_cons (ps_if (pt_cmpR op_gt (pe_dget (hu_of hr) (pv 0) pe_str (fun _ _ => rfl)) pe_int (nomark _)) (pss_cons (ps_set (i := 3) sc_w_draw.nd rfl (Or.inl rfl) (pe_op op_mod (pe_callTy call_int1 (by rfl) B.int (by decide +kernel) (pa_cons (pe_dget (hu_of hr) (pv 0) pe_str (fun _ _ => rfl)) pa_nil)) (pv 1)))
    (pss_cons (ps_dput (hu_of hr) (pv 0) pe_str (pe_op op_fdivU (pe_dget (hu_of hr) (pv 0) pe_str (fun _ _ => rfl)) (pv 1)) rfl)
    (pss_one (ps_ret (pv 3))))) pss_nil)
    (pss_cons (ps_set (i := 4) sc_w_draw.nd rfl (Or.inl rfl) (pe_op op_addU (pe_op op_addU (pe_dget (hu_of hr) (pv 0) pe_str (fun _ _ => rfl)) (pe_op op_mulU (pe_dget (hu_of hr) (pv 0) pe_str (fun _ _ => rfl)) pe_int)) pe_int))
    (pss_one (ps_ret (pe_op op_mod (pe_op op_fdivU (pe_callTy call_int1 (by rfl) B.int (by decide +kernel) (pa_cons (pe_op op_mod (pe_op op_pow (pv 4) pe_int) pe_int) pa_nil)) pe_int) (pv 1)))))))), ?_⟩
    have hc := g.co
    have hnb : cl ≠ b := fun e => by have := g.ce; rw [e, fb] at this; cases this
    -- what is left of the heap
    have sm : ∀ o, Same F (upd H b o) := fun o a u e => by
      rw [upd_ne (fun z => by subst z; rw [fb] at e; cases e)]
      exact sF a u e
    have uu : ∀ (o o' : HO), upd (upd H b o) b o' = upd H b o' := fun o o' => by
      funext x
      by_cases e : x = b
      · subst e; rw [upd_same, upd_same]
      · rw [upd_ne e, upd_ne e, upd_ne e]
    have kl : ∀ t : BagS, (bagKv cl t).length < sizeLine := fun t => szl (by show 5 ≤ 100000; decide)
    have hcel : ∀ o, SqL K (upd H b o) cl (t.cells.map V.int) := fun o => SqL.of (sm o _ _ g.ce)
    -- count
    refine ⟨_, rfl, b, _, rfl, (kv_at cl t).2.2.2.1 ▸ DGet.k (k := Sum.inr "count") g.ob, ?_⟩
    refine .inl ⟨_, _, rfl, rfl, ?_⟩
    refine ⟨_, rfl, b, _, rfl, DPut.k (k := Sum.inr "count") g.ob (kl _), ?_⟩
    rw [show (t.count : Int) + 1 = ((t.count + 1 : Nat) : Int) by omega, (kv_put cl t 0 (t.count + 1)).2.2.1]
    dsimp only
    refine sj (R := fun σ2 H2 => ∃ (t2 : BagS) (c : Option V), H2 = upd H b (.dK (bagKv cl t2)) ∧ t2.cells = t.cells ∧ t2.at_ ≤ t2.cells.length ∧ 0 ≤ t2.digits ∧ t2.count = t.count + 1 ∧ 0 ≤ t2.fold ∧ t2.fold < 2147483587 ∧ σ2 = [some (.ref b), some (.int lim), c, none, none]) ?_ (fun go => ?_)
    · rintro σ2 H2 ⟨t2, c, rfl, c1, c2, c3, c4, c5, c6, rfl⟩
      have hb : ∀ o, (upd H b o) b = some o := fun o => upd_same
      refine ⟨_, rfl, b, _, rfl, (kv_at cl t2).2.2.1 ▸ DGet.k (k := Sum.inr "digits") (hb _), ?_⟩
      refine ⟨_, _, rfl, rfl, _, rfl, ?_⟩
      by_cases hd : t2.digits > 0
      · rw [decide_eq_true hd]
        refine ⟨_, rfl, b, _, rfl, (kv_at cl t2).2.2.1 ▸ DGet.k (k := Sum.inr "digits") (hb _), .inl ⟨_, rfl, ?_⟩⟩
        refine ⟨_, rfl, _, _, rfl, rfl, l0, ?_⟩
        refine ⟨_, rfl, b, _, rfl, (kv_at cl t2).2.2.1 ▸ DGet.k (k := Sum.inr "digits") (hb _), ?_⟩
        refine ⟨_, rfl, .inl ⟨_, _, rfl, rfl, ⟨l0, by omega⟩, ?_⟩⟩
        refine ⟨_, rfl, b, _, rfl, DPut.k (k := Sum.inr "digits") (hb _) (kl _), ?_⟩
        rw [(kv_put cl t2 (t2.digits / lim) 0).2.1, uu]
        refine ⟨_, rfl, k _ _ (Int.emod_nonneg _ (by omega)) (Int.emod_lt_of_pos _ l0) (Pb.self sF fb) ⟨cl, _, upd_same, by show F cl = _; rw [c1]; exact g.ce, c2, by rw [c1]; exact g.cl, Int.ediv_nonneg (by omega) (by omega), by show t2.count ≤ _; omega, c5, c6⟩⟩
      · rw [decide_eq_false hd]
        refine ⟨_, rfl, b, _, rfl, (kv_at cl t2).2.2.2.2 ▸ DGet.k (k := Sum.inr "fold") (hb _), ?_⟩
        refine ⟨_, rfl, b, _, rfl, (kv_at cl t2).2.2.2.1 ▸ DGet.k (k := Sum.inr "count") (hb _), ?_⟩
        have hcnt : (t2.count : Int) ≤ 1000000000 := by omega
        have hcnt0 : (0 : Int) ≤ t2.count := by omega
        refine .inl ⟨_, _, rfl, rfl, .inl ⟨by omega, by omega⟩, .inl ⟨_, _, rfl, rfl, .inl ⟨_, _, rfl, rfl, ?_⟩⟩⟩
        refine ⟨_, rfl, _, _, rfl, rfl, ⟨by decide, by decide, ?_⟩, ?_⟩
        · have : 0 ≤ t2.fold + (t2.count : Int) * 7907 + 31 := by omega
          omega
        refine ⟨_, _, rfl, rfl, (by show (0 : Int) < 2305843009213693951; decide), .inl ⟨_, rfl, ?_⟩⟩
        refine .inl ⟨_, _, rfl, rfl, (by show (0 : Int) < 128 ∧ (128 : Int) < 1073741824; decide), ?_⟩
        refine ⟨_, rfl, _, _, rfl, rfl, l0, ?_⟩
        exact k _ _ (Int.emod_nonneg _ (by omega)) (Int.emod_lt_of_pos _ l0) (Pb.self sF fb) ⟨cl, _, upd_same, by show F cl = _; rw [c1]; exact g.ce, c2, by rw [c1]; exact g.cl, c3, by show t2.count ≤ _; omega, c5, c6⟩
    · have hb : ∀ o, (upd H b o) b = some o := fun o => upd_same
      refine ⟨_, rfl, b, _, rfl, (kv_at cl ({ t with count := t.count + 1 } : BagS)).2.2.1 ▸ DGet.k (k := Sum.inr "digits") (hb _), .inl ⟨rfl, _, rfl, ?_⟩⟩
      by_cases hd : t.digits = 0
      · rw [decide_eq_true (congrArg V.int hd)]
        refine iteT ⟨_, rfl, b, _, rfl, (kv_at cl ({ t with count := t.count + 1 } : BagS)).1 ▸ DGet.k (k := Sum.inr "at") (hb _), ?_⟩
        refine ⟨_, rfl, b, _, rfl, (kv_at cl ({ t with count := t.count + 1 } : BagS)).2.1 ▸ DGet.k (k := Sum.inr "cells") (hb _), .inl ⟨cl, _, rfl, .inl (hcel _), ?_⟩⟩
        refine ⟨_, _, rfl, rfl, _, rfl, ?_⟩
        rw [List.length_map]
        by_cases ha : t.at_ < t.cells.length
        · rw [decide_eq_true (show (t.at_ : Int) < (t.cells.length : Nat) by omega)]
          have hat : (t.cells.map V.int)[t.at_]? = some (.int t.cells[t.at_]) := by rw [List.getElem?_map, List.getElem?_eq_getElem ha]; rfl
          refine ⟨_, rfl, b, _, rfl, (kv_at cl ({ t with count := t.count + 1 } : BagS)).2.1 ▸ DGet.k (k := Sum.inr "cells") (hb _), ?_⟩
          refine ⟨_, rfl, b, _, rfl, (kv_at cl ({ t with count := t.count + 1 } : BagS)).1 ▸ DGet.k (k := Sum.inr "at") (hb _), .inl ⟨cl, _, _, _, rfl, rfl, hcel _, atI_nat hat, ?_⟩⟩
          refine ⟨_, rfl, b, _, rfl, (kv_at cl ({ t with count := t.count + 1 } : BagS)).1 ▸ DGet.k (k := Sum.inr "at") (hb _), .inl ⟨_, _, rfl, rfl, ?_⟩⟩
          refine ⟨_, rfl, b, _, rfl, DPut.k (k := Sum.inr "at") (hb _) (kl _), ?_⟩
          rw [show (t.at_ : Int) + 1 = ((t.at_ + 1 : Nat) : Int) by omega, (kv_put cl ({ t with count := t.count + 1 } : BagS) 0 (t.at_ + 1)).1, uu]
          refine ⟨_, rfl, _, _, rfl, rfl, ⟨by decide, by decide, by decide⟩, _, _, rfl, rfl, _, rfl, ?_⟩
          by_cases hbig : t.cells[t.at_] ≥ (10 : Int) ^ (18 : Int).toNat
          · rw [decide_eq_true hbig]
            refine ⟨_, rfl, _, _, rfl, rfl, ⟨by decide, by decide, by decide⟩, _, _, rfl, rfl, ?_⟩
            refine ⟨_, rfl, b, _, rfl, DPut.k (k := Sum.inr "digits") (hb _) (kl _), ?_⟩
            rw [(kv_put cl ({ t with count := t.count + 1, at_ := t.at_ + 1 } : BagS) (t.cells[t.at_] - (10 : Int) ^ (18 : Int).toNat) 0).2.1, uu]
            exact go _ _ ⟨_, some (.int t.cells[t.at_]), rfl, rfl, ha, by show 0 ≤ t.cells[t.at_] - (10 : Int) ^ (18 : Int).toNat; omega, rfl, g.f0, g.f1, rfl⟩
          · rw [decide_eq_false hbig]
            refine ⟨_, rfl, b, _, rfl, (kv_at cl ({ t with count := t.count + 1, at_ := t.at_ + 1 } : BagS)).2.2.2.2 ▸ DGet.k (k := Sum.inr "fold") (hb _), ?_⟩
            refine .inl ⟨_, _, rfl, rfl, .inl ⟨by have := g.f0; show -2 ^ 64 < t.fold; omega, by have := g.f1; show t.fold < 2 ^ 64; omega⟩, _, rfl, .inl ⟨_, _, rfl, rfl, .inl ⟨_, rfl, _, _, rfl, rfl, (by show (0 : Int) < 2147483587; decide), ?_⟩⟩⟩
            refine ⟨_, rfl, b, _, rfl, DPut.k (k := Sum.inr "fold") (hb _) (kl _), ?_⟩
            rw [(kv_put cl ({ t with count := t.count + 1, at_ := t.at_ + 1 } : BagS) ((t.fold * 69069 + t.cells[t.at_]) % 2147483587) 0).2.2.2, uu]
            exact go _ _ ⟨_, some (.int t.cells[t.at_]), rfl, rfl, ha, by show (0 : Int) ≤ t.digits; omega, rfl, Int.emod_nonneg _ (by decide), Int.emod_lt_of_pos _ (by decide), rfl⟩
        · rw [decide_eq_false (show ¬ (t.at_ : Int) < (t.cells.length : Nat) by omega)]
          exact iteF (go _ _ ⟨_, none, rfl, rfl, g.al, g.dg, rfl, g.f0, g.f1, rfl⟩)
      · rw [decide_eq_false (fun q => hd (V.int.inj q))]
        exact iteF (go _ _ ⟨_, none, rfl, rfl, g.al, g.dg, rfl, g.f0, g.f1, rfl⟩)
end
end TR

/-! part B2 -/
namespace TR
open PySem PySem.Spec PyProof.Rows L2 G
def IdP (k : Nat) (z : Str) : Prop := nameOk z = true ∧ z.length ≤ 1000 ∧ z.cps.toList.getLast? = some (48 + k % 10)
def numS (k : Nat) : Str := Str.ofString (toString (k : Int))
theorem numS_ok : ∀ k : Fin 100, (numS k).cps.toList.all isDig = true ∧ 1 ≤ (numS k).cps.toList.length ∧ (numS k).cps.toList.length ≤ 2 ∧ (numS k).cps.toList.getLast? = some (48 + k.val % 10) := by decide +kernel
theorem LET_at : ∀ d : Fin 26, ∃ c, LET.cps.toList[d.val]? = some c ∧ isLet c = true := by
  have h : ∀ d : Fin 26, (match LET.cps.toList[d.val]? with | some c => isLet c | none => false) = true := by decide +kernel
  intro d
  have q := h d
  cases e : LET.cps.toList[d.val]? with
  | none => rw [e] at q; cases q
  | some c => rw [e] at q; exact ⟨c, rfl, q⟩
theorem LET_len : LET.length = 26 := by decide +kernel
theorem id_ok {ls : List Nat} {z : Str} {k : Nat} (hk : k < 100) (h1 : 1 ≤ ls.length) (h2 : ls.length ≤ 2) (hl : ls.all isLet = true) (hz : z.cps.toList = ls ++ (numS k).cps.toList) : IdP k z := by
  obtain ⟨d1, d2, d3, d4⟩ := numS_ok ⟨k, hk⟩
  simp only at d1 d2 d3 d4
  have hlen : z.length = ls.length + (numS k).cps.toList.length := by
    show z.cps.size = _
    rw [← Array.length_toList, hz, List.length_append]
  refine ⟨?_, by omega, ?_⟩
  · unfold nameOk
    rw [decide_eq_true (show 1 ≤ z.length by omega), decide_eq_true (show z.length ≤ 12 by omega), hz]
    have hh : hdLet (ls ++ (numS k).cps.toList) = true := by
      cases ls with
      | nil => simp at h1
      | cons c r =>
        have := hl
        simp only [List.all_cons, Bool.and_eq_true] at this
        exact this.1
    rw [hh, List.all_append]
    have a1 : (ls.all fun c => isLet c || isDig c) = true := by
      rw [List.all_eq_true] at hl ⊢
      intro x hx
      rw [hl x hx]; rfl
    have a2 : ((numS k).cps.toList.all fun c => isLet c || isDig c) = true := by
      rw [List.all_eq_true] at d1 ⊢
      intro x hx
      rw [d1 x hx, Bool.or_true]
    rw [a1, a2]
    rfl
  · rw [hz, List.getLast?_append, d4]
    rfl
section
variable {P : Program} {w : World} {K : PySem.W.Frag} {mg : Str → Option Value} {base : Heap}
abbrev s_w_ident : Stmt := top 46
abbrev N_w_ident : List Str := ["_law_bag_here", "_law_k", "_law_letters", "_law_text"]
abbrev P_w_ident : List Str := ["_law_bag_here", "_law_k"]
theorem sc_w_ident : FnScope N_w_ident P_w_ident (defScope s_w_ident) := ⟨rfl, rfl, rfl, by decide +kernel, rfl, by decide +kernel, by decide +kernel⟩
theorem bn_w_ident : BindsNo "_law_ident" "_law_ident" s_w_ident P_w_ident := fun _ _ _ _ _ _ us hl => match us, hl with | [_, _], _ => rfl
def sp_ident : Sp := fun vs H Q _ => ∃ (F : Hp) (b : Addr) (n k : Nat), vs = [.ref b, .int k] ∧ Same F H ∧ F b = none ∧ BagIn F b n H ∧ k < 100 ∧ n < 100000000 ∧
  ∀ z H', IdP k z → Pb b F H F H' → BagIn F b (n + 3) H' → Q (.str z) H'
theorem ok_ident (B : Bt mg) (c_w_draw : Cal P w K mg base 1 "_law_draw" sp_draw) (F : FnF K mg "_law_ident" s_w_ident []) : Cal P w K mg base 2 "_law_ident" sp_ident := by
  refine F.cal sc_w_ident bn_w_ident (fun vs H Q E h => ?_) (fun f cdv A outer s H vs Q E hr h => ?_)
  · obtain ⟨_, _, _, _, rfl, _⟩ := h
    rfl
  · obtain ⟨F, b, n, k, rfl, sF, fb, g, hk, hn, kk⟩ := h
    refine ⟨_, (pss_cons (ps_set (i := 2) sc_w_ident.nd rfl (Or.inl rfl) pe_str)
    (pss_cons (ps_set (i := 3) sc_w_ident.nd rfl (Or.inl rfl) (pe_ix (k_ix (K := K)) (pv 2) (pe_c c_w_draw hr (by decide) (pa_cons (pv 0) (pa_cons pe_int pa_nil)) passL) (fun _ _ => rfl)))
    (pss_cons (ps_if (pt_cmpR (op_eqU hr (K := K)) (pe_c c_w_draw hr (by decide) (pa_cons (pv 0) (pa_cons pe_int pa_nil)) passL) pe_int (nomark _)) (pss_one (ps_set (i := 3) sc_w_ident.nd rfl (Or.inl rfl) (pe_op op_addU (pv 3) (pe_ix (k_ix (K := K)) (pv 2) (pe_c c_w_draw hr (by decide) (pa_cons (pv 0) (pa_cons pe_int pa_nil)) passL) (fun _ _ => rfl))))) pss_nil)
    (pss_one (ps_ret (pe_op op_addU (pv 3) (pe_callTy call_str_int (by rfl) B.str (by decide +kernel) (pa_cons (pv 1) pa_nil)))))))), ?_⟩
    have w0 : Bw b F H F H n [] := Bw.nil sF fb g
    have len1 : LET.length ≤ sizeLine := sz (by rw [LET_len]; decide)
    refine ⟨_, rfl, _, rfl, F, b, n, 26, rfl, w0.sub, w0.fb, w0.bg, by decide, by decide, by omega, fun i H1 i0 i1 q1 g1 => ?_⟩
    have w1 := w0.call q1 g1
    obtain ⟨c, hc, hcl⟩ := LET_at ⟨i.toNat, by omega⟩
    refine .inr (.inr ⟨LET, i, c, rfl, rfl, len1, atI_int i0 hc, ?_⟩)
    dsimp only
    refine sj (R := fun σ2 H2 => ∃ ls : List Nat, 1 ≤ ls.length ∧ ls.length ≤ 2 ∧ ls.all isLet = true ∧ Bw b F H F H2 (n + 3) [] ∧ σ2 = [some (.ref b), some (.int k), some (.str LET), some (.str ⟨ls.toArray⟩)]) ?_ (fun go => ?_)
    · rintro σ2 H2 ⟨ls, h1, h2, hl, w2, rfl⟩
      refine ⟨_, rfl, _, rfl, _, rfl, ?_, .inr (.inl ⟨_, _, rfl, rfl, ?_, ?_⟩)⟩
      · have : (k : Int).natAbs.log2 ≤ (k : Int).natAbs := Nat.log2_le_self _
        omega
      · refine sz ?_
        have : (numS k).cps.toList.length ≤ 2 := (numS_ok ⟨k, hk⟩).2.2.1
        show ls.toArray.size + (numS k).cps.size ≤ 100000
        rw [← Array.length_toList (xs := (numS k).cps)]
        simp only [List.size_toArray]
        omega
      · refine kk _ _ (id_ok hk h1 h2 hl ?_) w2.pb w2.bg
        show (ls.toArray ++ (numS k).cps).toList = _
        simp
    · refine ⟨_, rfl, F, b, n + 1, 3, rfl, w1.sub, w1.fb, w1.bg, by decide, by decide, by omega, fun i2 H2 _ _ q2 g2 => ?_⟩
      have w2 := w1.call q2 g2
      refine .inl ⟨rfl, _, rfl, ?_⟩
      by_cases hz : i2 = 0
      · rw [decide_eq_true (congrArg V.int hz)]
        refine ⟨_, rfl, _, rfl, _, rfl, F, b, n + 1 + 1, 26, rfl, w2.sub, w2.fb, w2.bg, by decide, by decide, by omega, fun i3 H3 i30 i31 q3 g3 => ?_⟩
        have w3 := w2.call q3 g3
        obtain ⟨c3, hc3, hcl3⟩ := LET_at ⟨i3.toNat, by omega⟩
        refine .inr (.inr ⟨LET, i3, c3, rfl, rfl, len1, atI_int i30 hc3, .inr (.inl ⟨_, _, rfl, rfl, sz (by show 1 + 1 ≤ 100000; decide), ?_⟩)⟩)
        exact go _ _ ⟨[c, c3], by simp, by simp, by simp [hcl, hcl3], w3.le (by omega), rfl⟩
      · rw [decide_eq_false (fun q => hz (V.int.inj q))]
        exact go _ _ ⟨[c], by simp, by simp, by simp [hcl], w2.le (by omega), rfl⟩
end
def KindP (ks : Kinds) (m : Nat) : Prop := ks.length = m ∧ ∀ (j : Nat) (p : Str × Int), ks[j]? = some p → IdP j p.1 ∧ 0 ≤ p.2 ∧ p.2 ≠ 1 ∧ p.2 ≤ 6
theorem KindP.ok {ks : Kinds} {m : Nat} (h : KindP ks m) (h0 : 0 < m) (h8 : m ≤ 8) : KOk ks where
  pos := by rw [h.1]; exact h0
  le := by rw [h.1]; exact h8
  nm := fun p hp => by
    obtain ⟨j, hj⟩ := List.getElem?_of_mem hp
    have := (h.2 j p hj).1
    exact ⟨this.1, this.2.1⟩
  pe := fun p hp => by
    obtain ⟨j, hj⟩ := List.getElem?_of_mem hp
    have := (h.2 j p hj).2
    exact ⟨this.1, this.2.1⟩
  nd := by
    refine List.pairwise_iff_getElem.mpr fun i j hi hj hij e => ?_
    rw [List.length_map, h.1] at hi hj
    have hi2 : i < ks.length := by rw [h.1]; omega
    have hj2 : j < ks.length := by rw [h.1]; omega
    have a := (h.2 i ks[i] (List.getElem?_eq_getElem hi2)).1.2.2
    have b := (h.2 j ks[j] (List.getElem?_eq_getElem hj2)).1.2.2
    have e2 : ks[i].1 = ks[j].1 := by simpa using e
    rw [e2, b] at a
    have := Option.some.inj a
    omega
theorem KindP.snoc {ks : Kinds} {m : Nat} {p : Str × Int} (h : KindP ks m) (hp : IdP m p.1 ∧ 0 ≤ p.2 ∧ p.2 ≠ 1 ∧ p.2 ≤ 6) : KindP (ks ++ [p]) (m + 1) := by
  refine ⟨by simp [h.1], fun j q hq => ?_⟩
  by_cases hj : j < ks.length
  · rw [List.getElem?_append_left hj] at hq
    exact h.2 j q hq
  · have : j = m := by
      have := (List.getElem?_eq_some_iff.mp hq).1
      simp at this
      have := h.1
      omega
    subst this
    rw [List.getElem?_append_right (by omega), h.1] at hq
    simp at hq
    subst hq
    exact hp
section
variable {P : Program} {w : World} {K : PySem.W.Frag} {mg : Str → Option Value} {base : Heap}
abbrev s_w_kinds : Stmt := top 47
abbrev N_w_kinds : List Str := ["_law_bag_here", "_law_many", "_law_k"]
abbrev P_w_kinds : List Str := ["_law_bag_here", "_law_many"]
theorem sc_w_kinds : FnScope N_w_kinds P_w_kinds (defScope s_w_kinds) := ⟨rfl, rfl, rfl, by decide +kernel, rfl, by decide +kernel, by decide +kernel⟩
theorem bn_w_kinds : BindsNo "_law_kinds" "_law_kinds" s_w_kinds P_w_kinds := fun _ _ _ _ _ _ us hl => match us, hl with | [_, _], _ => rfl
def sp_kinds : Sp := fun vs H Q _ => ∃ (F : Hp) (b : Addr) (n m : Nat), vs = [.ref b, .int m] ∧ Same F H ∧ F b = none ∧ BagIn F b n H ∧ m ≤ 8 ∧ n < 10000000 ∧
  ∀ r F' H' ks, Pb b F H F' H' → BagIn F' b (n + 4 * m) H' → RPairs.rel ks r F' → KindP ks m → Q r H'
theorem ok_kinds (B : Bt mg) (c_w_draw : Cal P w K mg base 1 "_law_draw" sp_draw) (c_w_ident : Cal P w K mg base 2 "_law_ident" sp_ident) (F : FnF K mg "_law_kinds" s_w_kinds []) : Cal P w K mg base 3 "_law_kinds" sp_kinds := by
  refine F.cal sc_w_kinds bn_w_kinds (fun vs H Q E h => ?_) (fun f cdv A outer s H vs Q E hr h => ?_)
  · obtain ⟨_, _, _, _, rfl, _⟩ := h
    rfl
  · obtain ⟨F, b, n, m, rfl, sF, fb, g, hm, hn, kk⟩ := h
    refine ⟨_, (pss_one (ps_ret (pe_lc (own := [("_law_k", 2)]) rfl sc_w_kinds.nd (pi_range1 (by rfl) B.range (pa_cons (pv 1) pa_nil)) (blkOk_by (N := N_w_kinds) (sc := defScope s_w_kinds) (by decide +kernel)) (fun _ _ _ _ _ => (pg_name (i := 2) sc_w_kinds.nd rfl (Or.inl rfl))) (fun _ _ _ _ _ => pts_nil) (fun _ _ _ _ _ => (pe_tup (pa_cons (pe_c c_w_ident hr (by decide) (pa_cons (pv 0) (pa_cons (pv 2) pa_nil)) passL) (pa_cons (pe_ix (k_ix (K := K)) (pe_lst (pa_cons pe_int (pa_cons pe_int (pa_cons pe_int (pa_cons pe_int (pa_cons pe_int (pa_cons pe_int pa_nil))))))) (pe_c c_w_draw hr (by decide) (pa_cons (pv 0) (pa_cons pe_int pa_nil)) passL) (fun _ _ => rfl)) pa_nil))))))), ?_⟩
    have w0 : Bw b F H F H n [] := Bw.nil sF fb g
    refine ⟨_, rfl, m, rfl, by omega, by omega, fun D hD => ?_⟩
    refine go_lcB (walk_range (lo := 0) (n := (m : Int).toNat)) w0 hD (Rp.pair Rp.str Rp.int) 4 (fun i ds => KindP ds i) (by omega) ⟨rfl, fun j p h => by simp at h⟩ (fun _ _ _ _ _ _ => trivial) (fun i x ds F1 H1 l H' N hi w1 s1 _ hp y kt kf => ?_) (fun ds F1 H1 ys w1 s1 pd hp => ?_)
    · obtain ⟨rfl, hx⟩ := y
      replace hx : x = .int (i : Nat) := by
        rw [hx]
        show V.int (0 + (i : Int)) = _
        rw [Int.zero_add]
      subst hx
      refine ⟨rfl, _, rfl, _, rfl, F1, b, n + 4 * i, i, rfl, w1.sub, w1.fb, w1.bg, by omega, by omega, fun z H2 hz q2 g2 => ?_⟩
      have w2 := w1.call q2 g2
      refine ⟨sz (n := 6) (by decide), fun t ht => ?_⟩
      have w3 := w2.tmp (Same.new (o := .lst [.int 0, .int 0, .int 2, .int 3, .int 4, .int 6]) ht)
      refine ⟨_, rfl, F1, b, _, 6, rfl, w3.sub, w3.fb, w3.bg, by decide, by decide, by omega, fun d H4 d0 d1 q4 g4 => ?_⟩
      have w4 := w3.call q4 g4
      have ht4 : H4 t = some (.lst [.int 0, .int 0, .int 2, .int 3, .int 4, .int 6]) := q4.keep (w2.nb ht) upd_same
      obtain ⟨p, hp1, hp2⟩ : ∃ p : Int, ([V.int 0, .int 0, .int 2, .int 3, .int 4, .int 6])[d.toNat]? = some (.int p) ∧ 0 ≤ p ∧ p ≠ 1 ∧ p ≤ 6 := by
        rcases (by omega : d = 0 ∨ d = 1 ∨ d = 2 ∨ d = 3 ∨ d = 4 ∨ d = 5) with h | h | h | h | h | h <;> subst h
        · exact ⟨0, rfl, by omega⟩
        · exact ⟨0, rfl, by omega⟩
        · exact ⟨2, rfl, by omega⟩
        · exact ⟨3, rfl, by omega⟩
        · exact ⟨4, rfl, by omega⟩
        · exact ⟨6, rfl, by omega⟩
      refine .inl ⟨t, _, d, _, rfl, rfl, SqL.of ht4, atI_int d0 hp1, ?_⟩
      refine ⟨sz (n := 2) (by decide), fun u hu => ?_⟩
      have w5 := w4.add (o := .tup [.str z, .int p]) hu
      have q5 : Pb b F1 H' (upd F1 u (.tup [.str z, .int p])) (upd H4 u (.tup [.str z, .int p])) := by
        have a1 := q2.trans ((Pu.tmp (Pu.refl w2.sub) (o := .lst [.int 0, .int 0, .int 2, .int 3, .int 4, .int 6]) ht).pb w2.fb w2.bg.ne)
        have a2 := a1.trans q4
        exact a2.trans (((Pu.refl w4.sub).add (o := .tup [.str z, .int p]) hu).pb w4.fb w4.bg.ne)
      exact kt (.ref u) _ _ (z, p) (w5.le (by omega)) q5 ⟨u, _, _, rfl, upd_same, rfl, rfl⟩ (hp.snoc ⟨hz, hp2⟩)
    · have w2 := w1.fix 0
      rw [show (m : Int).toNat = m by omega] at w2 hp
      exact kk (.ref D) _ _ ds w2.pb w2.bg ⟨D, ys, rfl, upd_same, pd_mono (fun _ _ => (Rp.pair Rp.str Rp.int).mono (w1.ext 0)) pd⟩ hp
end
end TR

/-! part DD -/
/-! Equality of nested data. -/
namespace G
open PySem PySem.Spec PyProof.Rows L2
theorem k_dictP {X : Cx} {K : PySem.W.Frag} (hc : X.calm = true := by rfl) (hK : X.K = K := by rfl) : CallR X (.type "dict") (fun xs H Q => ∃ (a : Addr) (ps : List Addr) (kvs : List (L2.Key × V)), xs = [.ref a] ∧ SqL K H a (ps.map V.ref) ∧ Paired (fun p kv => SqT K H p [kV kv.1, kv.2]) ps kvs ∧ ∀ p, H p = none → Q (.ref p) (upd H p (.dK (mergeK [] kvs)))) := by
  subst hK
  exact call_dictP hc
/-- a reading whose things are nested data -/
structure RD {α : Type} (A : Rp α) (toD : α → PyData) : Prop where
  dp : ∀ (K : PySem.W.Frag) (d : α) (v : V) (F H : Hp), Same F H → A.rel d v F → Dp K H v (toD d)
theorem RD.int : RD Rp.int PyData.int := ⟨fun K d v F H s h => by cases h; exact .int _⟩
theorem RD.str : RD Rp.str PyData.str := ⟨fun K d v F H s h => by cases h; exact .str _⟩
theorem RD.all {α : Type} {A : Rp α} {toD : α → PyData} (h : RD A toD) {K : PySem.W.Frag} {F H : Hp} (s : Same F H) : ∀ {ds : List α} {vs : List V}, Paired (fun d x => A.rel d x F) ds vs → DpAll K H vs (ds.map toD)
  | _, _, .nil => .nil
  | _, _, .cons a r => .cons (h.dp K _ _ F H s a) (h.all s r)
theorem RD.pair {α β : Type} {A : Rp α} {B : Rp β} {f : α → PyData} {g : β → PyData} (h : RD A f) (k : RD B g) : RD (Rp.pair A B) (fun p => .tuple [f p.1, g p.2]) :=
  ⟨fun K d v F H s ⟨a, x, y, e, ha, hx, hy⟩ => by subst e; exact .tup (SqT.of (s _ _ ha)) (.cons (h.dp K _ _ F H s hx) (.cons (k.dp K _ _ F H s hy) .nil))⟩
theorem RD.lst {α : Type} {A : Rp α} {f : α → PyData} (h : RD A f) : RD (Rp.lst A) (fun ds => .list (ds.map f)) :=
  ⟨fun K d v F H s ⟨a, xs, e, ha, pd⟩ => by subst e; exact .lst (SqL.of (s _ _ ha)) (h.all s pd)⟩
theorem RD.tup {α : Type} {A : Rp α} {f : α → PyData} (h : RD A f) : RD (Rp.tup A) (fun ds => .tuple (ds.map f)) :=
  ⟨fun K d v F H s ⟨a, xs, e, ha, pd⟩ => by subst e; exact .tup (SqT.of (s _ _ ha)) (h.all s pd)⟩
theorem lay_all {α : Type} {f : α → PyData} : ∀ {ds : List α}, (∀ d ∈ ds, (f d).canLay0 = true) → PyData.canLayAll0 (ds.map f) = true
  | [], _ => rfl
  | d :: r, h => by
    show ((f d).canLay0 && PyData.canLayAll0 (r.map f)) = true
    rw [h d (by simp), lay_all (fun x hx => h x (by simp [hx]))]
    rfl
theorem dep_all {α : Type} {f : α → PyData} {n : Nat} : ∀ {ds : List α}, (∀ d ∈ ds, (f d).depth ≤ n) → PyData.depthAll (ds.map f) ≤ n
  | [], _ => Nat.zero_le _
  | d :: r, h => by
    show max (f d).depth (PyData.depthAll (r.map f)) ≤ n
    have a := h d (by simp)
    have b := dep_all (f := f) (n := n) (ds := r) (fun x hx => h x (by simp [hx]))
    omega
theorem shaped_of {d : PyData} (h : d.canLay0 = true) (k : d.depth ≤ 64) : SeqAt.shaped d = true := by
  unfold SeqAt.shaped
  rw [h, decide_eq_true k]
  rfl
end G

/-! part B3 -/
namespace TR
open PySem PySem.Spec PyProof.Rows L2 G
def stepD (p : Str × Int) : PyData := .tuple [.str p.1, .int p.2]
theorem RDstep : RD (Rp.pair Rp.str Rp.int) stepD := RD.pair RD.str RD.int
theorem str_lay {z : Str} (h : nameOk z = true) : (PyData.str z).canLay0 = true := by
  show z.cps.all (fun x => decide (x < 0x110000)) = true
  rw [Array.all_eq_true_iff_forall_mem]
  intro c hc
  have h2 : (z.cps.toList.all fun c => isLet c || isDig c) = true := by
    unfold nameOk at h
    simp only [Bool.and_eq_true] at h
    exact h.2.2.2
  have h3 := List.all_eq_true.mp h2 c (by simpa using hc)
  have hL : ∀ c ∈ LET.cps.toList, c < 0x110000 := by decide +kernel
  have hD : ∀ c ∈ DIG.cps.toList, c < 0x110000 := by decide +kernel
  refine decide_eq_true ?_
  rcases Bool.or_eq_true_iff.mp h3 with h | h
  · exact hL c (of_decide_eq_true h)
  · exact hD c (of_decide_eq_true h)
theorem step_lay {p : Str × Int} (h : nameOk p.1 = true) : (stepD p).canLay0 = true := by
  show ((PyData.str p.1).canLay0 && (true && true)) = true
  rw [str_lay h]
  rfl
theorem step_dep (p : Str × Int) : (stepD p).depth ≤ 1 := Nat.le_refl 1
def stepsD (ds : Steps) : PyData := .list (ds.map stepD)
theorem steps_shaped {ds : Steps} (h : ∀ d ∈ ds, nameOk d.1 = true) : SeqAt.shaped (stepsD ds) = true :=
  shaped_of (lay_all fun d hd => step_lay (h d hd)) (by
    show PyData.depthAll (ds.map stepD) + 1 ≤ 64
    have := dep_all (f := stepD) (n := 1) (ds := ds) fun d _ => step_dep d
    omega)
theorem eqv_nil : PyData.eqv (stepsD []) (.list []) = true := by unfold stepsD; simp only [List.map_nil, PyData.eqv, PyData.eqvAll]
theorem eqv_cons {d : Str × Int} {ds : Steps} : PyData.eqv (stepsD (d :: ds)) (.list []) = false := by unfold stepsD; simp only [List.map_cons, PyData.eqv, PyData.eqvAll]
theorem merge_kper : ∀ (ks done : Kinds), ((done ++ ks).map (·.1)).Nodup → mergeK (kper done) (kper ks) = kper (done ++ ks)
  | [], done, _ => by simp [mergeK, kper]
  | p :: r, done, h => by
    have hn : (done.lookup p.1) = none := by
      refine lookup_none fun m => ?_
      rw [List.map_append, List.nodup_append] at h
      exact h.2.2 _ m _ (by simp) rfl
    show mergeK (putK (kper done) (Sum.inr p.1) (.int p.2)) (kper r) = _
    rw [putK_new _ (by rw [val_per, hn]; rfl)]
    have := merge_kper r (done ++ [p]) (by simpa using h)
    rw [show kper (done ++ [p]) = kper done ++ [(Sum.inr p.1, V.int p.2)] by simp [kper]] at this
    rw [this]
    simp
section
variable {P : Program} {w : World} {K : PySem.W.Frag} {mg : Str → Option Value} {base : Heap}
abbrev s_w_normal : Stmt := top 49
abbrev N_w_normal : List Str := ["_law_kinds_here", "_law_steps_here", "_law_found", "_law_periods", "_law_name", "_law_exponent"]
abbrev P_w_normal : List Str := ["_law_kinds_here", "_law_steps_here"]
theorem sc_w_normal : FnScope N_w_normal P_w_normal (defScope s_w_normal) := ⟨rfl, rfl, rfl, by decide +kernel, rfl, by decide +kernel, by decide +kernel⟩
theorem bn_w_normal : BindsNo "_law_normal" "_law_normal" s_w_normal P_w_normal := fun _ _ _ _ _ _ us hl => match us, hl with | [_, _], _ => rfl
def sp_wnormal : Sp := fun vs H Q _ => ∃ (F : Hp) (v u : V) (ks : Kinds) (ss : Steps), vs = [v, u] ∧ Same F H ∧ RPairs.rel ks v F ∧ RPairs.rel ss u F ∧ KOk ks ∧ (∀ d ∈ ss, ∃ p, ks.lookup d.1 = some p) ∧ (∀ d ∈ ss, nameOk d.1 = true) ∧ ss.length ≤ 10000 ∧
  ∀ r F' H', Pu F H F' H' → RPairs.rel (normal ks ss) r F' → Q r H'
theorem pairs_ps {F : Hp} : ∀ {ds : Kinds} {vs : List V}, Paired (fun d x => (Rp.pair Rp.str Rp.int).rel d x F) ds vs → ∃ ps : List Addr, vs = ps.map V.ref ∧ Paired (fun p (kv : L2.Key × V) => F p = some (.tup [kV kv.1, kv.2])) ps (kper ds)
  | _, _, .nil => ⟨[], rfl, .nil⟩
  | _, _, .cons h t => by
    obtain ⟨a, x, y, rfl, ha, rfl, rfl⟩ := h
    obtain ⟨ps, rfl, pd⟩ := pairs_ps t
    exact ⟨a :: ps, rfl, .cons ha pd⟩
theorem ok_wnormal (B : Bt mg) (F : FnF K mg "_law_normal" s_w_normal []) : Cal P w K mg base 1 "_law_normal" sp_wnormal := by
  refine F.cal sc_w_normal bn_w_normal (fun vs H Q E h => ?_) (fun f cdv A outer s H vs Q E hr h => ?_)
  · obtain ⟨_, _, _, _, _, rfl, _⟩ := h
    rfl
  · obtain ⟨F, v, u, ks, ss, rfl, sF, ⟨ka, kps, rfl, hka, kpd⟩, ⟨a, ps, rfl, ha, pd⟩, ok, hin, hnm, hlen, k⟩ := h
    have hl : ps.length = ss.length := pd_len pd
    refine ⟨_, (pss_cons (ps_set (i := 2) sc_w_normal.nd rfl (Or.inl rfl) (pe_lst pa_nil))
    (pss_cons (ps_set (i := 3) sc_w_normal.nd rfl (Or.inl rfl) (pe_callTy (k_dictP (K := K)) (by rfl) B.dict (by decide +kernel) (pa_cons (pv 0) pa_nil)))
    (pss_cons (ps_for (passes_of rfl) rfl (k_il (pv 1) (K := K)) (k_tup (n := 2) rfl (pgs_cons (pg_name (i := 4) sc_w_normal.nd rfl (Or.inl rfl)) (pgs_cons (pg_name (i := 5) sc_w_normal.nd rfl (Or.inl rfl)) pgs_nil)) (K := K))
    (pss_cons (ps_if (PW.pt (pw_and (pt_cmpR (op_neU hr (K := K)) (pv 2) (pe_lst pa_nil) (nomark _)) (pw_and1 (pt_cmpR (op_eqU hr (K := K)) (pe_ix (k_ix (K := K)) (pe_ix (k_ix (K := K)) (pv 2) (pe_un un_neg pe_int) (fun _ _ => rfl)) pe_int (fun _ _ => rfl)) (pv 4) (nomark _))))) (pss_one (ps_set (i := 5) sc_w_normal.nd rfl (Or.inl rfl) (pe_op op_addU (pv 5) (pe_ix (k_ix (K := K)) (pe_bm0 PySem.F.plainAttrs_list PySem.F.slot_list_pop PySem.F.type_list_pop mt_pop (pv 2)) pe_int (fun _ _ => rfl))))) pss_nil)
    (pss_cons (ps_if (pt_cmpR op_gt (pe_dget (hu_of hr) (pv 3) (pv 4) (fun _ _ => rfl)) pe_int (nomark _)) (pss_one (ps_set (i := 5) sc_w_normal.nd rfl (Or.inl rfl) (pe_op op_mod (pe_callTy call_int1 (by rfl) B.int (by decide +kernel) (pa_cons (pv 5) pa_nil)) (pe_dget (hu_of hr) (pv 3) (pv 4) (fun _ _ => rfl))))) pss_nil)
    (pss_one (ps_if (pt_cmpR (op_neU hr (K := K)) (pv 5) pe_int (nomark _)) (pss_one (ps_expr (pe_bm PySem.F.plainAttrs_list PySem.F.slot_list_append PySem.F.type_list_append mt_append (pv 2) (pa_cons (pe_tup (pa_cons (pv 4) (pa_cons (pv 5) pa_nil))) pa_nil)))) pss_nil)))))
    (pss_one (ps_ret (pv 2)))))), ?_⟩
    refine ⟨sz (n := 0) (by decide), fun D hD => ?_⟩
    have w0 : Own F H F (upd H D (.lst [])) [(D, .lst [])] := (Own.nil (Pu.refl sF)).new hD
    obtain ⟨pp, rfl, ppd⟩ := pairs_ps kpd
    refine ⟨_, rfl, ka, pp, kper ks, rfl, SqL.of (w0.sub _ _ hka), pd_mono (fun _ _ h => SqT.of (w0.sub _ _ h)) ppd, fun dd hdd => ?_⟩
    have em : mergeK [] (kper ks) = kper ks := merge_kper ks [] (by simpa using ok.nd)
    rw [em]
    have w1 := w0.new (o := .dK (kper ks)) hdd
    refine ⟨_, rfl, a, rfl, ⟨_, SqL.of (w1.sub _ _ ha)⟩, ?_⟩
    refine for_it (walk_list (xs := ps)) (fun i σ H' => ∃ (F' : Hp) (n p : Option V) (ys : List V), Own F H F' H' [(dd, .dK (kper ks)), (D, .lst ys)] ∧ Paired (fun d x => (Rp.pair Rp.str Rp.int).rel d x F') ((ss.take i).foldl (nstep ks) []) ys ∧ ((ss.take i).foldl (nstep ks) []).length ≤ i ∧
        (∀ d ∈ (ss.take i).foldl (nstep ks) [], nameOk d.1 = true) ∧ σ = [some (.ref ka), some (.ref a), some (.ref D), some (.ref dd), n, p]) ⟨F, none, none, [], w1, .nil, Nat.le_refl _, (fun d h => by cases h), rfl⟩ (fun i σ H' _ ⟨F', n, p, ys, w1, _⟩ => SqL.of (w1.sub _ _ (w1.ff _ _ ha))) ?_ ?_
    · rintro i y σ H' H'' hi ⟨F', n0, p0, ys, w2, pd1, len1, nm1, rfl⟩ ⟨e1, hy⟩
      subst e1
      obtain ⟨d, t0, z, u, hd, rfl, ht, rfl, rfl⟩ := pair_at pd hy
      obtain ⟨p, hp⟩ := hin d (List.mem_of_getElem? hd)
      have dnm := hnm d (List.mem_of_getElem? hd)
      have nm2 : ∀ x ∈ nstep ks ((ss.take i).foldl (nstep ks) []) d, nameOk x.1 = true := fun x hx => by
        rcases nstep_sub hx with h | h
        · exact nm1 x h
        · rw [h]; exact dnm
      rw [take_snoc hd, List.foldl_append]
      refine ⟨t0, _, rfl, SqT.of (w2.sub _ _ (w2.ff _ _ ht)), rfl, _, _, rfl, _, _, rfl, rfl, ?_⟩
      have ep : perOf ks d.1 = p := by unfold perOf; rw [hp]; rfl
      have hpv : valV (kper ks) (Sum.inr d.1) = some (.int p) := by rw [val_per, hp]; rfl
      refine sj (R := fun σ2 H2 => ∃ (F2 : Hp) (ys2 : List V) (ks2 : Steps) (e : Int), σ2 = [some (.ref ka), some (.ref a), some (.ref D), some (.ref dd), some (.str d.1), some (.int e)] ∧ Own F H F2 H2 [(dd, .dK (kper ks)), (D, .lst ys2)] ∧ Paired (fun d x => (Rp.pair Rp.str Rp.int).rel d x F2) ks2 ys2 ∧ ks2.length ≤ i ∧ nstep ks ((ss.take i).foldl (nstep ks) []) d = nput ks ks2 d.1 e) ?_ (fun fin => ?_)
      · rintro σ2 H2 ⟨F2, ys2, ks2, e, rfl, w3, pd2, len2, en⟩
        refine sj (R := fun σ3 H3 => H3 = H2 ∧ σ3 = [some (.ref ka), some (.ref a), some (.ref D), some (.ref dd), some (.str d.1), some (.int (redE p e))]) ?_ (fun fin2 => ?_)
        · rintro σ3 H3 ⟨rfl, rfl⟩
          refine ⟨_, rfl, .inl ⟨rfl, _, rfl, ?_⟩⟩
          by_cases h0 : redE p e = 0
          · rw [decide_eq_true (congrArg V.int h0)]
            refine ⟨F2, _, _, ys2, w3, ?_, ?_, nm2, rfl⟩
            · show Paired _ (nstep ks _ d) _
              rw [en, nput, ep, if_pos h0]
              exact pd2
            · show (nstep ks _ d).length ≤ _
              rw [en, nput, ep, if_pos h0]
              omega
          · rw [decide_eq_false (fun q => h0 (V.int.inj q))]
            refine ⟨_, rfl, ?_⟩
            refine ⟨.inl ⟨rfl, _, SqL.of (w3.at 1)⟩, _, rfl, _, rfl, sz (n := 2) (by decide), fun q hq => ?_⟩
            have w4 := w3.add (o := .tup [.str d.1, .int (redE p e)]) hq
            refine ⟨D, ys2, _, rfl, rfl, w4.at 1, szl (by have := pd_len pd2; omega), ?_⟩
            have w5 := w4.mut (o' := .lst (ys2 ++ [.ref q])) 1
            refine ⟨_, _, _, _, w5, ?_, ?_, nm2, rfl⟩
            · show Paired _ (nstep ks _ d) _
              rw [en, nput, ep, if_neg h0]
              exact pd_snoc (pd_mono (fun _ _ => (Rp.pair Rp.str Rp.int).mono (Same.new (w3.sub.free hq))) pd2) ⟨q, _, _, rfl, upd_same, rfl, rfl⟩
            · show (nstep ks _ d).length ≤ _
              rw [en, nput, ep, if_neg h0]
              simp; omega
        · refine ⟨_, rfl, _, rfl, dd, _, rfl, hpv ▸ DGet.k (k := Sum.inr d.1) (w3.at 0), ?_⟩
          refine ⟨_, _, rfl, rfl, _, rfl, ?_⟩
          by_cases h0 : p > 0
          · rw [decide_eq_true h0]
            refine ⟨_, rfl, .inl ⟨_, rfl, ?_⟩⟩
            refine ⟨_, rfl, _, rfl, dd, _, rfl, hpv ▸ DGet.k (k := Sum.inr d.1) (w3.at 0), _, _, rfl, rfl, h0, ?_⟩
            exact fin2 _ _ ⟨rfl, by rw [show redE p e = e % p from if_pos h0]; rfl⟩
          · rw [decide_eq_false h0]
            exact fin2 _ _ ⟨rfl, by rw [show redE p e = e from if_neg h0]⟩
      · -- found != [] and found[-1][0] == name
        refine ⟨_, rfl, sz (n := 0) (by decide), fun c hc => ?_⟩
        have w3 := w2.tmp (Same.new (o := .lst []) hc)
        have dp1 : Dp K (upd H'' c (.lst [])) (.ref D) (stepsD ((ss.take i).foldl (nstep ks) [])) := .lst (SqL.of (w3.at 1)) (RDstep.all w3.sub pd1)
        have dp2 : Dp K (upd H'' c (.lst [])) (.ref c) (.list []) := .lst (SqL.of upd_same) .nil
        have ev : ∀ l : Steps, PyData.eqv (stepsD l) (.list []) = l.isEmpty := fun l => by
          cases l with
          | nil => exact eqv_nil
          | cons a r => exact eqv_cons
        have ev2 := ev ((ss.take i).foldl (nstep ks) [])
        refine .inr ⟨_, _, dp1, dp2, steps_shaped nm1, rfl, ?_⟩
        rw [ev2]
        refine ⟨_, rfl, ?_⟩
        cases hk : ((ss.take i).foldl (nstep ks) []).getLast? with
        | none =>
          have hn := List.getLast?_eq_none_iff.mp hk
          rw [hn] at pd1
          have hy0 : ys = [] := by cases pd1; rfl
          subst hy0
          rw [show ((ss.take i).foldl (nstep ks) []).isEmpty = true by rw [hn]; rfl]
          refine fin _ _ ⟨F', [], [], d.2, rfl, w3, .nil, Nat.zero_le _, ?_⟩
          rw [hn]
          rfl
        | some m =>
          obtain ⟨x, hx, c2, y1, y2, rfl, hc2, rfl, rfl⟩ := pd_last pd1 hk
          have hne : (ss.take i).foldl (nstep ks) [] ≠ [] := by intro q; rw [q] at hk; cases hk
          rw [show ((ss.take i).foldl (nstep ks) []).isEmpty = false by
            cases hh : (ss.take i).foldl (nstep ks) [] with
            | nil => exact absurd hh hne
            | cons a r => rfl]
          refine ⟨_, rfl, _, rfl, .inl ⟨D, ys, _, _, rfl, rfl, SqL.of (w3.at 1), atI_last hx, ?_⟩⟩
          refine .inr (.inl ⟨c2, _, 0, _, rfl, rfl, SqT.of (w3.sub _ _ hc2), atI_nat rfl, ?_⟩)
          refine ⟨_, rfl, .inl ⟨rfl, _, rfl, ?_⟩⟩
          by_cases h0 : m.1 = d.1
          · rw [decide_eq_true (congrArg V.str h0)]
            refine ⟨_, rfl, _, rfl, .inl ⟨rfl, _, SqL.of (w3.at 1)⟩, D, ys, _, rfl, rfl, w3.at 1, by rw [← List.getLast?_eq_getElem?]; exact hx, ?_⟩
            have w4 := w3.mut (o' := .lst ys.dropLast) 1
            refine .inr (.inl ⟨c2, _, 1, _, rfl, rfl, SqT.of (w4.sub _ _ hc2), atI_nat rfl, ?_⟩)
            refine .inl ⟨_, _, rfl, rfl, ?_⟩
            refine fin _ _ ⟨F', _, _, _, rfl, w4, pd_dropLast pd1, by simp; omega, ?_⟩
            rw [nstep_some hk]
            exact if_pos h0
          · rw [decide_eq_false (fun q => h0 (V.str.inj q))]
            refine fin _ _ ⟨F', ys, _, d.2, rfl, w3, pd1, len1, ?_⟩
            rw [nstep_some hk]
            exact if_neg h0
    · rintro σ H' ⟨F', n0, p0, ys, w2, pd1, len1, nm1, rfl⟩
      rw [hl, take_all] at pd1
      refine ⟨_, rfl, k (.ref D) _ _ (w2.fix 1).pu ⟨D, ys, rfl, upd_same, pd_mono (fun _ _ => (Rp.pair Rp.str Rp.int).mono (w2.ext 1)) pd1⟩⟩
end
end TR

/-! part A12 -/
namespace TR
open PySem PySem.Spec PyProof.Rows L2 G
/-- an exception of the class at C goes out, its field told -/
def Rz (F H0 : Hp) (C : Addr) (fld : Str) (v : V) (E : XK) : Prop := ∀ (F' H' : Hp) (d : Addr), Pu F H0 F' H' → H' d = some (.xd [(fld, v)]) → E (.ref C) (some d) H'
/-- the names so far -/
structure StOk (ss : List V) (st : List Str) : Prop where
  pre : ss.take st.length = st.map V.str
  le : st.length ≤ ss.length
  ok : ∀ z ∈ st, nameOk z = true ∧ z.length ≤ 1000
  nd : st.Nodup
/-- a value that is no name -/
def BadName (K : PySem.W.Frag) (F : Hp) (v : V) : Prop := (∃ z : Str, v = .str z ∧ z.length ≤ 1000 ∧ nameOk z = false) ∨ NotStr K F v
/-- a value that is none of the stations -/
def NoSt (K : PySem.W.Frag) (F : Hp) (st : List Str) (v : V) : Prop := (∃ z : Str, v = .str z ∧ z ∉ st) ∨ NotStr K F v
theorem cut_take {xs : List V} {i : Nat} (h : i ≤ xs.length) : cutV xs none (some (i : Int)) = xs.take i := by
  have e1 : HT.sIx xs.length 0 none = 0 := rfl
  have e2 : HT.sIx xs.length xs.length (some (i : Int)) = i := by
    rw [HT.sIx_nat]
    omega
  unfold cutV
  rw [e1, e2]
  simp
section
variable {P : Program} {w : World} {K : PySem.W.Frag} {mg : Str → Option Value} {base : Heap} {CT CN CP EN ET EA ES : Addr}
abbrev s_Plan_init : Stmt := inClass (top 42) 0
abbrev N_Plan_init : List Str := ["self", "turns", "stations", "arrows", "begin", "end", "at", "name", "arrow"]
abbrev P_Plan_init : List Str := ["self", "turns", "stations", "arrows", "begin", "end"]
theorem sc_Plan_init : FnScope N_Plan_init P_Plan_init (defScope s_Plan_init) := ⟨rfl, rfl, rfl, by decide +kernel, rfl, by decide +kernel, by decide +kernel⟩
theorem bn_Plan_init : BindsNo "__init__" "Plan.__init__" s_Plan_init P_Plan_init := fun _ _ _ _ _ _ us hl => match us, hl with | [_, _, _, _, _, _], _ => rfl
def sp_Plan_init (K : PySem.W.Frag) (CT CN CP EN ET EA ES : Addr) : Sp := fun vs H Q E => ∃ (F H0 : Hp) (x dx ls la : Addr) (tv bv ev : V) (ks : Kinds) (ss as : List V) (st : List Str) (ds : List ArrD), vs = [.ref x, tv, .ref ls, .ref la, bv, ev] ∧ New CP F H0 H x dx ∧ (RTurns CT).rel ks tv F ∧
  F ls = some (.lst ss) ∧ F la = some (.lst as) ∧ ss.length ≤ 100 ∧ as.length ≤ 100 ∧ StOk ss st ∧ Paired (fun d v => (RArr CN).rel d v F ∧ arrGood ks st d) ds (as.take ds.length) ∧ ds.length ≤ as.length ∧
  ((∃ y, ss[st.length]? = some y ∧ BadName K F y ∧ Rz F H0 EN "name" y E) ∨
   (∃ z, ss[st.length]? = some (.str z) ∧ z ∈ st ∧ Rz F H0 ET "name" (.str z) E) ∨
   (st.length = ss.length ∧ ∃ y, as[ds.length]? = some y ∧ ArrBad K CN ks st y F ∧ Rz F H0 EA "index" (.int ds.length) E) ∨
   (st.length = ss.length ∧ ds.length = as.length ∧ NoSt K F st bv ∧ Rz F H0 ES "name" bv E) ∨
   (st.length = ss.length ∧ ds.length = as.length ∧ (∃ b, bv = .str b ∧ b ∈ st) ∧ NoSt K F st ev ∧ Rz F H0 ES "name" ev E) ∨
   (st.length = ss.length ∧ ds.length = as.length ∧ (∃ b, bv = .str b ∧ b ∈ st) ∧ (∃ b, ev = .str b ∧ b ∈ st) ∧
     ∀ F' H' dx ts ta, Pu F H0 F' H' → F' x = some (.ins CP dx [("turns", tv), ("stations", .ref ts), ("arrows", .ref ta), ("begin", bv), ("end", ev)]) → F' ts = some (.tup ss) → F' ta = some (.tup as) → Q .non H'))
theorem ok_Plan_init (B : Bt mg) {q1 q2 q3 q4 : Str} {st1 st2 st3 st4 : Stmt} (PL : KlF K mg "Plan" CP ["turns", "stations", "arrows", "begin", "end"]) (c_is_name : Cal P w K mg base 1 "is_name" (sp_is_name K)) (c_is_arrow : Cal P w K mg base 2 "is_arrow" (sp_is_arrow K CT CN))
    (x_BadName : XTxt P K mg "BadName" q1 "name" st1 EN) (x_TwiceNamed : XTxt P K mg "TwiceNamed" q2 "name" st2 ET) (x_BadArrow : XTxt P K mg "BadArrow" q3 "index" st3 EA) (x_NoStation : XTxt P K mg "NoStation" q4 "name" st4 ES)
    (F : MkF K mg "Plan" CP "Plan.__init__" s_Plan_init []) : Mak P w K mg base 3 "Plan" CP (sp_Plan_init K CT CN CP EN ET EA ES) := by
  refine F.mak sc_Plan_init bn_Plan_init (fun vs H Q E h => ?_) (fun f cdv A outer s H vs Q E hr h => ?_)
  · obtain ⟨_, _, _, _, _, _, _, _, _, _, _, _, _, _, rfl, _⟩ := h
    rfl
  · obtain ⟨F, H0, x, dx, ls, la, tv, bv, ev, ks, ss, as, st, ds, rfl, nw, rt, hls, hla, hs100, ha100, so, pda, hdl, h⟩ := h
    have w0 := nw.own
    refine ⟨_, (pss_cons (ps_fld (pv 0) (pv 1) rfl)
    (pss_cons (ps_fld (pv 0) (pe_callTy (k_tuple (K := K)) (by rfl) B.tuple (by decide +kernel) (pa_cons (pv 2) pa_nil)) rfl)
    (pss_cons (ps_fld (pv 0) (pe_callTy (k_tuple (K := K)) (by rfl) B.tuple (by decide +kernel) (pa_cons (pv 3) pa_nil)) rfl)
    (pss_cons (ps_fld (pv 0) (pv 4) rfl)
    (pss_cons (ps_fld (pv 0) (pv 5) rfl)
    (pss_cons (ps_for (passes_of rfl) rfl (pi_enumT (by rfl) B.enumerate (pa_cons (k_fld (pv 0) (K := K)) pa_nil) (K := K)) (k_tup (n := 2) rfl (pgs_cons (pg_name (i := 6) sc_Plan_init.nd rfl (Or.inl rfl)) (pgs_cons (pg_name (i := 7) sc_Plan_init.nd rfl (Or.inl rfl)) pgs_nil)) (K := K))
    (pss_cons (ps_if (pt_not (pt_val (pe_c c_is_name hr (by decide) (pa_cons (pv 7) pa_nil) passL))) (pss_one (ps_x rfl x_BadName hr (takes_of rfl rfl rfl rfl) (pa_cons (pv 7) pa_nil))) pss_nil)
    (pss_one (ps_if (pt_cmpR (op_inU (K := K)) (pv 7) (pe_slice (k_sl_tup (K := K)) (k_fld (pv 0) (K := K)) po_none (po_some (pv 6))) (by rfl)) (pss_one (ps_x rfl x_TwiceNamed hr (takes_of rfl rfl rfl rfl) (pa_cons (pv 7) pa_nil))) pss_nil))))
    (pss_cons (ps_for (passes_of rfl) rfl (pi_enumT (by rfl) B.enumerate (pa_cons (k_fld (pv 0) (K := K)) pa_nil) (K := K)) (k_tup (n := 2) rfl (pgs_cons (pg_name (i := 6) sc_Plan_init.nd rfl (Or.inl rfl)) (pgs_cons (pg_name (i := 8) sc_Plan_init.nd rfl (Or.inl rfl)) pgs_nil)) (K := K))
    (pss_one (ps_if (pt_not (pt_val (pe_c c_is_arrow hr (by decide) (pa_cons (pv 8) (pa_cons (pv 1) (pa_cons (k_fld (pv 0) (K := K)) pa_nil))) passL))) (pss_one (ps_x rfl x_BadArrow hr (takes_of rfl rfl rfl rfl) (pa_cons (pv 6) pa_nil))) pss_nil)))
    (pss_one (ps_for (passes_of rfl) rfl (k_it (pe_tup (pa_cons (pv 4) (pa_cons (pv 5) pa_nil))) (K := K)) (pg_name (i := 7) sc_Plan_init.nd rfl (Or.inl rfl))
    (pss_one (ps_if (PW.pt (pw_or (pt_not (pt_val (pe_callB (k_isi (K := K)) (by rfl) B.isinstance (by decide +kernel) (pa_cons (pv 7) (pa_cons (pe_ty (n := "str") B.str) pa_nil))))) (pw_or1 (pt_cmpR (op_niU (K := K)) (pv 7) (k_fld (pv 0) (K := K)) (by rfl))))) (pss_one (ps_x rfl x_NoStation hr (takes_of rfl rfl rfl rfl) (pa_cons (pv 7) pa_nil))) pss_nil))))))))))), ?_⟩
    refine ⟨_, rfl, _, rfl, st_fld w0 PL.cl (PL.no _ (by decide)) 0 [] rfl rfl (by decide +kernel) (by decide) fun w1 => ?_⟩
    refine ⟨_, rfl, ls, ss, rfl, .inl ⟨SqL.of (w1.sub _ _ hls), fun ts hts => ?_⟩⟩
    have w2 := w1.add (o := .tup ss) hts
    have s2 := Same.new (o := .tup ss) (w1.sub.free hts)
    refine ⟨_, rfl, st_fld w2 PL.cl (PL.no _ (by decide)) 0 ["turns"] rfl rfl (by decide +kernel) (by decide) fun w3 => ?_⟩
    refine ⟨_, rfl, la, as, rfl, .inl ⟨SqL.of (w3.sub _ _ (w3.ff _ _ hla)), fun ta hta => ?_⟩⟩
    have w4 := w3.add (o := .tup as) hta
    have s4 := Same.new (o := .tup as) (w3.sub.free hta)
    refine ⟨_, rfl, st_fld w4 PL.cl (PL.no _ (by decide)) 0 ["turns", "stations"] rfl rfl (by decide +kernel) (by decide) fun w5 => ?_⟩
    refine ⟨_, rfl, _, rfl, st_fld w5 PL.cl (PL.no _ (by decide)) 0 ["turns", "stations", "arrows"] rfl rfl (by decide +kernel) (by decide) fun w6 => ?_⟩
    refine ⟨_, rfl, _, rfl, st_fld w6 PL.cl (PL.no _ (by decide)) 0 ["turns", "stations", "arrows", "begin"] rfl rfl (by decide +kernel) (by decide) fun w7 => ?_⟩
    have hts2 := s4 _ _ (show upd F ts (.tup ss) ts = some (.tup ss) from upd_same)
    have hta2 : upd (upd F ts (.tup ss)) ta (.tup as) ta = some (.tup as) := upd_same
    generalize upd (upd F ts (.tup ss)) ta (.tup as) = F2 at w7 hts2 hta2
    have hget : ∀ i, i < st.length → ∃ z, st[i]? = some z ∧ ss[i]? = some (.str z) := fun i hi => by
      have e : (ss.take st.length)[i]? = (st.map V.str)[i]? := by rw [so.pre]
      rw [List.getElem?_take_of_lt hi, List.getElem?_map, List.getElem?_eq_getElem hi] at e
      exact ⟨st[i], List.getElem?_eq_getElem hi, e⟩
    have htake : ∀ i, i ≤ st.length → ss.take i = (st.take i).map V.str := fun i hi => by
      have e : (ss.take st.length).take i = (st.map V.str).take i := by rw [so.pre]
      rw [List.take_take, Nat.min_eq_left hi, ← List.map_take] at e
      exact e
    -- the stations
    refine ⟨_, rfl, x, CP, dx, _, _, rfl, w7.at 0, PL.cl, PL.no _ (by decide), rfl, ts, ss, rfl, SqT.of (w7.sub _ _ hts2), ?_⟩
    refine for_it (walk_enumT (xs := ss)) (fun i σ H' => ∃ (n m : Option V), Own F H0 F2 H' [(x, .ins CP dx [("turns", tv), ("stations", .ref ts), ("arrows", .ref ta), ("begin", bv), ("end", ev)])] ∧ i ≤ st.length ∧ σ = [some (.ref x), some tv, some (.ref ls), some (.ref la), some bv, some ev, n, m, none]) ⟨none, none, w7, Nat.zero_le _, rfl⟩ (fun i σ H' _ ⟨n, m, w8, _⟩ => SqT.of (w8.sub _ _ hts2)) ?_ ?_
    · rintro i y σ H' H'' hi ⟨n0, m0, w8, hil, rfl⟩ ⟨T, x1, x2, rfl, hT, rfl, e1, hy⟩
      cases e1
      replace hy : ss[i]? = some x2 := hy
      have w9 := w8.tmp (Same.new (o := .tup [.int (i : Nat), x2]) hT)
      refine ⟨T, _, rfl, SqT.of upd_same, rfl, _, _, rfl, _, _, rfl, rfl, ?_⟩
      have w10 : ∀ H4, Same (upd H' T (.tup [.int (i : Nat), x2])) H4 → Own F H0 F2 H4 [(x, .ins CP dx [("turns", tv), ("stations", .ref ts), ("arrows", .ref ta), ("begin", bv), ("end", ev)])] := fun H4 s4 => w9.tmp s4
      have at0 : ∀ H4, Own F H0 F2 H4 [(x, .ins CP dx [("turns", tv), ("stations", .ref ts), ("arrows", .ref ta), ("begin", bv), ("end", ev)])] → H4 x = some (.ins CP dx [("turns", tv), ("stations", .ref ts), ("arrows", .ref ta), ("begin", bv), ("end", ev)]) := fun H4 w => w.at 0
      have nfull : ¬(HT.sIx ss.length 0 none = 0 ∧ HT.sIx ss.length ss.length (some (i : Int)) = ss.length) := fun q => by
        have := q.2
        rw [HT.sIx_nat] at this
        omega
      by_cases hlt : i < st.length
      · obtain ⟨z, hz, hsz⟩ := hget i hlt
        rw [hsz] at hy
        cases hy
        have hok := so.ok z (List.mem_of_getElem? hz)
        refine ⟨_, rfl, .str z, rfl, .inl ⟨z, rfl, hok.2, fun H4 s4 => ?_⟩⟩
        rw [hok.1]
        refine ⟨_, rfl, ?_⟩
        have w11 := w10 _ s4
        refine ⟨_, rfl, _, rfl, x, CP, dx, _, _, rfl, at0 _ w11, PL.cl, PL.no _ (by decide), rfl, _, rfl, _, rfl, ts, ss, rfl, SqT.of (w11.sub _ _ hts2), nfull, fun c hc => ?_⟩
        rw [cut_take (by omega), htake i hil]
        refine .inr ⟨c, _, rfl, .inr (SqT.of upd_same), rfl, flat_strs _, ?_⟩
        have w12 := w11.tmp (Same.new (o := .tup ((st.take i).map V.str)) hc)
        refine ⟨_, rfl, ?_⟩
        show (if inV (.str z) ((st.take i).map V.str) = true then _ else _ : Prop)
        rw [inV_strs, decide_eq_false (fun q => by
          obtain ⟨j, hj⟩ := List.getElem?_of_mem q
          have hji : j < i := by
            by_cases h : j < i
            · exact h
            · rw [List.getElem?_eq_none (by simp; omega)] at hj; cases hj
          rw [List.getElem?_take_of_lt hji] at hj
          have := nd_ix so.nd hj hz
          omega)]
        exact ⟨_, _, w12, hlt, rfl⟩
      · have hie : i = st.length := by omega
        subst hie
        rcases h with ⟨y, hy2, hb, rz⟩ | ⟨z, hy2, hz, rz⟩ | ⟨hl, _⟩ | ⟨hl, _⟩ | ⟨hl, _⟩ | ⟨hl, _⟩
        · rw [hy] at hy2
          cases hy2
          have raise : ∀ H4, Own F H0 F2 H4 [(x, .ins CP dx [("turns", tv), ("stations", .ref ts), ("arrows", .ref ta), ("begin", bv), ("end", ev)])] → ∀ d, H4 d = none → E (.ref EN) (some d) (upd H4 d (.xd [("name", x2)])) := fun H4 w d hd => rz _ _ d (w.tmp (Same.new (o := .xd [("name", x2)]) hd)).pu upd_same
          rcases hb with ⟨z, rfl, hz, hn⟩ | hn
          · refine ⟨_, rfl, .str z, rfl, .inl ⟨z, rfl, hz, fun H4 s4 => ?_⟩⟩
            rw [hn]
            exact ⟨_, rfl, _, rfl, _, rfl, fun d hd => raise _ (w10 _ s4) d hd⟩
          · exact ⟨_, rfl, x2, rfl, .inr ⟨NotStr.mono (w9.ff.trans w9.sub) hn, fun H4 s4 => ⟨_, rfl, _, rfl, _, rfl, fun d hd => raise _ (w10 _ s4) d hd⟩⟩⟩
        · rw [hy] at hy2
          cases hy2
          have hok := so.ok z hz
          refine ⟨_, rfl, .str z, rfl, .inl ⟨z, rfl, hok.2, fun H4 s4 => ?_⟩⟩
          rw [hok.1]
          refine ⟨_, rfl, ?_⟩
          have w11 := w10 _ s4
          refine ⟨_, rfl, _, rfl, x, CP, dx, _, _, rfl, at0 _ w11, PL.cl, PL.no _ (by decide), rfl, _, rfl, _, rfl, ts, ss, rfl, SqT.of (w11.sub _ _ hts2), nfull, fun c hc => ?_⟩
          rw [cut_take (by omega), htake _ hil]
          refine .inr ⟨c, _, rfl, .inr (SqT.of upd_same), rfl, flat_strs _, ?_⟩
          have w12 := w11.tmp (Same.new (o := .tup ((st.take st.length).map V.str)) hc)
          refine ⟨_, rfl, ?_⟩
          show (if inV (.str z) ((st.take st.length).map V.str) = true then _ else _ : Prop)
          rw [inV_strs, decide_eq_true (by rw [take_all]; exact hz)]
          exact iteT ⟨_, rfl, _, rfl, fun d hd => rz _ _ d (w12.tmp (Same.new (o := .xd [("name", .str z)]) hd)).pu upd_same⟩
        · exact absurd hl (by omega)
        · exact absurd hl (by omega)
        · exact absurd hl (by omega)
        · exact absurd hl (by omega)
    · rintro σ H' ⟨n0, m0, w8, hil, rfl⟩
      have hsl : st.length = ss.length := by have := so.le; omega
      have hss : ss = st.map V.str := by
        have := so.pre
        rw [hsl, take_all] at this
        exact this
      have rt2 := (RTurns CT).mono w7.ff rt
      have hts3 : F2 ts = some (.tup (st.map V.str)) := by rw [← hss]; exact hts2
      have noend : ∀ y, ss[st.length]? = some y → False := fun y hy => by rw [hsl, List.getElem?_eq_none (Nat.le_refl _)] at hy; cases hy
      -- the arrows
      refine ⟨_, rfl, x, CP, dx, _, _, rfl, w8.at 0, PL.cl, PL.no _ (by decide), rfl, ta, as, rfl, SqT.of (w8.sub _ _ hta2), ?_⟩
      refine for_it (walk_enumT (xs := as)) (fun i σ H' => ∃ (n m k : Option V), Own F H0 F2 H' [(x, .ins CP dx [("turns", tv), ("stations", .ref ts), ("arrows", .ref ta), ("begin", bv), ("end", ev)])] ∧ i ≤ ds.length ∧ σ = [some (.ref x), some tv, some (.ref ls), some (.ref la), some bv, some ev, n, m, k]) ⟨_, _, none, w8, Nat.zero_le _, rfl⟩ (fun i σ H' _ ⟨n, m, k, w9, _⟩ => SqT.of (w9.sub _ _ hta2)) ?_ ?_
      · rintro i y σ H' H'' hi ⟨n1, m1, k1, w9, hil, rfl⟩ ⟨T, x1, x2, rfl, hT, rfl, e1, hy⟩
        cases e1
        replace hy : as[i]? = some x2 := hy
        have w10 := w9.tmp (Same.new (o := .tup [.int (i : Nat), x2]) hT)
        refine ⟨T, _, rfl, SqT.of upd_same, rfl, _, _, rfl, _, _, rfl, rfl, ?_⟩
        refine ⟨_, rfl, _, rfl, _, rfl, x, CP, dx, _, _, rfl, w10.at 0, PL.cl, PL.no _ (by decide), rfl, F2, x2, tv, .ref ts, ks, st, ts, rfl, w10.sub, rt2, rfl, hts3, ?_⟩
        by_cases hlt : i < ds.length
        · obtain ⟨d, _, rd, gd⟩ := pd_get pda (show (as.take ds.length)[i]? = some x2 by rw [List.getElem?_take_of_lt hlt]; exact hy)
          exact .inr ⟨d, (RArr CN).mono w10.ff rd, gd, fun H4 s4 => ⟨_, rfl, _, _, _, w10.tmp s4, hlt, rfl⟩⟩
        · have hie : i = ds.length := by omega
          subst hie
          rcases h with ⟨y, hy2, _⟩ | ⟨z, hy2, _⟩ | ⟨_, y, hy2, hb, rz⟩ | ⟨_, hl, _⟩ | ⟨_, hl, _⟩ | ⟨_, hl, _⟩
          · exact (noend _ hy2).elim
          · exact (noend _ hy2).elim
          · rw [hy] at hy2
            cases hy2
            refine .inl ⟨ArrBad.mono w10.ff hb, fun H4 s4 => ⟨_, rfl, _, rfl, _, rfl, fun d hd => ?_⟩⟩
            exact rz _ _ d ((w10.tmp s4).tmp (Same.new (o := .xd [("index", .int ds.length)]) hd)).pu upd_same
          · exact absurd hl (by omega)
          · exact absurd hl (by omega)
          · exact absurd hl (by omega)
      · rintro σ H' ⟨n1, m1, k1, w9, hil, rfl⟩
        have noarr : ∀ y, as[ds.length]? = some y → False := fun y hy => by
          have := (List.getElem?_eq_some_iff.mp hy).1
          omega
        obtain ⟨r, hr2, hgood, hbad, hdone⟩ : ∃ r : Nat, r ≤ 2 ∧ (∀ (i : Nat) (v : V), i < r → [bv, ev][i]? = some v → ∃ b, v = .str b ∧ b ∈ st) ∧ (∀ v, [bv, ev][r]? = some v → NoSt K F st v ∧ Rz F H0 ES "name" v E) ∧
            (r = 2 → ∀ F' H' dx ts ta, Pu F H0 F' H' → F' x = some (.ins CP dx [("turns", tv), ("stations", .ref ts), ("arrows", .ref ta), ("begin", bv), ("end", ev)]) → F' ts = some (.tup ss) → F' ta = some (.tup as) → Q .non H') := by
          rcases h with ⟨y, hy2, _⟩ | ⟨z, hy2, _⟩ | ⟨_, y, hy2, _⟩ | ⟨_, _, hb, rz⟩ | ⟨_, _, hb, he, rz⟩ | ⟨_, _, hb, he, k⟩
          · exact (noend _ hy2).elim
          · exact (noend _ hy2).elim
          · exact (noarr _ hy2).elim
          · exact ⟨0, by omega, fun i v h => by omega, fun v hv => by cases hv; exact ⟨hb, rz⟩, fun h => by cases h⟩
          · refine ⟨1, by omega, fun i v h hv => ?_, fun v hv => by cases hv; exact ⟨he, rz⟩, fun h => by cases h⟩
            obtain rfl : i = 0 := by omega
            cases hv
            exact hb
          · refine ⟨2, by omega, fun i v h hv => ?_, (fun v hv => by cases hv), fun _ => k⟩
            rcases (by omega : i = 0 ∨ i = 1) with rfl | rfl
            · cases hv; exact hb
            · cases hv; exact he
        -- begin and end
        refine ⟨_, rfl, _, rfl, sz (n := 2) (by decide), fun c hc => ⟨c, rfl, ⟨_, SqT.of upd_same⟩, ?_⟩⟩
        have w10 := w9.new (o := .tup [bv, ev]) hc
        refine for_it (walk_tup (xs := [bv, ev])) (fun i σ H' => ∃ (n m k : Option V), Own F H0 F2 H' ((c, .tup [bv, ev]) :: [(x, .ins CP dx [("turns", tv), ("stations", .ref ts), ("arrows", .ref ta), ("begin", bv), ("end", ev)])]) ∧ i ≤ r ∧ σ = [some (.ref x), some tv, some (.ref ls), some (.ref la), some bv, some ev, n, m, k]) ⟨_, _, _, w10, Nat.zero_le _, rfl⟩ (fun i σ H' _ ⟨n, m, k, w11, _⟩ => SqT.of (w11.at 0)) ?_ ?_
        · rintro i y σ H' H'' hi ⟨n2, m2, k2, w11, hir, rfl⟩ ⟨e1, hy⟩
          subst e1
          by_cases hlt : i < r
          · obtain ⟨b, rfl, hb⟩ := hgood i y hlt hy
            refine ⟨_, rfl, _, _, _, _, _, rfl, ClsV.ty _, TyX.base (TyOf.str _), kit_ty (r := true) (by decide +kernel), ?_⟩
            refine ⟨_, rfl, ?_⟩
            refine iteF ⟨_, rfl, _, rfl, x, CP, dx, _, _, rfl, w11.at 1, PL.cl, PL.no _ (by decide), rfl, .inr ⟨ts, _, rfl, .inr (SqT.of (w11.sub _ _ hts3)), rfl, flat_strs st, _, rfl, ?_⟩⟩
            show (if (!inV (.str b) (st.map V.str)) = true then _ else _ : Prop)
            rw [inV_strs, decide_eq_true hb]
            exact iteF ⟨_, _, _, w11, hlt, rfl⟩
          · have hie : i = r := by omega
            subst hie
            obtain ⟨hno, rz⟩ := hbad y hy
            rcases hno with ⟨b, rfl, hb⟩ | ⟨ty, hty, hk⟩
            · refine ⟨_, rfl, _, _, _, _, _, rfl, ClsV.ty _, TyX.base (TyOf.str _), kit_ty (r := true) (by decide +kernel), ?_⟩
              refine ⟨_, rfl, ?_⟩
              refine iteF ⟨_, rfl, _, rfl, x, CP, dx, _, _, rfl, w11.at 1, PL.cl, PL.no _ (by decide), rfl, .inr ⟨ts, _, rfl, .inr (SqT.of (w11.sub _ _ hts3)), rfl, flat_strs st, _, rfl, ?_⟩⟩
              show (if (!inV (.str b) (st.map V.str)) = true then _ else _ : Prop)
              rw [inV_strs, decide_eq_false hb]
              exact iteT ⟨_, rfl, _, rfl, fun d hd => rz _ _ d (w11.tmp (Same.new (o := .xd [("name", .str b)]) hd)).pu upd_same⟩
            · refine ⟨_, rfl, _, _, _, _, _, rfl, ClsV.ty _, TyX.mono (w11.ff.trans w11.sub) hty, hk, ?_⟩
              refine ⟨_, rfl, ?_⟩
              exact iteT ⟨_, rfl, _, rfl, fun d hd => rz _ _ d (w11.tmp (Same.new (o := .xd [("name", y)]) hd)).pu upd_same⟩
        · rintro σ H' ⟨n2, m2, k2, w11, hir, rfl⟩
          have w12 := w11.fix 1
          exact hdone (by simp at hir; omega) _ _ dx ts ta w12.pu upd_same ((w11.ext 1) _ _ hts2) ((w11.ext 1) _ _ hta2)
end
end TR

/-! part SeqU -/
/-! Lists or tuples alike. -/
namespace G
open PySem PySem.Spec PyProof.Rows L2
section
variable {X : Cx} {K : PySem.W.Frag}
def gSeq (K : PySem.W.Frag) (n : Nat) (t : TGs) : TG := fun v σ H Q => gTup K n t v σ H Q ∨ gUnl K n t v σ H Q
theorem k_seq {es : List Expr} {t : TGs} {n kk : Nat} {pos : Pos} (hc : X.calm = true) (h : PGs X es t) (hn : (assignEach es X.env).length = n := by rfl) (hst : (assignEach es X.env).findIdx? (·.1) = none := by rfl) (hK : X.K = K := by rfl) : PG X (.Tuple es kk pos) (gSeq K n t) := by
  subst hK
  have a : PG X (.Tuple es kk pos) (gTup X.K n t) := pg_tup hc h hn hst
  have b : PG X (.Tuple es kk pos) (gUnl X.K n t) := pg_unl hc h hn hst
  exact ⟨fun pins s σ H v u Q I r q => q.elim (a.run pins s σ H v u Q I r) (b.run pins s σ H v u Q I r)⟩
theorem PI.or {tg l : Expr} {a b : TI} (h : PI X tg l a) (k : PI X tg l b) : PI X tg l (fun σ H R => a σ H R ∨ b σ H R) :=
  ⟨fun pins s σ H R I q => q.elim (h.run pins s σ H R I) (k.run pins s σ H R I)⟩
def iEnumU (K : PySem.W.Frag) (ta : TA) : TI := fun σ H R => iEnum K ta σ H R ∨ iEnumT K ta σ H R
def iSeqU (K : PySem.W.Frag) (te : TE) : TI := fun σ H R => iList K te σ H R ∨ iTup K te σ H R
theorem k_enumU {e : Expr} {ta : TA} {p pos tpos : Pos} {elts : List Expr} {kk : Nat} (hg : Gl X "enumerate") (hm : X.mg "enumerate" = none) (ha : PA X [e] ta) (hs : starEach [e] X.env = [(false, eval e X.env)] := by rfl) (hK : X.K = K := by rfl) :
    PI X (.Tuple elts kk tpos) (.Call (.Name "enumerate" p) [e] [] pos) (iEnumU K ta) := PI.or (k_enum hg hm ha hs hK) (pi_enumT hg hm ha hs hK)
theorem k_iu {tg l : Expr} {tl : TE} (hl : PE X l tl) (hK : X.K = K := by rfl) : PI X tg l (iSeqU K tl) := PI.or (k_il hl hK) (k_it hl hK)
end
/-- a list or a tuple -/
def Sq2 (H : Hp) (a : Addr) (xs : List V) : Prop := H a = some (.lst xs) ∨ H a = some (.tup xs)
theorem Sq2.mono {H H' : Hp} {a : Addr} {xs : List V} (s : Same H H') (h : Sq2 H a xs) : Sq2 H' a xs := h.elim (fun h => .inl (s _ _ h)) (fun h => .inr (s _ _ h))
theorem Sq2.sq {K : PySem.W.Frag} {H : Hp} {a : Addr} {xs : List V} (h : Sq2 H a xs) : SqL K H a xs ∨ SqT K H a xs := h.elim (fun h => .inl (SqL.of h)) (fun h => .inr (SqT.of h))
theorem enumU {K : PySem.W.Frag} {ta : TA} {σ : L2.St} {H : Hp} {R : It → Hp → Prop} {a : Addr} {xs : List V} (hs : Sq2 H a xs) (h : ∀ Q : List V → Hp → Prop, Q [.ref a] H → ta σ H Q)
    (k : ∀ (J : It) (Gd : Hp → Prop), Walk J xs.length Gd (YPair (fun i => some (.int (i : Nat))) (fun i => xs[i]?)) → (∀ H', Same H H' → Gd H') → R J H) : iEnumU K ta σ H R := by
  rcases hs with hs | hs
  · exact .inl (h _ ⟨a, xs, rfl, SqL.of hs, k _ _ walk_enum fun H' s => SqL.of (s _ _ hs)⟩)
  · exact .inr (h _ ⟨a, xs, rfl, SqT.of hs, k _ _ walk_enumT fun H' s => SqT.of (s _ _ hs)⟩)
theorem seqU {K : PySem.W.Frag} {te : TE} {σ : L2.St} {H : Hp} {R : It → Hp → Prop} {a : Addr} {xs : List V} (hs : Sq2 H a xs) (h : ∀ Q : V → Hp → Prop, Q (.ref a) H → te σ H Q)
    (k : ∀ (J : It) (Gd : Hp → Prop), Walk J xs.length Gd (YAt xs) → (∀ H', Same H H' → Gd H') → R J H) : iSeqU K te σ H R := by
  rcases hs with hs | hs
  · exact .inl (h _ ⟨a, rfl, ⟨_, SqL.of hs⟩, k _ _ walk_list fun H' s => SqL.of (s _ _ hs)⟩)
  · exact .inr (h _ ⟨a, rfl, ⟨_, SqT.of hs⟩, k _ _ walk_tup fun H' s => SqT.of (s _ _ hs)⟩)
theorem gseq {K : PySem.W.Frag} {n : Nat} {t : TGs} {σ : L2.St} {H : Hp} {Q : L2.St → Hp → Prop} {a : Addr} {xs : List V} (hs : Sq2 H a xs) (hn : xs.length = n) (h : t xs σ H Q) : gSeq K n t (.ref a) σ H Q := by
  rcases hs with hs | hs
  · exact .inr ⟨a, xs, rfl, SqL.of hs, hn, h⟩
  · exact .inl ⟨a, xs, rfl, SqT.of hs, hn, h⟩
end G

/-! part A13 -/
namespace TR
open PySem PySem.Spec PyProof.Rows L2 G
structure PlanD where
  ks : Kinds
  st : List Str
  ds : List ArrD
  b : Str
  e : Str
structure PlanAt (CT CN CP : Addr) (d : PlanD) (v : V) (F : Hp) (a dx ts ta : Addr) (tv : V) : Prop where
  ev : v = .ref a
  ob : F a = some (.ins CP dx [("turns", tv), ("stations", .ref ts), ("arrows", .ref ta), ("begin", .str d.b), ("end", .str d.e)])
  tu : (RTurns CT).rel d.ks tv F
  st : F ts = some (.tup (d.st.map V.str))
  ar : (Rp.tup (RArr CN)).rel d.ds (.ref ta) F
  gd : ∀ x ∈ d.ds, arrGood d.ks d.st x
  la : d.ds.length ≤ 100
def RPlan (CT CN CP : Addr) : Rp PlanD := ⟨fun d v F => ∃ a dx ts ta tv, PlanAt CT CN CP d v F a dx ts ta tv,
  fun s ⟨a, dx, ts, ta, tv, h⟩ => ⟨a, dx, ts, ta, tv, h.ev, s _ _ h.ob, (RTurns CT).mono s h.tu, s _ _ h.st, (Rp.tup (RArr CN)).mono s h.ar, h.gd, h.la⟩⟩
/-- what stands for a step of a run: an arrow's number and a member, or nothing of that kind -/
inductive PairV (K : PySem.W.Frag) : V → Hp → Option (Int × Int) → Prop
  | ok {a : Addr} {i n : Int} {F : Hp} (h : Sq2 F a [.int i, .int n]) : PairV K (.ref a) F (some (i, n))
  | ty {v : V} {t : Value} {F : Hp} (h : TyX K F v t) (k : PySem.W.kitAny K t [.type "list", .type "tuple"] = some false) : PairV K v F none
  | len {a : Addr} {xs : List V} {F : Hp} (h : Sq2 F a xs) (n : xs.length ≠ 2) : PairV K (.ref a) F none
  | nint {a : Addr} {x y : V} {t : Value} {b : Bool} {F : Hp} (h : Sq2 F a [x, y]) (hx : TyX K F x t) (k : PySem.W.kitOne K t (.type "bool") = some b) (k2 : b = true ∨ PySem.W.kitOne K t (.type "int") = some false) : PairV K (.ref a) F none
theorem PairV.mono {K : PySem.W.Frag} {F F' : Hp} {v : V} {p : Option (Int × Int)} (s : Same F F') (h : PairV K v F p) : PairV K v F' p := by
  cases h with
  | ok h => exact .ok (h.mono s)
  | ty h k => exact .ty (TyX.mono s h) k
  | len h n => exact .len (h.mono s) n
  | nint h hx k k2 => exact .nint (h.mono s) (TyX.mono s hx) k k2
def arrAt (ds : List ArrD) (i : Int) : Option ArrD := if 0 ≤ i then ds[i.toNat]? else none
def takesB (ds : List ArrD) (here : Str) : Option (Int × Int) → Bool
  | none => false
  | some p => match arrAt ds p.1 with
    | none => false
    | some a => decide (a.one = here) && memD p.2 a.num
theorem takesB_some {ds : List ArrD} {here : Str} {i n : Int} {a : ArrD} (h : arrAt ds i = some a) : takesB ds here (some (i, n)) = (decide (a.one = here) && memD n a.num) := by
  show (match arrAt ds i with
    | none => false
    | some a => decide (a.one = here) && memD n a.num) = _
  rw [h]
theorem takesB_none {ds : List ArrD} {here : Str} {i n : Int} (h : arrAt ds i = none) : takesB ds here (some (i, n)) = false := by
  show (match arrAt ds i with
    | none => false
    | some a => decide (a.one = here) && memD n a.num) = _
  rw [h]
theorem arrAt_lt {ds : List ArrD} {i : Int} (h : 0 ≤ i ∧ i < ds.length) : ∃ a, arrAt ds i = some a ∧ ds[i.toNat]? = some a := by
  have hl : i.toNat < ds.length := by omega
  exact ⟨ds[i.toNat], by unfold arrAt; rw [if_pos h.1, List.getElem?_eq_getElem hl], List.getElem?_eq_getElem hl⟩
theorem arrAt_ge {ds : List ArrD} {i : Int} (h : ¬ (0 ≤ i ∧ i < ds.length)) : arrAt ds i = none := by
  unfold arrAt
  split
  · exact List.getElem?_eq_none (by omega)
  · rfl
section
variable {P : Program} {w : World} {K : PySem.W.Frag} {mg : Str → Option Value} {base : Heap} {CT CN CP EN ET EA ES CR : Addr}
theorem ty_sq2 {H : Hp} {a : Addr} {xs : List V} (h : Sq2 H a xs) : ∃ t, TyX K H (.ref a) t ∧ PySem.W.kitAny K t [.type "list", .type "tuple"] = some true := by
  rcases h with h | h
  · exact ⟨_, TyX.base (TyOf.lst h), kitAny_cons (kit_ty (r := true) (by decide +kernel)) (fun h => by cases h) (fun _ => rfl)⟩
  · exact ⟨_, TyX.base (TyOf.tup h), kitAny_cons (kit_ty (r := false) (by decide +kernel)) (fun _ => kitAny_cons (kit_ty (r := true) (by decide +kernel)) (fun h => by cases h) (fun _ => rfl)) (fun h => by cases h)⟩
abbrev s_Plan_takes : Stmt := inClass (top 42) 1
abbrev N_Plan_takes : List Str := ["self", "pair", "station", "index", "exponent"]
abbrev P_Plan_takes : List Str := ["self", "pair", "station"]
theorem sc_Plan_takes : FnScope N_Plan_takes P_Plan_takes (defScope s_Plan_takes) := ⟨rfl, rfl, rfl, by decide +kernel, rfl, by decide +kernel, by decide +kernel⟩
theorem bn_Plan_takes : BindsNo "takes" "Plan.takes" s_Plan_takes P_Plan_takes := fun _ _ _ _ _ _ us hl => match us, hl with | [_, _, _], _ => rfl
def sp_takes (K : PySem.W.Frag) (CT CN CP : Addr) : Sp := fun vs H Q _ => ∃ (F : Hp) (v pv : V) (here : Str) (d : PlanD) (p : Option (Int × Int)), vs = [v, pv, .str here] ∧ Same F H ∧ (RPlan CT CN CP).rel d v F ∧ PairV K pv H p ∧ ∀ H', Same H H' → Q (.bl (takesB d.ds here p)) H'
theorem ok_takes (B : Bt mg) (PL : KlF K mg "Plan" CP ["turns", "stations", "arrows", "begin", "end"]) (m_Num_in : Met P w K mg base 2 CN "__contains__" (sp_Num_in CN)) (F : MtF K CP "takes" "Plan.takes" s_Plan_takes []) : Met P w K mg base 3 CP "takes" (sp_takes K CT CN CP) := by
  refine F.met PL.cl sc_Plan_takes bn_Plan_takes (fun vs H Q E h => ?_) (fun f cdv A outer s H vs Q E hr h => ?_)
  · obtain ⟨_, _, _, _, _, _, rfl, _⟩ := h
    rfl
  · obtain ⟨F, v, ww, here, d, p, rfl, sF, ⟨a, dx, ts, ta, tv, hp⟩, hpv, k⟩ := h
    refine ⟨_, (pss_cons (ps_if (PW.pt (pw_or (pt_not (pt_val (pe_callB (k_isiT (K := K)) (by rfl) B.isinstance (by decide +kernel) (pa_cons (pv 1) (pa_cons (pe_tup (pa_cons (pe_ty (n := "list") B.list) (pa_cons (pe_ty (n := "tuple") B.tuple) pa_nil))) pa_nil))))) (pw_or1 (pt_cmpR (op_neU hr (K := K)) (pe_callB (call_lenU (K := K)) (by rfl) B.len (by decide +kernel) (pa_cons (pv 1) pa_nil)) pe_int (nomark _))))) (pss_one (ps_ret pe_bl)) pss_nil)
    (pss_cons (ps_asg (pv 1) (k_seq (n := 2) rfl (pgs_cons (pg_name (i := 3) sc_Plan_takes.nd rfl (Or.inl rfl)) (pgs_cons (pg_name (i := 4) sc_Plan_takes.nd rfl (Or.inl rfl)) pgs_nil)) (K := K)))
    (pss_cons (ps_if (PW.pt (pw_or (pt_val (pe_callB (k_isi (K := K)) (by rfl) B.isinstance (by decide +kernel) (pa_cons (pv 3) (pa_cons (pe_ty (n := "bool") B.bool) pa_nil)))) (pw_or (pt_not (pt_val (pe_callB (k_isi (K := K)) (by rfl) B.isinstance (by decide +kernel) (pa_cons (pv 3) (pa_cons (pe_ty (n := "int") B.int) pa_nil))))) (pw_or1 (pt_not (pt_chain op_le op_lt pe_int (pv 3) (pe_callB (call_lenU (K := K)) (by rfl) B.len (by decide +kernel) (pa_cons (k_fld (pv 0) (K := K)) pa_nil)))))))) (pss_one (ps_ret pe_bl)) pss_nil)
    (pss_one (ps_ret (pe_and (pe_cmpR (op_eqU hr (K := K)) (pe_ix (k_ix (K := K)) (pe_ix (k_ix (K := K)) (k_fld (pv 0) (K := K)) (pv 3) (fun _ _ => rfl)) pe_int (fun _ _ => rfl)) (pv 2) (nomark _)) (pe_one (pe_cmpR (op_inO m_Num_in hr (by decide) passL) (pv 4) (pe_ix (k_ix (K := K)) (pe_ix (k_ix (K := K)) (k_fld (pv 0) (K := K)) (pv 3) (fun _ _ => rfl)) pe_int (fun _ _ => rfl)) (by rfl))))))))), ?_⟩
    obtain ⟨tb, as, etb, hta, pda⟩ := hp.ar
    cases etb
    have hal : as.length = d.ds.length := pd_len pda
    have len : ∀ {a : Addr} {xs : List V}, Sq2 H a xs → SqL K H a xs ∨ SqT K H a xs := fun h => h.sq
    cases hpv with
    | ty h1 h2 =>
      refine ⟨_, rfl, sz (n := 2) (by decide), fun c hc => ?_⟩
      have s1 : Same H (upd H c (.tup [.ty "list", .ty "tuple"])) := Same.new hc
      refine ⟨_, c, _, _, [.type "list", .type "tuple"], false, rfl, upd_same, .cons (ClsV.ty _) (.cons (ClsV.ty _) .nil), TyX.mono s1 h1, h2, ?_⟩
      exact ⟨_, rfl, iteT (k _ s1)⟩
    | @len b xs _ h1 h2 =>
      refine ⟨_, rfl, sz (n := 2) (by decide), fun c hc => ?_⟩
      have s1 : Same H (upd H c (.tup [.ty "list", .ty "tuple"])) := Same.new hc
      obtain ⟨t, ht, hk⟩ := ty_sq2 (K := K) (h1.mono s1)
      refine ⟨_, c, _, _, [.type "list", .type "tuple"], true, rfl, upd_same, .cons (ClsV.ty _) (.cons (ClsV.ty _) .nil), ht, hk, ?_⟩
      refine ⟨_, rfl, iteF ⟨_, rfl, .inl ⟨b, xs, rfl, (h1.mono s1).sq, .inl ⟨rfl, _, rfl, ?_⟩⟩⟩⟩
      rw [decide_eq_false (show ¬ V.int (xs.length : Nat) = V.int 2 from fun q => h2 (by injection q with q; omega))]
      exact iteT (k _ s1)
    | @nint b x y t bb _ h1 h2 h3 h4 =>
      refine ⟨_, rfl, sz (n := 2) (by decide), fun c hc => ?_⟩
      have s1 : Same H (upd H c (.tup [.ty "list", .ty "tuple"])) := Same.new hc
      obtain ⟨t, ht, hk⟩ := ty_sq2 (K := K) (h1.mono s1)
      refine ⟨_, c, _, _, [.type "list", .type "tuple"], true, rfl, upd_same, .cons (ClsV.ty _) (.cons (ClsV.ty _) .nil), ht, hk, ?_⟩
      refine ⟨_, rfl, iteF ⟨_, rfl, .inl ⟨b, _, rfl, (h1.mono s1).sq, .inl ⟨rfl, _, rfl, ?_⟩⟩⟩⟩
      refine iteF ⟨_, rfl, gseq (h1.mono s1) rfl ⟨_, _, rfl, _, _, rfl, rfl, ?_⟩⟩
      refine ⟨_, rfl, _, _, _, _, _, rfl, ClsV.ty _, TyX.mono s1 h2, h3, ?_⟩
      rcases h4 with rfl | h4
      · exact ⟨_, rfl, iteT (k _ s1)⟩
      · refine ⟨_, rfl, ?_⟩
        cases bb with
        | true => exact iteT (k _ s1)
        | false =>
          refine iteF ⟨_, rfl, _, _, _, _, _, rfl, ClsV.ty _, TyX.mono s1 h2, h4, ?_⟩
          exact ⟨_, rfl, iteT (k _ s1)⟩
    | @ok b i n _ h1 =>
      refine ⟨_, rfl, sz (n := 2) (by decide), fun c hc => ?_⟩
      have s1 : Same H (upd H c (.tup [.ty "list", .ty "tuple"])) := Same.new hc
      have sF1 := sF.trans s1
      obtain ⟨t, ht, hk⟩ := ty_sq2 (K := K) (h1.mono s1)
      refine ⟨_, c, _, _, [.type "list", .type "tuple"], true, rfl, upd_same, .cons (ClsV.ty _) (.cons (ClsV.ty _) .nil), ht, hk, ?_⟩
      refine ⟨_, rfl, iteF ⟨_, rfl, .inl ⟨b, _, rfl, (h1.mono s1).sq, .inl ⟨rfl, _, rfl, ?_⟩⟩⟩⟩
      refine iteF ⟨_, rfl, gseq (h1.mono s1) rfl ⟨_, _, rfl, _, _, rfl, rfl, ?_⟩⟩
      refine ⟨_, rfl, _, _, _, _, _, rfl, ClsV.ty _, TyX.base (TyOf.int _), kit_ty (r := false) (by decide +kernel), ?_⟩
      refine ⟨_, rfl, iteF ⟨_, rfl, _, _, _, _, _, rfl, ClsV.ty _, TyX.base (TyOf.int _), kit_ty (r := true) (by decide +kernel), ?_⟩⟩
      refine ⟨_, rfl, iteF ?_⟩
      by_cases h0 : (0 : Int) ≤ i
      · refine ⟨_, rfl, _, _, rfl, rfl, _, rfl, ?_⟩
        rw [decide_eq_true h0]
        refine iteT ⟨_, rfl, a, CP, dx, _, _, hp.ev, sF1 _ _ hp.ob, PL.cl, PL.no _ (by decide), rfl, .inl ⟨ta, as, rfl, .inr (SqT.of (sF1 _ _ hta)), ?_⟩⟩
        refine ⟨_, _, rfl, rfl, _, rfl, ?_⟩
        by_cases h1 : i < (as.length : Int)
        · rw [decide_eq_true h1]
          obtain ⟨x, e1, e2⟩ := arrAt_lt (ds := d.ds) ⟨h0, by rw [← hal]; exact h1⟩
          obtain ⟨y, hy, b2, nv, hx⟩ := pd_get' pda e2
          have ek : takesB d.ds here (some (i, n)) = (decide (x.one = here) && memD n x.num) := takesB_some e1
          rw [ek] at k
          have ix : ∀ Q : VK, Q y (upd H c (.tup [.ty "list", .ty "tuple"])) → rIx K (.ref ta) (.int i) (upd H c (.tup [.ty "list", .ty "tuple"])) Q := fun Q q => .inr (.inl ⟨ta, as, i, y, rfl, rfl, SqT.of (sF1 _ _ hta), atI_int h0 hy, q⟩)
          refine iteF ⟨_, rfl, a, CP, dx, _, _, hp.ev, sF1 _ _ hp.ob, PL.cl, PL.no _ (by decide), rfl, _, rfl, ix _ (.inr (.inl ⟨b2, _, 0, _, hx.ev, rfl, SqT.of (sF1 _ _ hx.ob), atI_nat rfl, ?_⟩))⟩
          refine ⟨_, rfl, .inl ⟨rfl, _, rfl, ?_⟩⟩
          by_cases h2 : x.one = here
          · rw [decide_eq_true (congrArg V.str h2)]
            rw [decide_eq_true h2] at k
            obtain ⟨na, ndx, lc, ls, hn⟩ := id hx.nu
            refine iteT ⟨_, rfl, _, rfl, a, CP, dx, _, _, hp.ev, sF1 _ _ hp.ob, PL.cl, PL.no _ (by decide), rfl, _, rfl, ix _ (.inr (.inl ⟨b2, _, 2, _, hx.ev, rfl, SqT.of (sF1 _ _ hx.ob), atI_nat rfl, ?_⟩))⟩
            refine ⟨na, ndx, _, hn.ev, sF1 _ _ hn.ob, F, nv, n, x.num, rfl, sF1, hx.nu, fun H2 s2 => ⟨_, rfl, ?_⟩⟩
            exact k _ (s1.trans s2)
          · rw [decide_eq_false (fun q => h2 (V.str.inj q))]
            rw [decide_eq_false h2] at k
            exact iteF (k _ s1)
        · rw [decide_eq_false h1]
          have ek : takesB d.ds here (some (i, n)) = false := takesB_none (arrAt_ge (fun q => h1 (by rw [hal]; exact q.2)))
          rw [ek] at k
          exact iteT (k _ s1)
      · refine ⟨_, rfl, _, _, rfl, rfl, _, rfl, ?_⟩
        rw [decide_eq_false h0]
        have ek : takesB d.ds here (some (i, n)) = false := takesB_none (arrAt_ge (fun q => h0 q.1))
        rw [ek] at k
        exact iteF ⟨_, rfl, iteT (k _ s1)⟩
end
end TR

/-! part A14 -/
namespace TR
open PySem PySem.Spec PyProof.Rows L2 G
abbrev Run : Type := List (Option (Int × Int))
def nextOf (ds : List ArrD) : Option (Int × Int) → Str
  | none => ""
  | some p => ((arrAt ds p.1).map (·.other)).getD ""
def faultD (ds : List ArrD) (e : Str) (here : Str) (k : Nat) : Run → Option Nat
  | [] => if here = e then none else some k
  | p :: r => if takesB ds here p = true then faultD ds e (nextOf ds p) (k + 1) r else some k
theorem faultD_nil {ds : List ArrD} {e here : Str} {k : Nat} : faultD ds e here k [] = if here = e then none else some k := rfl
theorem faultD_cons {ds : List ArrD} {e here : Str} {k : Nat} {p : Option (Int × Int)} {r : Run} : faultD ds e here k (p :: r) = if takesB ds here p = true then faultD ds e (nextOf ds p) (k + 1) r else some k := rfl
def ofO : Option Nat → V
  | none => .non
  | some k => .int (k : Nat)
def stepOf (ds : List ArrD) : Option (Int × Int) → Str × Int
  | none => ("", 0)
  | some p => (((arrAt ds p.1).map (·.name)).getD "", p.2)
theorem takesB_some' {ds : List ArrD} {here : Str} {p : Option (Int × Int)} (h : takesB ds here p = true) : ∃ i n a, p = some (i, n) ∧ arrAt ds i = some a := by
  cases p with
  | none => cases h
  | some q =>
    cases h1 : arrAt ds q.1 with
    | none => rw [takesB_none (n := q.2) h1] at h; cases h
    | some a => exact ⟨q.1, q.2, a, rfl, h1⟩
theorem arrAt_int {ds : List ArrD} {i : Int} {a : ArrD} (h : arrAt ds i = some a) : 0 ≤ i ∧ ds[i.toNat]? = some a := by
  unfold arrAt at h
  split at h
  · exact ⟨‹_›, h⟩
  · cases h
theorem fault_all {ds : List ArrD} {e : Str} : ∀ {ps : Run} {here : Str} {k : Nat}, faultD ds e here k ps = none → ∀ p ∈ ps, ∃ i n a, p = some (i, n) ∧ arrAt ds i = some a
  | [], _, _, _, _, h => by cases h
  | p :: r, here, k, h, q, hq => by
    unfold faultD at h
    split at h
    · rename_i ht
      rcases List.mem_cons.mp hq with e | e
      · rw [e]; exact takesB_some' ht
      · exact fault_all h q e
    · cases h
section
variable {P : Program} {w : World} {K : PySem.W.Frag} {mg : Str → Option Value} {base : Heap} {CT CN CP EN ET EA ES CR : Addr}
abbrev s_Plan_fault : Stmt := inClass (top 42) 3
abbrev N_Plan_fault : List Str := ["self", "run", "here", "at", "pair"]
abbrev P_Plan_fault : List Str := ["self", "run"]
theorem sc_Plan_fault : FnScope N_Plan_fault P_Plan_fault (defScope s_Plan_fault) := ⟨rfl, rfl, rfl, by decide +kernel, rfl, by decide +kernel, by decide +kernel⟩
theorem bn_Plan_fault : BindsNo "fault" "Plan.fault" s_Plan_fault P_Plan_fault := fun _ _ _ _ _ _ us hl => match us, hl with | [_, _], _ => rfl
def sp_fault (K : PySem.W.Frag) (CT CN CP : Addr) : Sp := fun vs H Q _ => ∃ (F : Hp) (v : V) (a : Addr) (xs : List V) (d : PlanD) (ps : Run), vs = [v, .ref a] ∧ Same F H ∧ (RPlan CT CN CP).rel d v F ∧ Sq2 H a xs ∧ Paired (fun p x => PairV K x H p) ps xs ∧ xs.length ≤ 1000 ∧
  ∀ H', Same H H' → Q (ofO (faultD d.ds d.e d.b 0 ps)) H'
theorem ok_fault (B : Bt mg) (PL : KlF K mg "Plan" CP ["turns", "stations", "arrows", "begin", "end"]) (m_takes : Met P w K mg base 3 CP "takes" (sp_takes K CT CN CP)) (F : MtF K CP "fault" "Plan.fault" s_Plan_fault []) : Met P w K mg base 4 CP "fault" (sp_fault K CT CN CP) := by
  refine F.met PL.cl sc_Plan_fault bn_Plan_fault (fun vs H Q E h => ?_) (fun f cdv A outer s H vs Q E hr h => ?_)
  · obtain ⟨_, _, _, _, _, _, rfl, _⟩ := h
    rfl
  · obtain ⟨F, v, ra, xs, d, ps, rfl, sF, rp, hra, pd, hlen, k⟩ := h
    obtain ⟨a, dx, ts, ta, tv, hp⟩ := id rp
    obtain ⟨tb, as, etb, hta, pda⟩ := hp.ar
    cases etb
    have hxl : xs.length = ps.length := pd_len pd
    refine ⟨_, (pss_cons (ps_set (i := 2) sc_Plan_fault.nd rfl (Or.inl rfl) (k_fld (pv 0) (K := K)))
    (pss_cons (ps_for (passes_of rfl) rfl (k_enumU (by rfl) B.enumerate (pa_cons (pv 1) pa_nil) (K := K)) (k_tup (n := 2) rfl (pgs_cons (pg_name (i := 3) sc_Plan_fault.nd rfl (Or.inl rfl)) (pgs_cons (pg_name (i := 4) sc_Plan_fault.nd rfl (Or.inl rfl)) pgs_nil)) (K := K))
    (pss_cons (ps_if (pt_not (pt_val (pe_m m_takes hr (by decide) (pv 0) (pa_cons (pv 4) (pa_cons (pv 2) pa_nil)) passL))) (pss_one (ps_ret (pv 3))) pss_nil)
    (pss_one (ps_set (i := 2) sc_Plan_fault.nd rfl (Or.inl rfl) (pe_ix (k_ix (K := K)) (pe_ix (k_ix (K := K)) (k_fld (pv 0) (K := K)) (pe_ix (k_ix (K := K)) (pv 4) pe_int (fun _ _ => rfl)) (fun _ _ => rfl)) pe_int (fun _ _ => rfl))))))
    (pss_one (ps_ret (pe_ifExp (pt_cmpR (op_eqU hr (K := K)) (pv 2) (k_fld (pv 0) (K := K)) (nomark _)) pe_non (pe_callB (call_lenU (K := K)) (by rfl) B.len (by decide +kernel) (pa_cons (pv 1) pa_nil))))))), ?_⟩
    refine ⟨_, rfl, a, CP, dx, _, _, hp.ev, sF _ _ hp.ob, PL.cl, PL.no _ (by decide), rfl, ?_⟩
    refine enumU hra (fun Q q => ⟨_, rfl, q⟩) fun J Gd wk hG => ?_
    refine for_it wk (fun i σ H' => ∃ (n m : Option V) (here : Str), Same H H' ∧ faultD d.ds d.e d.b 0 ps = faultD d.ds d.e here i (ps.drop i) ∧ σ = [some v, some (.ref ra), some (.str here), n, m]) ⟨none, none, d.b, Same.refl _, rfl, rfl⟩ (fun i σ H' _ ⟨n, m, here, s1, _⟩ => hG _ s1) ?_ ?_
    · rintro i y σ H' H'' hi ⟨n0, m0, here, s1, hf, rfl⟩ ⟨T, x1, x2, rfl, hT, rfl, e1, hy⟩
      cases e1
      replace hy : xs[i]? = some x2 := hy
      obtain ⟨p, hpi, hpv⟩ := pd_get pd hy
      have hdrop : ps.drop i = p :: ps.drop (i + 1) := by
        have hlt := (List.getElem?_eq_some_iff.mp hpi).1
        have he := (List.getElem?_eq_some_iff.mp hpi).2
        rw [List.drop_eq_getElem_cons hlt, he]
      rw [hdrop, faultD_cons] at hf
      have s2 := s1.trans (Same.new (o := .tup [.int (i : Nat), x2]) hT)
      refine ⟨T, _, rfl, SqT.of upd_same, rfl, _, _, rfl, _, _, rfl, rfl, ?_⟩
      refine ⟨_, rfl, a, dx, _, hp.ev, (sF.trans s2) _ _ hp.ob, rfl, _, rfl, _, rfl, F, v, x2, here, d, p, rfl, sF.trans s2, rp, hpv.mono s2, fun H4 s4 => ?_⟩
      have s5 := s2.trans s4
      refine ⟨_, rfl, ?_⟩
      cases ht : takesB d.ds here p with
      | false =>
        rw [ht, if_neg Bool.false_ne_true] at hf
        have q := k H4 s5
        rw [hf] at q
        exact ⟨_, rfl, q⟩
      | true =>
        rw [ht, if_pos rfl] at hf
        obtain ⟨j, n, x, rfl, hx⟩ := takesB_some' ht
        obtain ⟨hj0, hjx⟩ := arrAt_int hx
        obtain ⟨y, hy2, b2, nv, ha⟩ := pd_get' pda hjx
        have sF5 := sF.trans s5
        cases hpv with
        | ok hb =>
          rename_i pb
          have hb5 := hb.mono s5
          refine ⟨_, rfl, a, CP, dx, _, _, hp.ev, sF5 _ _ hp.ob, PL.cl, PL.no _ (by decide), rfl, ?_⟩
          have ix : ∀ Q : VK, Q (.int j) H4 → rIx K (.ref pb) (.int 0) H4 Q := fun Q q => hb5.elim (fun h => .inl ⟨pb, _, 0, _, rfl, rfl, SqL.of h, atI_nat rfl, q⟩) (fun h => .inr (.inl ⟨pb, _, 0, _, rfl, rfl, SqT.of h, atI_nat rfl, q⟩))
          refine ⟨_, rfl, ix _ (.inr (.inl ⟨ta, as, j, y, rfl, rfl, SqT.of (sF5 _ _ hta), atI_int hj0 hy2, ?_⟩))⟩
          refine .inr (.inl ⟨b2, _, 3, _, ha.ev, rfl, SqT.of (sF5 _ _ ha.ob), atI_nat rfl, ?_⟩)
          refine ⟨_, _, x.other, s5, ?_, rfl⟩
          rw [hf]
          show faultD d.ds d.e (((arrAt d.ds j).map (·.other)).getD "") (i + 1) (ps.drop (i + 1)) = _
          rw [hx]
          rfl
    · rintro σ H' ⟨n0, m0, here, s1, hf, rfl⟩
      rw [hxl, List.drop_length, faultD_nil] at hf
      have q := k H' s1
      rw [hf] at q
      refine ⟨_, rfl, _, rfl, a, CP, dx, _, _, hp.ev, (sF.trans s1) _ _ hp.ob, PL.cl, PL.no _ (by decide), rfl, .inl ⟨rfl, _, rfl, ?_⟩⟩
      by_cases he : here = d.e
      · rw [decide_eq_true (congrArg V.str he)]
        rw [if_pos he] at q
        exact q
      · rw [decide_eq_false (fun z => he (V.str.inj z))]
        rw [if_neg he] at q
        refine ⟨_, rfl, .inl ⟨ra, xs, rfl, (hra.mono s1).sq, ?_⟩⟩
        rw [hxl]
        exact q
abbrev s_Plan_is_run : Stmt := inClass (top 42) 2
abbrev N_Plan_is_run : List Str := ["self", "run"]
abbrev P_Plan_is_run : List Str := ["self", "run"]
theorem sc_Plan_is_run : FnScope N_Plan_is_run P_Plan_is_run (defScope s_Plan_is_run) := ⟨rfl, rfl, rfl, by decide +kernel, rfl, by decide +kernel, by decide +kernel⟩
theorem bn_Plan_is_run : BindsNo "is_run" "Plan.is_run" s_Plan_is_run P_Plan_is_run := fun _ _ _ _ _ _ us hl => match us, hl with | [_, _], _ => rfl
def sp_is_run (K : PySem.W.Frag) (CT CN CP : Addr) : Sp := fun vs H Q _ => ∃ (v rv : V), vs = [v, rv] ∧ ((∃ t, TyX K H rv t ∧ PySem.W.kitAny K t [.type "list", .type "tuple"] = some false ∧ ∀ H', Same H H' → Q (.bl false) H') ∨
  ∃ (F : Hp) (a : Addr) (xs : List V) (d : PlanD) (ps : Run), rv = .ref a ∧ Same F H ∧ (RPlan CT CN CP).rel d v F ∧ Sq2 H a xs ∧ Paired (fun p x => PairV K x H p) ps xs ∧ xs.length ≤ 1000 ∧ ∀ H', Same H H' → Q (.bl (faultD d.ds d.e d.b 0 ps).isNone) H')
theorem ok_is_run (B : Bt mg) (PL : KlF K mg "Plan" CP ["turns", "stations", "arrows", "begin", "end"]) (m_fault : Met P w K mg base 4 CP "fault" (sp_fault K CT CN CP)) (F : MtF K CP "is_run" "Plan.is_run" s_Plan_is_run []) : Met P w K mg base 5 CP "is_run" (sp_is_run K CT CN CP) := by
  refine F.met PL.cl sc_Plan_is_run bn_Plan_is_run (fun vs H Q E h => ?_) (fun f cdv A outer s H vs Q E hr h => ?_)
  · obtain ⟨_, _, rfl, _⟩ := h
    rfl
  · obtain ⟨v, rv, rfl, h⟩ := h
    refine ⟨_, (pss_one (ps_ret (pe_and (pe_callB (k_isiT (K := K)) (by rfl) B.isinstance (by decide +kernel) (pa_cons (pv 1) (pa_cons (pe_tup (pa_cons (pe_ty (n := "list") B.list) (pa_cons (pe_ty (n := "tuple") B.tuple) pa_nil))) pa_nil))) (pe_one (pe_cmpR op_isN (pe_m m_fault hr (by decide) (pv 0) (pa_cons (pv 1) pa_nil) passL) pe_non (nomark _)))))), ?_⟩
    refine ⟨_, rfl, sz (n := 2) (by decide), fun c hc => ?_⟩
    have s1 : Same H (upd H c (.tup [.ty "list", .ty "tuple"])) := Same.new hc
    rcases h with ⟨t, h1, h2, k⟩ | ⟨F, ra, xs, d, ps, rfl, sF, rp, hra, pd, hlen, k⟩
    · refine ⟨_, c, _, _, [.type "list", .type "tuple"], false, rfl, upd_same, .cons (ClsV.ty _) (.cons (ClsV.ty _) .nil), TyX.mono s1 h1, h2, ?_⟩
      exact ⟨_, rfl, iteF (k _ s1)⟩
    · obtain ⟨t, ht, hk⟩ := ty_sq2 (K := K) (hra.mono s1)
      obtain ⟨a, dx, ts, ta, tv, hp⟩ := id rp
      refine ⟨_, c, _, _, [.type "list", .type "tuple"], true, rfl, upd_same, .cons (ClsV.ty _) (.cons (ClsV.ty _) .nil), ht, hk, ?_⟩
      refine ⟨_, rfl, iteT ⟨_, rfl, a, dx, _, hp.ev, (sF.trans s1) _ _ hp.ob, rfl, _, rfl, F, v, ra, xs, d, ps, rfl, sF.trans s1, rp, hra.mono s1, pd_mono (fun _ _ => PairV.mono s1) pd, hlen, fun H2 s2 => ?_⟩⟩
      have q := k H2 (s1.trans s2)
      refine ⟨rfl, ?_⟩
      cases hf : faultD d.ds d.e d.b 0 ps with
      | none => rw [hf] at q; exact q
      | some j => rw [hf] at q; exact q
abbrev s_Plan_row_of : Stmt := inClass (top 42) 4
abbrev N_Plan_row_of : List Str := ["self", "run", "fault", "index", "exponent"]
abbrev P_Plan_row_of : List Str := ["self", "run"]
theorem sc_Plan_row_of : FnScope N_Plan_row_of P_Plan_row_of (defScope s_Plan_row_of) := ⟨rfl, rfl, rfl, by decide +kernel, rfl, by decide +kernel, by decide +kernel⟩
theorem bn_Plan_row_of : BindsNo "row_of" "Plan.row_of" s_Plan_row_of P_Plan_row_of := fun _ _ _ _ _ _ us hl => match us, hl with | [_, _], _ => rfl
def sp_row_of (K : PySem.W.Frag) (CT CN CP CR EA : Addr) : Sp := fun vs H Q E => ∃ (F : Hp) (v : V) (a : Addr) (xs : List V) (d : PlanD) (ps : Run), vs = [v, .ref a] ∧ Same F H ∧ (RPlan CT CN CP).rel d v F ∧ Sq2 F a xs ∧ Paired (fun p x => PairV K x F p) ps xs ∧ xs.length ≤ 1000 ∧
  ((∃ k, faultD d.ds d.e d.b 0 ps = some k ∧ Rz F H EA "index" (.int (k : Nat)) E) ∨ (faultD d.ds d.e d.b 0 ps = none ∧ ∀ r F' H', Pu F H F' H' → (RRow CT CR).rel ⟨d.ks, normal d.ks (ps.map (stepOf d.ds))⟩ r F' → Q r H'))
theorem ok_row_of (B : Bt mg) {q3 : Str} {st3 : Stmt} (PL : KlF K mg "Plan" CP ["turns", "stations", "arrows", "begin", "end"]) (m_fault : Met P w K mg base 4 CP "fault" (sp_fault K CT CN CP)) (k_Row : Mak P w K mg base 5 "Row" CR (sp_Row_init CT CR)) (x_BadArrow : XTxt P K mg "BadArrow" q3 "index" st3 EA)
    (F : MtF K CP "row_of" "Plan.row_of" s_Plan_row_of []) : Met P w K mg base 7 CP "row_of" (sp_row_of K CT CN CP CR EA) := by
  refine F.met PL.cl sc_Plan_row_of bn_Plan_row_of (fun vs H Q E h => ?_) (fun f cdv A outer s H vs Q E hr h => ?_)
  · obtain ⟨_, _, _, _, _, _, rfl, _⟩ := h
    rfl
  · obtain ⟨F, v, ra, xs, d, ps, rfl, sF, rp, hra, pd, hlen, h⟩ := h
    obtain ⟨a, dx, ts, ta, tv, hp⟩ := id rp
    obtain ⟨tb, as, etb, hta, pda⟩ := hp.ar
    cases etb
    have hxl : xs.length = ps.length := pd_len pd
    refine ⟨_, (pss_cons (ps_set (i := 2) sc_Plan_row_of.nd rfl (Or.inl rfl) (pe_m m_fault hr (by decide) (pv 0) (pa_cons (pv 1) pa_nil) passL))
    (pss_cons (ps_if (pt_cmpR op_notN (pv 2) pe_non (nomark _)) (pss_one (ps_x rfl x_BadArrow hr (takes_of rfl rfl rfl rfl) (pa_cons (pv 2) pa_nil))) pss_nil)
    (pss_one (ps_ret (pe_k k_Row hr (by decide) (pa_cons (k_fld (pv 0) (K := K)) (pa_cons (pe_lc (own := [("index", 3), ("exponent", 4)]) rfl sc_Plan_row_of.nd (k_iu (pv 1) (K := K)) (blkOk_by (N := N_Plan_row_of) (sc := defScope s_Plan_row_of) (by decide +kernel)) (fun _ _ _ _ _ => (k_seq (n := 2) rfl (pgs_cons (pg_name (i := 3) sc_Plan_row_of.nd rfl (Or.inl rfl)) (pgs_cons (pg_name (i := 4) sc_Plan_row_of.nd rfl (Or.inl rfl)) pgs_nil)) (K := K))) (fun _ _ _ _ _ => pts_nil) (fun _ _ _ _ _ => (pe_tup (pa_cons (pe_ix (k_ix (K := K)) (pe_ix (k_ix (K := K)) (k_fld (pv 0) (K := K)) (pv 3) (fun _ _ => rfl)) pe_int (fun _ _ => rfl)) (pa_cons (pv 4) pa_nil))))) pa_nil)) passL))))), ?_⟩
    refine ⟨_, rfl, a, dx, _, hp.ev, sF _ _ hp.ob, rfl, _, rfl, F, v, ra, xs, d, ps, rfl, sF, rp, hra.mono sF, pd_mono (fun _ _ => PairV.mono sF) pd, hlen, fun H1 s1 => ?_⟩
    have sF1 := sF.trans s1
    rcases h with ⟨k, hf, rz⟩ | ⟨hf, k⟩
    · rw [hf]
      refine ⟨_, rfl, rfl, _, rfl, ?_⟩
      exact iteT ⟨_, rfl, _, rfl, fun dd hd => rz F _ dd ⟨s1.trans (Same.new hd), Grow.tmp sF (s1.trans (Same.new hd))⟩ upd_same⟩
    · rw [hf]
      refine ⟨_, rfl, rfl, _, rfl, ?_⟩
      refine iteF ?_
      refine ⟨_, rfl, a, CP, dx, _, _, hp.ev, sF1 _ _ hp.ob, PL.cl, PL.no _ (by decide), rfl, ?_⟩
      refine seqU (hra.mono sF1) (fun Q q => ⟨_, rfl, q⟩) fun J Gd wk hG D hD => ?_
      have all := fault_all hf
      refine go_lc (F1 := F) wk RStep (fun i => (ps.map (stepOf d.ds)).take i) (by omega) sF1 hD (by simp) (fun F5 H5 pu => hG _ pu.same) (fun i y F5 H5 l H' N hi pu fD hl1 hy kt kf => ?_) (fun F5 H5 ys pu fD hl1 pd1 => ?_)
      · obtain ⟨e1, hy⟩ := hy
        subst e1
        obtain ⟨p, hpi, hpv⟩ := pd_get pd hy
        obtain ⟨j, n, x, rfl, hx⟩ := all p (List.mem_of_getElem? hpi)
        obtain ⟨hj0, hjx⟩ := arrAt_int hx
        obtain ⟨y2, hy2, b2, nv, ha⟩ := pd_get' pda hjx
        cases hpv with
        | ok hb =>
          have sF5 := pu.ff.trans pu.sub
          refine gseq (hb.mono sF5) rfl ⟨_, _, rfl, _, _, rfl, rfl, rfl, ?_⟩
          refine ⟨_, rfl, a, CP, dx, _, _, hp.ev, sF5 _ _ hp.ob, PL.cl, PL.no _ (by decide), rfl, _, rfl, .inr (.inl ⟨ta, as, j, y2, rfl, rfl, SqT.of (sF5 _ _ hta), atI_int hj0 hy2, ?_⟩)⟩
          refine .inr (.inl ⟨b2, _, 1, _, ha.ev, rfl, SqT.of (sF5 _ _ ha.ob), atI_nat rfl, ?_⟩)
          refine ⟨_, rfl, sz (n := 2) (by decide), fun q hq => ?_⟩
          refine kt (.ref q) _ (upd F5 q (.tup [.str x.name, .int n])) (x.name, n) ((Pu.refl pu.sub).add hq) ⟨q, _, _, rfl, upd_same, rfl, rfl⟩ (take_snoc ?_)
          rw [List.getElem?_map, hpi]
          show some (((arrAt d.ds j).map (·.name)).getD ("" : Str), n) = _
          rw [hx]
          rfl
      · rw [hxl, show ps.length = (ps.map (stepOf d.ds)).length by simp, take_all] at pd1
        have w0 : Own F H F H1 [] := (Own.nil (Pu.refl sF)).tmp s1
        have w1 := w0.lc hD pu fD hl1
        have w2 := w1.fix 0
        refine fun x dx2 hx hdx ne => ⟨_, _, x, dx2, tv, .ref D, d.ks, ps.map (stepOf d.ds), rfl, ⟨w2.sub, hx, hdx, ne, rfl⟩, (RTurns CT).mono w2.ff hp.tu, ⟨D, ys, rfl, upd_same, pd_mono (fun _ _ => RStep.mono (w1.ext 0)) pd1⟩, fun s hs => ?_, by simp; omega, fun F' H' pu' rr => ⟨rfl, k _ _ _ (w2.pu.trans pu') rr⟩⟩
        obtain ⟨p, hpm, rfl⟩ := List.mem_map.mp hs
        obtain ⟨j, n, x, rfl, hx⟩ := all p hpm
        obtain ⟨hj0, hjx⟩ := arrAt_int hx
        have := (hp.gd x (List.mem_of_getElem? hjx)).2.1
        show ∃ p, d.ks.lookup (((arrAt d.ds j).map (·.name)).getD ("" : Str)) = some p
        rw [hx]
        exact Option.isSome_iff_exists.mp this
end
end TR

/-! part B4 -/
namespace TR
open PySem PySem.Spec PyProof.Rows L2 G
structure LArr where
  one : Str
  name : Str
  parts : Classes
  other : Str
def RLArr : Rp LArr := ⟨fun d v F => ∃ a pv, v = .ref a ∧ F a = some (.tup [.str d.one, .str d.name, pv, .str d.other]) ∧ RCls.rel d.parts pv F ∧ (∀ c ∈ d.parts, 0 ≤ c.2) ∧ d.parts.length ≤ 10,
  fun s ⟨a, pv, e, h, p, q⟩ => ⟨a, pv, e, s _ _ h, RCls.mono s p, q⟩⟩
structure Match (a : LArr) (d : ArrD) : Prop where
  one : a.one = d.one
  name : a.name = d.name
  other : a.other = d.other
  mem : ∀ n, memD n d.num = memP n a.parts
theorem eqv_ints (l : List Int) : PyData.eqv (.list (l.map PyData.int)) (.list []) = l.isEmpty := by
  cases l <;> simp only [List.map_nil, List.map_cons, PyData.eqv, PyData.eqvAll] <;> rfl
theorem ints_shaped (l : List Int) : SeqAt.shaped (.list (l.map PyData.int)) = true :=
  shaped_of (lay_all fun d hd => rfl) (by
    show PyData.depthAll (l.map PyData.int) + 1 ≤ 64
    have := dep_all (f := PyData.int) (n := 0) (ds := l) fun d _ => Nat.le_refl 0
    omega)
theorem dp_ints {K : PySem.W.Frag} {H : Hp} : ∀ l : List Int, DpAll K H (l.map V.int) (l.map PyData.int)
  | [] => .nil
  | a :: r => .cons (.int a) (dp_ints r)
section
variable {P : Program} {w : World} {K : PySem.W.Frag} {mg : Str → Option Value} {base : Heap} {CT CN CP EN ET EA ES CR : Addr}
abbrev s_w_members : Stmt := top 51
abbrev N_w_members : List Str := ["_law_parts", "_law_found", "_law_r", "_law_m"]
abbrev P_w_members : List Str := ["_law_parts"]
theorem sc_w_members : FnScope N_w_members P_w_members (defScope s_w_members) := ⟨rfl, rfl, rfl, by decide +kernel, rfl, by decide +kernel, by decide +kernel⟩
theorem bn_w_members : BindsNo "_law_members" "_law_members" s_w_members P_w_members := fun _ _ _ _ _ _ us hl => match us, hl with | [_], _ => rfl
def sp_members : Sp := fun vs H Q _ => ∃ (F : Hp) (v : V) (ps : Classes), vs = [v] ∧ Same F H ∧ RCls.rel ps v F ∧ ps.length ≤ 10 ∧
  ∀ (D : Addr) (F' H' : Hp) (ns : List Int), Pu F H F' H' → F' D = some (.lst (ns.map V.int)) → ps.length ≤ ns.length → ns.length ≤ 40 → Q (.ref D) H'
theorem ok_members (B : Bt mg) (F : FnF K mg "_law_members" s_w_members []) : Cal P w K mg base 1 "_law_members" sp_members := by
  refine F.cal sc_w_members bn_w_members (fun vs H Q E h => ?_) (fun f cdv A outer s H vs Q E hr h => ?_)
  · obtain ⟨_, _, _, rfl, _⟩ := h
    rfl
  · obtain ⟨F, v, cs, rfl, sF, ⟨a, ps, rfl, ha, pd⟩, hlen, k⟩ := h
    have hl : ps.length = cs.length := pd_len pd
    refine ⟨_, (pss_cons (ps_set (i := 1) sc_w_members.nd rfl (Or.inl rfl) (pe_lst pa_nil))
    (pss_cons (ps_for (passes_of rfl) rfl (k_il (pv 0) (K := K)) (k_tup (n := 2) rfl (pgs_cons (pg_name (i := 2) sc_w_members.nd rfl (Or.inl rfl)) (pgs_cons (pg_name (i := 3) sc_w_members.nd rfl (Or.inl rfl)) pgs_nil)) (K := K))
    (pss_one (ps_set (i := 1) sc_w_members.nd rfl (Or.inl rfl) (pe_op op_addU (pv 1) (pe_ifExp (pt_cmpR (op_eqU hr (K := K)) (pv 3) pe_int (nomark _)) (pe_lst (pa_cons (pv 2) pa_nil)) (pe_lst (pa_cons (pv 2) (pa_cons (pe_op op_addU (pv 2) (pv 3)) (pa_cons (pe_op op_sub (pv 2) (pe_op op_mulU pe_int (pv 3))) (pa_cons (pe_op op_addU (pv 2) (pe_op op_mulU pe_int (pv 3))) pa_nil))))))))))
    (pss_one (ps_ret (pv 1))))), ?_⟩
    refine ⟨sz (n := 0) (by decide), fun D hD => ?_⟩
    have w0 : Own F H F (upd H D (.lst [])) [(D, .lst [])] := (Own.nil (Pu.refl sF)).new hD
    refine ⟨_, rfl, a, rfl, ⟨_, SqL.of (w0.sub _ _ ha)⟩, ?_⟩
    refine for_it (walk_list (xs := ps)) (fun i σ H' => ∃ (D : Addr) (n p : Option V) (ns : List Int), Own F H F H' [(D, .lst (ns.map V.int))] ∧ i ≤ ns.length ∧ ns.length ≤ 4 * i ∧ σ = [some (.ref a), some (.ref D), n, p]) ⟨D, none, none, [], w0, Nat.le_refl _, Nat.le_refl _, rfl⟩ (fun i σ H' _ ⟨D, n, p, ns, w1, _⟩ => SqL.of (w1.sub _ _ ha)) ?_ ?_
    · rintro i y σ H' H'' hi ⟨D, n0, p0, ns, w1, l1, l2, rfl⟩ ⟨e1, hy⟩
      subst e1
      obtain ⟨d, t, z, u, hd, rfl, ht, rfl, rfl⟩ := pair_at pd hy
      refine ⟨t, _, rfl, SqT.of (w1.sub _ _ ht), rfl, _, _, rfl, _, _, rfl, rfl, ?_⟩
      refine ⟨_, rfl, _, rfl, .inl ⟨rfl, _, rfl, ?_⟩⟩
      by_cases h0 : d.2 = 0
      · rw [decide_eq_true (congrArg V.int h0)]
        refine ⟨_, rfl, sz (n := 1) (by decide), fun c hc => .inr (.inr ⟨D, c, ns.map V.int, [.int d.1], rfl, rfl, ?_, upd_same, ?_, fun q hq => ?_⟩)⟩
        · exact (w1.tmp (Same.new (o := .lst [.int d.1]) hc)).at 0
        · rw [List.length_map]; exact sz (by show ns.length + 1 ≤ 100000; omega)
        · have w2 := (w1.drop.tmp (Same.new (o := .lst [.int d.1]) hc)).new (o := .lst (ns.map V.int ++ [.int d.1])) hq
          exact ⟨q, _, _, ns ++ [d.1], by rw [List.map_append]; exact w2, by simp; omega, by simp; omega, rfl⟩
      · rw [decide_eq_false (fun q => h0 (V.int.inj q))]
        refine ⟨_, rfl, _, rfl, _, rfl, .inl ⟨_, _, rfl, rfl, ?_⟩⟩
        refine ⟨_, rfl, _, rfl, .inl ⟨_, _, rfl, rfl, .inl ⟨by decide, by decide⟩, _, _, rfl, rfl, ?_⟩⟩
        refine ⟨_, rfl, _, rfl, .inl ⟨_, _, rfl, rfl, .inl ⟨by decide, by decide⟩, .inl ⟨_, _, rfl, rfl, ?_⟩⟩⟩
        refine ⟨sz (n := 4) (by decide), fun c hc => .inr (.inr ⟨D, c, ns.map V.int, _, rfl, rfl, ?_, upd_same, ?_, fun q hq => ?_⟩)⟩
        · exact (w1.tmp (Same.new (o := .lst _) hc)).at 0
        · rw [List.length_map]; exact sz (by show ns.length + 4 ≤ 100000; omega)
        · have w2 := (w1.drop.tmp (Same.new (o := .lst [.int d.1, .int (d.1 + d.2), .int (d.1 - 3 * d.2), .int (d.1 + 5 * d.2)]) hc)).new (o := .lst (ns.map V.int ++ [.int d.1, .int (d.1 + d.2), .int (d.1 - 3 * d.2), .int (d.1 + 5 * d.2)])) hq
          exact ⟨q, _, _, ns ++ [d.1, d.1 + d.2, d.1 - 3 * d.2, d.1 + 5 * d.2], by rw [List.map_append]; exact w2, by simp; omega, by simp; omega, rfl⟩
    · rintro σ H' ⟨D, n0, p0, ns, w1, l1, l2, rfl⟩
      exact ⟨_, rfl, k D _ _ ns (w1.fix 0).pu upd_same (by omega) (by omega)⟩
abbrev s_w_is_member : Stmt := top 52
abbrev N_w_is_member : List Str := ["_law_parts", "_law_n", "_law_r", "_law_m"]
abbrev P_w_is_member : List Str := ["_law_parts", "_law_n"]
theorem sc_w_is_member : FnScope N_w_is_member P_w_is_member (defScope s_w_is_member) := ⟨rfl, rfl, rfl, by decide +kernel, rfl, by decide +kernel, by decide +kernel⟩
theorem bn_w_is_member : BindsNo "_law_is_member" "_law_is_member" s_w_is_member P_w_is_member := fun _ _ _ _ _ _ us hl => match us, hl with | [_, _], _ => rfl
def sp_is_member : Sp := fun vs H Q _ => ∃ (F : Hp) (v : V) (n : Int) (ps : Classes), vs = [v, .int n] ∧ Same F H ∧ RCls.rel ps v F ∧ (∀ c ∈ ps, 0 ≤ c.2) ∧ ps.length ≤ 10 ∧ ∀ H', Same H H' → Q (.bl (memP n ps)) H'
theorem ok_is_member (B : Bt mg) (F : FnF K mg "_law_is_member" s_w_is_member []) : Cal P w K mg base 1 "_law_is_member" sp_is_member := by
  refine F.cal sc_w_is_member bn_w_is_member (fun vs H Q E h => ?_) (fun f cdv A outer s H vs Q E hr h => ?_)
  · obtain ⟨_, _, _, _, rfl, _⟩ := h
    rfl
  · obtain ⟨F, v, n, cs, rfl, sF, ⟨a, ps, rfl, ha, pd⟩, pos, hlen, k⟩ := h
    have hl : ps.length = cs.length := pd_len pd
    refine ⟨_, (pss_one (ps_ret (pe_cmpR (op_neU hr (K := K)) (pe_lc (own := [("_law_r", 2), ("_law_m", 3)]) rfl sc_w_is_member.nd (k_il (pv 0) (K := K)) (blkOk_by (N := N_w_is_member) (sc := defScope s_w_is_member) (by decide +kernel)) (fun _ _ _ _ _ => (k_tup (n := 2) rfl (pgs_cons (pg_name (i := 2) sc_w_is_member.nd rfl (Or.inl rfl)) (pgs_cons (pg_name (i := 3) sc_w_is_member.nd rfl (Or.inl rfl)) pgs_nil)) (K := K))) (fun _ _ _ _ _ => (pts_one (PW.pt (pw_or (pt_cmpR (op_eqU hr (K := K)) (pv 1) (pv 2) (nomark _)) (pw_or1 (PW.pt (pw_and (pt_cmpR op_gt (pv 3) pe_int (nomark _)) (pw_and1 (pt_cmpR (op_eqU hr (K := K)) (pe_op op_mod (pe_callTy call_int1 (by rfl) B.int (by decide +kernel) (pa_cons (pe_op op_sub (pv 1) (pv 2)) pa_nil)) (pe_callB (call_max2 rfl) (by rfl) B.max (by decide +kernel) (pa_cons pe_int (pa_cons (pv 3) pa_nil)))) pe_int (nomark _)))))))))) (fun _ _ _ _ _ => pe_int)) (pe_lst pa_nil) (nomark _)))), ?_⟩
    let tst : Int × Int → Bool := fun c => if c.2 = 0 then decide (n = c.1) else inCl n c
    refine ⟨_, rfl, a, rfl, ⟨_, SqL.of (sF _ _ ha)⟩, fun D hD => ?_⟩
    refine go_lc (F1 := F) (walk_list (xs := ps)) Rp.int (fun i => ((cs.take i).filter tst).map fun _ => (1 : Int)) (by omega) sF hD (by simp) (fun F1 H1 pu => SqL.of (pu.sub _ _ (pu.ff _ _ ha))) (fun i y F1 H1 l H' N hi pu fD hl1 hy kt kf => ?_) (fun F1 H1 ys pu fD hl1 pd1 => ?_)
    · obtain ⟨e1, hy⟩ := hy
      subst e1
      obtain ⟨d, t, z, u, hd, rfl, ht, rfl, rfl⟩ := pair_at pd hy
      have hd0 := pos d (List.mem_of_getElem? hd)
      refine ⟨t, _, rfl, SqT.of (pu.sub _ _ (pu.ff _ _ ht)), rfl, _, _, rfl, _, _, rfl, rfl, rfl, ?_⟩
      have yes : tst d = true → ∃ acc, H' D = some (.lst acc) ∧ acc.length < sizeLine ∧ N (upd H' D (.lst (acc ++ [.int 1]))) := fun h =>
        kt (.int 1) H' F1 1 (Pu.refl pu.sub) rfl (by rw [filter_snoc hd h, List.map_append]; rfl)
      have no : tst d = false → N H' := fun h => kf _ _ (Pu.refl pu.sub) (by rw [filter_skip hd h])
      refine ⟨_, rfl, _, rfl, .inl ⟨rfl, _, rfl, ?_⟩⟩
      by_cases h1 : n = d.1
      · rw [decide_eq_true (congrArg V.int h1)]
        refine iteT (yes ?_)
        show (if d.2 = 0 then decide (n = d.1) else inCl n d) = true
        split
        · exact decide_eq_true h1
        · unfold inCl
          rw [h1, Int.sub_self]
          exact decide_eq_true (Int.zero_emod _)
      · rw [decide_eq_false (fun q => h1 (V.int.inj q))]
        refine iteF ⟨_, rfl, _, _, rfl, rfl, _, rfl, ?_⟩
        by_cases h2 : d.2 > 0
        · rw [decide_eq_true h2]
          have em : (if (1 : Int) < d.2 then d.2 else 1) = d.2 := by split <;> omega
          refine iteT ⟨_, rfl, _, rfl, _, _, rfl, rfl, .inl ⟨_, rfl, ?_⟩⟩
          refine ⟨_, rfl, _, _, rfl, ?_⟩
          rw [em]
          refine ⟨_, _, rfl, rfl, h2, .inl ⟨rfl, _, rfl, ?_⟩⟩
          have et : tst d = inCl n d := if_neg (by omega)
          by_cases h3 : (n - d.1) % d.2 = 0
          · rw [decide_eq_true (congrArg V.int h3)]
            exact iteT (yes (by rw [et]; exact decide_eq_true h3))
          · rw [decide_eq_false (fun q => h3 (V.int.inj q))]
            exact iteF (no (by rw [et]; exact decide_eq_false h3))
        · rw [decide_eq_false h2]
          refine iteF (no ?_)
          show (if d.2 = 0 then decide (n = d.1) else inCl n d) = false
          rw [if_pos (by omega)]
          exact decide_eq_false h1
    · rw [hl, take_all] at pd1
      have e := pd_eq (f := V.int) (by exact pd1)
      refine ⟨sz (n := 0) (by decide), fun c hc => ?_⟩
      have s1 := Same.new (o := .lst []) hc
      have em : ((cs.filter tst).map fun _ => (1 : Int)).isEmpty = !memP n cs := by
        unfold memP
        show _ = !cs.any tst
        cases hf : cs.filter tst with
        | nil =>
          have : cs.any tst = false := by
            rw [List.any_eq_false]
            intro x hx q
            have : x ∈ cs.filter tst := List.mem_filter.mpr ⟨hx, q⟩
            rw [hf] at this; cases this
          rw [this]; rfl
        | cons x r =>
          have hx : x ∈ cs.filter tst := by rw [hf]; simp
          have : cs.any tst = true := List.any_eq_true.mpr ⟨x, (List.mem_filter.mp hx).1, (List.mem_filter.mp hx).2⟩
          rw [this]; rfl
      refine .inr ⟨.list (((cs.filter tst).map fun _ => (1 : Int)).map PyData.int), .list [], .lst (SqL.of (s1 _ _ hl1)) (by rw [e]; exact dp_ints _), .lst (SqL.of upd_same) .nil, ints_shaped _, rfl, ?_⟩
      rw [eqv_ints, em, Bool.not_not]
      exact k _ (pu.same.trans s1)
def faultI : Option Nat → Int
  | none => -1
  | some k => (k : Nat)
abbrev s_w_fault : Stmt := top 54
abbrev N_w_fault : List Str := ["_law_arrows", "_law_begin", "_law_end", "_law_run_here", "_law_here", "_law_k", "_law_at", "_law_n"]
abbrev P_w_fault : List Str := ["_law_arrows", "_law_begin", "_law_end", "_law_run_here"]
theorem sc_w_fault : FnScope N_w_fault P_w_fault (defScope s_w_fault) := ⟨rfl, rfl, rfl, by decide +kernel, rfl, by decide +kernel, by decide +kernel⟩
theorem bn_w_fault : BindsNo "_law_fault" "_law_fault" s_w_fault P_w_fault := fun _ _ _ _ _ _ us hl => match us, hl with | [_, _, _, _], _ => rfl
def sp_wfault : Sp := fun vs H Q _ => ∃ (F : Hp) (aa ra : Addr) (as xs : List V) (b e : Str) (la : List LArr) (ds : List ArrD) (rs : List (Int × Int)), vs = [.ref aa, .str b, .str e, .ref ra] ∧ Same F H ∧ F aa = some (.lst as) ∧ Paired (fun d x => RLArr.rel d x F) la as ∧ Paired Match la ds ∧
  F ra = some (.lst xs) ∧ Paired (fun d x => RCl.rel d x F) rs xs ∧ xs.length ≤ 1000 ∧ ∀ H', Same H H' → Q (.int (faultI (faultD ds e b 0 (rs.map some)))) H'
theorem ok_wfault (B : Bt mg) (c_w_is_member : Cal P w K mg base 1 "_law_is_member" sp_is_member) (F : FnF K mg "_law_fault" s_w_fault []) : Cal P w K mg base 2 "_law_fault" sp_wfault := by
  refine F.cal sc_w_fault bn_w_fault (fun vs H Q E h => ?_) (fun f cdv A outer s H vs Q E hr h => ?_)
  · obtain ⟨_, _, _, _, _, _, _, _, _, _, rfl, _⟩ := h
    rfl
  · obtain ⟨F, aa, ra, as, xs, b, e, la, ds, rs, rfl, sF, haa, pda, pdm, hra, pdr, hlen, k⟩ := h
    have hxl : xs.length = rs.length := pd_len pdr
    have hal : as.length = la.length := pd_len pda
    have hdl : ds.length = la.length := pd_len pdm
    refine ⟨_, (pss_cons (ps_set (i := 4) sc_w_fault.nd rfl (Or.inl rfl) (pv 1))
    (pss_cons (ps_for (passes_of rfl) rfl (pi_range1 (by rfl) B.range (pa_cons (pe_callB (call_lenU (K := K)) (by rfl) B.len (by decide +kernel) (pa_cons (pv 3) pa_nil)) pa_nil)) (pg_name (i := 5) sc_w_fault.nd rfl (Or.inl rfl))
    (pss_cons (ps_asg (pe_ix (k_ix (K := K)) (pv 3) (pv 5) (fun _ _ => rfl)) (k_tup (n := 2) rfl (pgs_cons (pg_name (i := 6) sc_w_fault.nd rfl (Or.inl rfl)) (pgs_cons (pg_name (i := 7) sc_w_fault.nd rfl (Or.inl rfl)) pgs_nil)) (K := K)))
    (pss_cons (ps_if (PW.pt (pw_or (pt_not (pt_chain op_le op_lt pe_int (pv 6) (pe_callB (call_lenU (K := K)) (by rfl) B.len (by decide +kernel) (pa_cons (pv 0) pa_nil)))) (pw_or (pt_cmpR (op_neU hr (K := K)) (pe_ix (k_ix (K := K)) (pe_ix (k_ix (K := K)) (pv 0) (pv 6) (fun _ _ => rfl)) pe_int (fun _ _ => rfl)) (pv 4) (nomark _)) (pw_or1 (pt_not (pt_val (pe_c c_w_is_member hr (by decide) (pa_cons (pe_ix (k_ix (K := K)) (pe_ix (k_ix (K := K)) (pv 0) (pv 6) (fun _ _ => rfl)) pe_int (fun _ _ => rfl)) (pa_cons (pv 7) pa_nil)) passL))))))) (pss_one (ps_ret (pv 5))) pss_nil)
    (pss_one (ps_set (i := 4) sc_w_fault.nd rfl (Or.inl rfl) (pe_ix (k_ix (K := K)) (pe_ix (k_ix (K := K)) (pv 0) (pv 6) (fun _ _ => rfl)) pe_int (fun _ _ => rfl)))))))
    (pss_one (ps_ret (pe_ifExp (pt_cmpR (op_eqU hr (K := K)) (pv 4) (pv 2) (nomark _)) (pe_un un_neg pe_int) (pe_callB (call_lenU (K := K)) (by rfl) B.len (by decide +kernel) (pa_cons (pv 3) pa_nil))))))), ?_⟩
    refine ⟨_, rfl, _, rfl, .inl ⟨ra, xs, rfl, .inl (SqL.of (sF _ _ hra)), xs.length, rfl, by omega, by omega, ?_⟩⟩
    refine for_it (walk_range (lo := 0) (n := ((xs.length : Nat) : Int).toNat)) (fun i σ H' => ∃ (x y z : Option V) (here : Str), Same H H' ∧ faultD ds e b 0 (rs.map some) = faultD ds e here i ((rs.map some).drop i) ∧ σ = [some (.ref aa), some (.str b), some (.str e), some (.ref ra), some (.str here), x, y, z]) ⟨none, none, none, b, Same.refl _, rfl, rfl⟩ (fun i σ H' _ _ => trivial) ?_ ?_
    · rintro i y σ H' H'' hi ⟨x0, y0, z0, here, s1, hf, rfl⟩ ⟨e1, hx⟩
      subst e1
      replace hx : y = .int (i : Nat) := by
        rw [hx]
        show V.int (0 + (i : Int)) = _
        rw [Int.zero_add]
      subst hx
      have hi2 : i < rs.length := by omega
      obtain ⟨p, hpi⟩ : ∃ p, rs[i]? = some p := ⟨_, List.getElem?_eq_getElem hi2⟩
      obtain ⟨yv, hyv, t0, y1, y2, rfl, ht, rfl, rfl⟩ := pd_get' pdr hpi
      have sF1 := sF.trans s1
      have hdrop : (rs.map some).drop i = some p :: (rs.map some).drop (i + 1) := by
        have hlt : i < (rs.map some).length := by simpa using hi2
        rw [List.drop_eq_getElem_cons hlt]
        congr 1
        have := (List.getElem?_eq_some_iff.mp hpi).2
        simp [this]
      rw [hdrop, faultD_cons] at hf
      refine ⟨_, rfl, _, rfl, .inl ⟨ra, xs, _, _, rfl, rfl, SqL.of (sF1 _ _ hra), atI_nat hyv, ?_⟩⟩
      refine ⟨t0, _, rfl, SqT.of (sF1 _ _ ht), rfl, _, _, rfl, _, _, rfl, rfl, ?_⟩
      have fault : takesB ds here (some p) = false → Q (.int (i : Nat)) H'' := fun h => by
        rw [h, if_neg Bool.false_ne_true] at hf
        have q := k H'' s1
        rw [hf] at q
        exact q
      by_cases h0 : (0 : Int) ≤ p.1
      · refine ⟨_, rfl, _, _, rfl, rfl, _, rfl, ?_⟩
        rw [decide_eq_true h0]
        refine iteT ⟨_, rfl, .inl ⟨aa, as, rfl, .inl (SqL.of (sF1 _ _ haa)), _, _, rfl, rfl, _, rfl, ?_⟩⟩
        by_cases h1 : p.1 < (as.length : Int)
        · rw [decide_eq_true h1]
          obtain ⟨x, e1, e2⟩ := arrAt_lt (ds := ds) ⟨h0, by omega⟩
          obtain ⟨l, hl1, hm⟩ := pd_get pdm e2
          obtain ⟨av, hav, b2, pv, rfl, hb2, hpv, hpos, hpl⟩ := pd_get' pda hl1
          have ix : ∀ (Q : VK) (H3 : Hp), Same F H3 → Q (.ref b2) H3 → rIx K (.ref aa) (.int p.1) H3 Q := fun Q H3 s q => .inl ⟨aa, as, p.1, _, rfl, rfl, SqL.of (s _ _ haa), atI_int h0 hav, q⟩
          have ek : takesB ds here (some p) = (decide (x.one = here) && memD p.2 x.num) := takesB_some (i := p.1) (n := p.2) e1
          refine iteF ⟨_, rfl, _, rfl, ix _ _ sF1 (.inr (.inl ⟨b2, _, 0, _, rfl, rfl, SqT.of (sF1 _ _ hb2), atI_nat rfl, ?_⟩))⟩
          refine ⟨_, rfl, .inl ⟨rfl, _, rfl, ?_⟩⟩
          by_cases h2 : l.one = here
          · rw [decide_eq_true (congrArg V.str h2)]
            refine iteF ⟨_, rfl, _, rfl, ix _ _ sF1 (.inr (.inl ⟨b2, _, 2, _, rfl, rfl, SqT.of (sF1 _ _ hb2), atI_nat rfl, ?_⟩))⟩
            refine ⟨_, rfl, F, pv, p.2, l.parts, rfl, sF1, hpv, hpos, hpl, fun H4 s4 => ⟨_, rfl, ?_⟩⟩
            have s5 := s1.trans s4
            have sF5 := sF.trans s5
            rw [show decide (x.one = here) = true from decide_eq_true (by rw [← hm.one]; exact h2), Bool.true_and, hm.mem] at ek
            cases hmm : memP p.2 l.parts with
            | false =>
              rw [hmm] at ek
              rw [ek, if_neg Bool.false_ne_true] at hf
              have q := k H4 s5
              rw [hf] at q
              exact ⟨_, rfl, q⟩
            | true =>
              rw [hmm] at ek
              rw [ek, if_pos rfl] at hf
              refine ⟨_, rfl, _, rfl, ix _ _ sF5 (.inr (.inl ⟨b2, _, 3, _, rfl, rfl, SqT.of (sF5 _ _ hb2), atI_nat rfl, ?_⟩))⟩
              refine ⟨_, _, _, l.other, s5, ?_, rfl⟩
              rw [hf]
              show faultD ds e (((arrAt ds p.1).map (·.other)).getD ("" : Str)) (i + 1) _ = _
              rw [e1, hm.other]
              rfl
          · rw [decide_eq_false (fun q => h2 (V.str.inj q))]
            refine iteT ⟨_, rfl, fault ?_⟩
            rw [ek, decide_eq_false (fun q => h2 (hm.one.trans q))]
            rfl
        · rw [decide_eq_false h1]
          exact iteT ⟨_, rfl, fault (takesB_none (i := p.1) (n := p.2) (arrAt_ge (fun q => h1 (by omega))))⟩
      · refine ⟨_, rfl, _, _, rfl, rfl, _, rfl, ?_⟩
        rw [decide_eq_false h0]
        exact iteF ⟨_, rfl, iteT ⟨_, rfl, fault (takesB_none (i := p.1) (n := p.2) (arrAt_ge (fun q => h0 q.1)))⟩⟩
    · rintro σ H' ⟨x0, y0, z0, here, s1, hf, rfl⟩
      rw [show ((xs.length : Nat) : Int).toNat = (rs.map some).length by simp [hxl], List.drop_length, faultD_nil] at hf
      have q := k H' s1
      rw [hf] at q
      refine ⟨_, rfl, _, rfl, .inl ⟨rfl, _, rfl, ?_⟩⟩
      by_cases he : here = e
      · rw [decide_eq_true (congrArg V.str he)]
        rw [if_pos he] at q
        exact ⟨_, rfl, q⟩
      · rw [decide_eq_false (fun z => he (V.str.inj z))]
        rw [if_neg he] at q
        refine ⟨_, rfl, .inl ⟨ra, xs, rfl, .inl (SqL.of ((sF.trans s1) _ _ hra)), ?_⟩⟩
        rw [show (xs.length : Nat) = (rs.map some).length by simp [hxl]]
        simp at q ⊢
        exact q
end
end TR

/-! part Try2 -/
/-! Several clauses «except x as n», n the same name in all of them; isinstance of the caught one. -/
namespace G
open PySem PySem.Spec PyProof.Rows L2
/-- what the clauses wish of an exception that leaves the body, clause by clause -/
def wManyA (K : PySem.W.Frag) (i : Nat) (Wout : WX) (D : Ends) : List (Value × (Addr → Value → Option Addr → TS)) → WX
  | [] => Wout
  | p :: more => fun cls d σ H => ∃ y, PySem.W.exmOne K cls p.1 = some y ∧ (y = false → wManyA K i Wout D more cls d σ H) ∧
      (y = true → ∀ a, H a = none → p.2 a cls d { rt := D.rt, nx := fun σ' => D.nx (σ'.set i none), bk := fun σ' => D.bk (σ'.set i none), ct := fun σ' => D.ct (σ'.set i none) } (σ.set i (some (.ref a))) H)
inductive HdA (X : Cx) (n : Str) : List ExceptHandler → List (Value × (Addr → Value → Option Addr → TS)) → Prop
  | nil : HdA X n [] []
  | cons {x : Str} {c : Value} {ts : Addr → Value → Option Addr → TS} {b1 : Stmt} {bs : List Stmt} {pa pb : Pos} {hs : List ExceptHandler} {l : List (Value × (Addr → Value → Option Addr → TS))} (nm : Names X x c)
      (su : ∀ (a : Addr) (oe : Obj) (cls : Value) (d : Option Addr) (pn : List (Addr × Obj)), Zc cls d oe → (∃ vs, oe.data = .fields vs) → PSs (X.suite a ((a, oe) :: pn)) (b1 :: bs) (ts a cls d)) (more : HdA X n hs l) :
      HdA X n (.ExceptHandler (some (.Name x pa)) (some n) (b1 :: bs) pb :: hs) ((c, ts) :: l)
theorem ps_try_asMany {X : Cx} {body : List Stmt} {h1 : ExceptHandler} {hs : List ExceptHandler} {l : List (Value × (Addr → Value → Option Addr → TS))} {pos : Pos} {tb : WX → TS} {Wout : WX} {n : Str} {i : Nat}
    (st : X.stack = X.env :: X.outer) (fr : X.env.frame = some X.env.locals) (nd : X.N.Nodup) (at_ : X.N[i]? = some n) (lo : X.env.kindOf n = some .local) (tk : Takes X Wout)
    (bd : ∀ (W : WX) (pn : List (Addr × Obj)) (xe : Value → Shared → Prop), Takes (X.tr pn xe) W → PassesOwn (model X.prog X.w) X.A X.env xe → PSs (X.tr pn xe) body (tb W))
    (hd : HdA X n (h1 :: hs) l) : PS X (.Try body (h1 :: hs) [] [] pos) (fun D σ H => tb (wManyA X.K i Wout D l) D σ H) := by
  refine ⟨fun pins s σ H D I h => ?_⟩
  have ok := I.ok
  have fA : X.A.frames = some (X.env :: X.outer) := ok.frames.trans (by rw [st])
  refine wpAny_Try_except (wpAny_mono ((bd (wManyA X.K i Wout D l) (X.pn ++ pins) (fun e s1 => wpAny (model X.prog X.w) X.A (noteFrame e X.env) (fun _ s2 => wpAny (model X.prog X.w) X.A (setFlight e none) (fun _ s3 => wpAny (model X.prog X.w) X.A (handleBy e X.env (h1 :: hs)) (SP X pins D) X.xe s3) X.xe s2) X.xe s1) (fun u s' xx => ?_) PassesOwn.looking).run [] s σ H D (I.toTry _) h) (fun f s1 q => ?_) (fun e s1 he => he))
  · obtain ⟨a, B, sI, pins1, σ1, H1, cls, d, rfl, J0, nb, up, sky, na, os, ag, w⟩ := xx
    have J := J0.ofTry ok
    have sky1 : Sky B (X.env :: X.outer) a (Zc cls d) X.env.locals s'.heap := by rw [← st]; exact sky
    show wpAny (model X.prog X.w) X.A (noteFrame (.ref a) X.env) _ _ _
    refine Sky.land Zc.steady fA fr sky1 fun hA flA upA => ?_
    have JA : Inv X pins σ1 H1 { s' with heap := hA } := J.landed nb flA.1 (up.trans upA) os ag
    obtain ⟨oA, vA, eA, zA, dA⟩ := flA.there
    have out : a ∉ frs (X.env :: X.outer) := fun hm => by
      obtain ⟨_, o2, e2, no⟩ := flA.2.2.1.mem hm
      rw [eA] at e2; cases e2
      exact no _ dA
    have nL : a ≠ X.env.locals := fun z => out (List.mem_filterMap.mpr ⟨X.env, .head _, by rw [fr, z]⟩)
    have nF : a ∉ X.fs := fun hm => by
      obtain ⟨e, he, q⟩ := List.mem_filterMap.mp hm
      exact out (List.mem_filterMap.mpr ⟨e, .tail _ he, q⟩)
    have SA := JA.suite eA dA na nL nF
    have go : ∀ {hs2 : List ExceptHandler} {l2 : List (Value × (Addr → Value → Option Addr → TS))}, HdA X n hs2 l2 → wManyA X.K i Wout D l2 cls d σ1 H1 → wpAny (model X.prog X.w) X.A (handleBy (.ref a) X.env hs2) (SP X pins D) X.xe { s' with heap := hA } := by
      intro hs2 l2 hk
      induction hk with
      | nil =>
        refine fun w => wpAny_handleBy_nil ?_
        obtain ⟨k1, k2, k3, oe, vs, T, oT, t2, he, hz, hd, hT, hr⟩ := id flA
        unfold PySem.passOn; refine wpAny_bind (wpAny_field he hd hT ?_); rw [if_neg (show ¬ ((Value.ref T == Value.none) = true) by simp)]
        have fin : wpAny (model X.prog X.w) X.A (setFlight (.ref a) X.env.frame) (fun _ z => wpAny (model X.prog X.w) X.A (throw (.ref a) : Sem Flow) (SP X pins D) X.xe z) X.xe { s' with heap := hA } := by
          rw [fr]; refine HandSPX.setFlight_upZ flA fun hB hhB upB => wpAny_throw (tk _ _ ?_)
          exact ⟨a, B, sI, pins, σ1, H1, cls, d, rfl, J, nb, (up.trans upA).trans upB, .inr (.inr (by rw [st]; exact hhB)), na, os, ag, w⟩
        first
          | exact wpAny_bind (wpAny_pure (wpAny_bind fin))
          | exact wpAny_bind fin
      | @cons x c ts b1 bs pa pb hs3 l3 nm su more ih =>
        rintro ⟨y, hy, hno, hyes⟩
        refine wpAny_handleBy_cons (codeAny_handlers_test ?_) (by intro q; cases q)
        have LT : PySem.W.Looks (model X.prog X.w) hA (typeOf (.ref a)) cls := fun A Q E s k q => wpAny_typeOf_ref (k _ _ eA) (by rw [zA.1]; exact q)
        have LM := PySem.W.exm_one (M := model X.prog X.w) JA.kIn LT hy
        have test : ∀ {Q : Value → Shared → Prop} {E : Value → Shared → Prop}, Q c { s' with heap := hA } → wpAny (model X.prog X.w) (X.A.mark (some (.ref a))) (eval (.Name x pa) X.env) Q E { s' with heap := hA } := fun {Q E} q => by
          obtain ⟨g1, g2, g3 | ⟨g3, g4, g5⟩⟩ := nm
          · exact ld_glob (X := X.suite a ((a, oA) :: (X.pn ++ pins))) SA g1 g3 q g2
          · exact ld_blt (X := X.suite a ((a, oA) :: (X.pn ++ pins))) SA g1 g3 g4 q g5 g2
        refine test (LM.here ?_)
        cases y with
        | true =>
          refine codeAny_handlers_suite_as (HandSPX.lands_againZ flA fun hB flB upB => ?_)
          have JB : Inv X pins σ1 H1 { s' with heap := hB } := J.landed nb flB.1 ((up.trans upA).trans upB) os ag
          obtain ⟨oB, vB, eB, zB, dB⟩ := flB.there
          refine store_ok (X := X.suite a ((a, oB) :: (X.pn ++ pins))) (v := .ref a) (JB.suite eB dB na nL nF) nd at_ (.inl lo) rfl (fun s5 S5 => ?_) (.inr lo)
          refine wpAny_mono ((su a oB cls d (X.pn ++ pins) zB ⟨_, dB⟩).run [] s5 _ H1 _ S5 (hyes rfl a na)) (fun f s6 q => ?_) (fun _ _ z => False.elim z)
          have fin : ∀ {σ6 : L2.St} {H6 : Hp} {Q : Shared → Prop}, Inv (X.suite a ((a, oB) :: (X.pn ++ pins))) [] σ6 H6 s6 → (∀ s7, Inv X pins (σ6.set i none) H6 s7 → Q s7) → wpAny (model X.prog X.w) X.A (do bindName X.env n .none; unbindBehindTheSuite X.env n pb) (fun _ s7 => Q s7) X.xe s6 :=
            fun {σ6 H6 Q} S6 hq => gone_ok (S6.unsuite ok) nd at_ lo hq
          match f, q with
          | .next, ⟨_, _, S6, q6⟩ => exact fin S6 fun s7 J7 => ⟨_, _, J7, q6⟩
          | .brk, ⟨_, _, S6, q6⟩ => exact fin S6 fun s7 J7 => ⟨_, _, J7, q6⟩
          | .cont, ⟨_, _, S6, q6⟩ => exact fin S6 fun s7 J7 => ⟨_, _, J7, q6⟩
          | .ret u, ⟨_, _, _, S6, r6, q6⟩ => exact fin S6 fun s7 J7 => ⟨_, _, _, J7, r6, q6⟩
        | false => exact ih (hno rfl)
    have hz : ∀ k : wpAny (model X.prog X.w) X.A (handleBy (.ref a) X.env (h1 :: hs)) (SP X pins D) X.xe { s' with heap := hA }, wpAny (model X.prog X.w) X.A (handleBy (.ref a) X.env (h1 :: hs)) (SP X pins D) X.xe { s' with heap := hA } := fun k => k
    exact go hd w
  · match f, q with
    | .next, ⟨σ', H', J', q⟩ => exact wpAny_execs_nil ⟨σ', H', J'.ofTry ok, q⟩
    | .brk, ⟨σ', H', J', q⟩ => exact ⟨σ', H', J'.ofTry ok, q⟩
    | .cont, ⟨σ', H', J', q⟩ => exact ⟨σ', H', J'.ofTry ok, q⟩
    | .ret u, ⟨v, σ', H', J', r, q⟩ => exact ⟨v, σ', H', J'.ofTry ok, r, q⟩
/-- isinstance(e, c), e the caught one, whose own dict is at d -/
theorem call_isD {X : Cx} {a D : Addr} {cls : Value} {d : Option Addr} {oe : Obj} {pn : List (Addr × Obj)} (C : ExcC X.K D) (hz : Zc cls d oe) (hf : ∃ vs, oe.data = .fields vs) (K : PySem.W.Frag) (hK : X.K = K := by rfl) :
    CallR (X.suite a ((a, oe) :: pn)) (.builtin "isinstance") (fun xs H Q => cls = .ref D ∧ (∃ dd, d = some dd ∧ ∃ fs, H dd = some (.xd fs)) ∧ rIsE K D a xs H Q) := by
  subst hK
  intro pins s σ H xs us Q I r ⟨hcls, ⟨dd, hdd, fs, hfs⟩, c, cv, b, exs, hcv, e, q⟩
  subst exs hcls
  match us, r with
  | [_, _], .cons rx (.cons rt .nil) =>
    cases rx
    have ec := hcv _ rt
    subst ec
    obtain ⟨hget, _⟩ := I.pin (a, oe) (List.mem_append.mpr (.inl List.mem_cons_self))
    obtain ⟨vs, hv⟩ := hf
    have hx : ObjOk X.prog X.w H s.heap dd (.xd fs) := I.hok dd _ hfs
    obtain ⟨mA, hns, _⟩ := hx
    obtain ⟨od, ho, _⟩ := lookIn_ns hns
    have J : PySem.W.InstAt s.heap a oe D (some od) := ⟨hget, hz.1, by unfold PySem.W.notCls; rw [hv] <;> rfl, by rw [hz.2, hdd]; exact ho⟩
    have hcl : (PySem.W.clsIn X.K D).isSome = true := by
      obtain ⟨cd, hc, _⟩ := PySem.W.any_some C.hd
      rw [hc]; rfl
    exact PySem.W.kia_one (PySem.W.kitx_exc hcl C.hg C.hk C.hs C.ha C.hn C.ht C.hm) I.kIn J e (fun z => nomatch z) fun tk => ⟨.bl b, H, I.kept (t' := tk) fun _ _ z => z, rfl, q⟩
end G

/-! part SX -/
/-! Calls in the body of a try: what goes out is told with the slots as they stand. -/
namespace G
open PySem PySem.Spec PyProof.Rows L2
section
variable {X : Cx} {k j : Nat} {x m : Str} {C : Addr} {sp : Sp} {e o : Expr} {es : List Expr} {ta : TE} {t : TA} {p pos apos : Pos} {W : WX}
def tMethW (C : Addr) (m : Str) (sp : Sp) (W : WX) (ta : TE) (t : TA) : TE := fun σ H Q => ta σ H fun x H1 => ∃ a dx fs, x = .ref a ∧ H1 a = some (.ins C dx fs) ∧ fs.lookup m = none ∧ t σ H1 fun vs H2 => sp (x :: vs) H2 Q (WE W σ)
theorem pe_mW {pl : Sem Bool} (c : Met X.prog X.w X.K X.mg X.base k C m sp) (hr : Room j X.A) (hk : k ≤ j) (ho : PE X o ta) (ha : PA X (e :: es) t) (tk : Takes X W)
    (hst : starEach (e :: es) X.env = (false, eval e X.env) :: starEach es X.env := by rfl) (hpl : (backTo pos (starEach es X.env)).any (·.1) = false := by rfl)
    (ht : eval (.Call (.Attribute o m apos) (e :: es) [] pos) X.env = (do
      let u ← eval o X.env
      standAt apos.atName
      let (g, us) ← holding [u] (getMethod u m pl)
      callWith pos g us (backTo pos (starEach (e :: es) X.env)) (backToKw pos (keywordEach [] X.env))) := by rfl) : PE X (.Call (.Attribute o m apos) (e :: es) [] pos) (tMethW C m sp W ta t) := by
  obtain ⟨f, fd, ps, F, hm, b⟩ := c.ex
  refine ⟨fun pins s σ H Q I h => ?_⟩
  refine PySem.W.methodCall_KW (pl := pl) (thn (ho.run pins s σ H _ I h) fun u s1 ⟨x, H1, I1, rx, a, dx, fs, ex, ea, l, q⟩ => ?_) ht
  subst ex
  obtain rfl : u = Value.ref a := rx
  refine getmeth_ok I1 ea c.cl hm l ?_
  refine PySem.W.callWith_K (first := [.ref a]) (h₀ := X.base) I1.ok.mod.kin hm.kp (thn (ha.run pos pins s1 σ H1 _ I1 q) fun us s2 ⟨vs, H2, I2, r, q2⟩ => ⟨I2.kIn, ?_⟩) hst hpl
  exact run_fnS (us := .ref a :: us) (vs := .ref a :: vs) F (hr.mono hk) b (passAt tk σ) I2 (.cons rfl r) q2
def tMakeW (C : Addr) (sp : Sp) (W : WX) (t : TA) : TE := fun σ H Q => t σ H fun vs H1 => ∀ x dx, H1 x = none → H1 dx = none → dx ≠ x →
  sp (.ref x :: vs) (upd (upd H1 dx (.own x)) x (.ins C dx [])) (fun v H2 => v = .non ∧ Q (.ref x) H2) (WE W σ)
theorem pe_kW (c : Mak X.prog X.w X.K X.mg X.base k x C sp) (hr : Room j X.A) (hk : k + 1 ≤ j) (ha : PA X (e :: es) t) (tk : Takes X W) (hg : Gl X x := by rfl) (hdb : (x == ("__debug__" : Str)) = false := by decide)
    (he : starEach (e :: es) X.env = (false, eval e X.env) :: starEach es X.env := by rfl) (hpl : (backTo pos (starEach es X.env)).any (·.1) = false := by rfl) : PE X (.Call (.Name x p) (e :: es) [] pos) (tMakeW C sp W t) := by
  obtain ⟨f, fd, ps, F, M, hm, b⟩ := c.ex
  refine ⟨fun pins s σ H Q I h => ?_⟩
  refine wpAny_Call_Name_kw (ld_glob I hg hm ?_ hdb)
  refine PySem.W.callWith_K (h₀ := X.base) I.ok.mod.kin M.kp (thn (ha.run pos pins s σ H _ I h) fun us s1 ⟨vs, H1, I1, r, q⟩ => ⟨I1.kIn, ?_⟩) he hpl
  have z := q (s1.heap.objs.size + 1) s1.heap.objs.size (I1.hok.fresh (Nat.le_succ _)) (I1.hok.fresh (Nat.le_refl _)) (Nat.ne_of_lt (Nat.lt_succ_self _))
  have J := Inv.made (C := C) I1
  have r2 : Vals (V.ref (s1.heap.objs.size + 1) :: vs) (Value.ref (s1.heap.objs.size + 1) :: us) := .cons rfl r
  have hl : (Value.ref (s1.heap.objs.size + 1) :: us).length = ps.length := r2.length.symm.trans (F.len _ _ _ _ z)
  have bb := b { s1 with heap := (s1.heap.push _).push _ } (Value.ref (s1.heap.objs.size + 1) :: us) J.kIn (by rw [List.append_nil]; exact hl)
  rw [List.append_nil] at bb
  refine wpAny_call (make_map (f := f) I1.kIn M.makes M.init (beq_iff_eq.mp M.fn) (codeAny_mono (F.run _ X.stack _ _ ⟨Value.ref (s1.heap.objs.size + 1) :: us, []⟩ _ _ _ (WE W σ) ((hr.mono hk).make C us []) (J.env0.make C us []) bb r2 z) fun r s' y => ?_))
  match r, y with
  | .error er, y => exact passAt tk σ pins _ _ er s' J y
  | .ok (.ret u), y =>
    obtain ⟨v, H', I3, rv, ev, q3⟩ := J.after y
    subst ev
    exact ⟨rv, ⟨V.ref (s1.heap.objs.size + 1), H', I3, rfl, q3⟩⟩
  | .ok .next, y => exact False.elim y
  | .ok .brk, y => exact False.elim y
  | .ok .cont, y => exact False.elim y
end
end G

/-! part B5 -/
namespace TR
open PySem PySem.Spec PyProof.Rows L2 G
/-- what comes of told -/
def ToldR (ks : Kinds) (ss : Steps) (o : Option Nat) (v : V) (F : Hp) : Prop := ∃ a, v = .ref a ∧ match o with
  | some k => F a = some (.tup [.str "arrow", .int (k : Nat)])
  | none => ∃ l, F a = some (.tup [.str "row", l]) ∧ RPairs.rel (normal ks ss) l F
section
variable {P : Program} {w : World} {K : PySem.W.Frag} {mg : Str → Option Value} {base : Heap} {CT CN CP EN ET EA ES CR : Addr}
abbrev s_w_told : Stmt := top 55
abbrev N_w_told : List Str := ["_law_made", "_law_run_here", "e"]
abbrev P_w_told : List Str := ["_law_made", "_law_run_here"]
theorem sc_w_told : FnScope N_w_told P_w_told (defScope s_w_told) := ⟨rfl, rfl, rfl, by decide +kernel, rfl, by decide +kernel, by decide +kernel⟩
theorem bn_w_told : BindsNo "_law_told" "_law_told" s_w_told P_w_told := fun _ _ _ _ _ _ us hl => match us, hl with | [_, _], _ => rfl
def sp_told (K : PySem.W.Frag) (CT CN CP CR : Addr) : Sp := fun vs H Q _ => ∃ (F : Hp) (v : V) (a : Addr) (xs : List V) (d : PlanD) (ps : Run), vs = [v, .ref a] ∧ Same F H ∧ (RPlan CT CN CP).rel d v F ∧ Sq2 F a xs ∧ Paired (fun p x => PairV K x F p) ps xs ∧ xs.length ≤ 1000 ∧
  ∀ r F' H', Pu F H F' H' → ToldR d.ks (ps.map (stepOf d.ds)) (faultD d.ds d.e d.b 0 ps) r F' → Q r H'
theorem ok_told (B : Bt mg) {q3 : Str} {st3 : Stmt} (R : KlF K mg "Row" CR ["turns", "steps", "key"]) (m_row_of : Met P w K mg base 7 CP "row_of" (sp_row_of K CT CN CP CR EA)) (x_BadArrow : XTxt P K mg "BadArrow" q3 "index" st3 EA) (ex : PySem.W.exmOne K (.ref EA) (.ref EA) = some true)
    (F : FnF K mg "_law_told" s_w_told []) : Cal P w K mg base 8 "_law_told" (sp_told K CT CN CP CR) := by
  have xf_BadArrow : XfC K EA := ⟨x_BadArrow.ga, x_BadArrow.gg, x_BadArrow.oc.exC, x_BadArrow.hd⟩
  have no_BadArrow := x_BadArrow.nof
  refine F.cal sc_w_told bn_w_told (fun vs H Q E h => ?_) (fun f cdv A outer s H vs Q E hr h => ?_)
  · obtain ⟨_, _, _, _, _, _, rfl, _⟩ := h
    rfl
  · obtain ⟨F, v, ra, xs, d, ps, rfl, sF, rp, hra, pd, hlen, k⟩ := h
    obtain ⟨a, dx, ts, ta, tv, hp⟩ := id rp
    have nm_BadArrow : Names (cxOf (L2.CX P w) P w K mg base N_w_told "_law_told" (defScope s_w_told) f cdv A outer s H E) "BadArrow" (.ref EA) := ⟨rfl, by decide, .inl x_BadArrow.gC⟩
    refine ⟨_, (pss_one (ps_try_as (i := 2) rfl rfl sc_w_told.nd rfl rfl nm_BadArrow takes0 (fun W pn xe tk _ => (pss_one (ps_ret (pe_tup (pa_cons pe_str (pa_cons (pe_callTy (k_list (K := K)) (by rfl) B.list (by decide +kernel) (pa_cons (k_fld (pe_mW m_row_of hr (by decide) (pv 0) (pa_cons (pv 1) pa_nil) tk) (K := K)) pa_nil)) pa_nil)))))) (fun a oe cls d pn hz hf => (pss_one (ps_ret (pe_tup (pa_cons pe_str (pa_cons (pe_xf xf_BadArrow no_BadArrow hz hf (pv 2)) pa_nil)))))))), ?_⟩
    refine ⟨_, rfl, a, dx, _, hp.ev, sF _ _ hp.ob, rfl, _, rfl, F, v, ra, xs, d, ps, rfl, sF, rp, hra, pd, hlen, ?_⟩
    cases hf : faultD d.ds d.e d.b 0 ps with
    | some j =>
      rw [hf] at k
      refine .inl ⟨j, rfl, fun F1 H1 dd q1 hdd => ?_⟩
      refine ⟨true, ex, fun _ ea hea => ?_, fun h => by cases h⟩
      refine ⟨_, rfl, rfl, rfl, dd, _, _, rfl, hdd, rfl, sz (n := 2) (by decide), fun p hp2 => ?_⟩
      exact k (.ref p) _ _ (q1.add hp2) ⟨p, rfl, upd_same⟩
    | none =>
      rw [hf] at k
      refine .inr ⟨rfl, fun r F1 H1 q1 rr => ?_⟩
      obtain ⟨b, bdx, bts, btk, btq, btp, btv, hr1⟩ := rr
      obtain ⟨tt, ys, ett, htt, pds⟩ := hr1.st
      cases ett
      refine ⟨b, CR, bdx, _, _, hr1.ev, q1.sub _ _ hr1.ob, R.cl, R.no _ (by decide), rfl, ?_⟩
      refine ⟨bts, ys, rfl, .inr (SqT.of (q1.sub _ _ htt)), fun l hl => ?_⟩
      have q2 := q1.add (o := .lst ys) hl
      refine ⟨sz (n := 2) (by decide), fun p hp2 => ?_⟩
      have q3 := q2.add (o := .tup [.str "row", .ref l]) hp2
      have s2 := Same.new (o := .lst ys) (q1.sub.free hl)
      have s3 := Same.new (o := .tup [.str "row", .ref l]) (q2.sub.free hp2)
      exact k (.ref p) _ _ q3 ⟨p, rfl, .ref l, upd_same, l, ys, rfl, s3 _ _ upd_same, pd_mono (fun _ _ => RStep.mono (s2.trans s3)) pds⟩
end
end TR

/-! part B6 -/
namespace TR
open PySem PySem.Spec PyProof.Rows L2 G
/-- an exception that is caught and asked -/
structure XIs (K : PySem.W.Frag) (mg : Str → Option Value) (C TE : Addr) : Prop where
  ec : ExcC K C
  te : PySem.W.kitOne K (.ref C) (.ref TE) = some true
/-- which clause takes which -/
structure ExT (K : PySem.W.Frag) (EN ET EA ES : Addr) : Prop where
  nn : PySem.W.exmOne K (.ref EN) (.ref EN) = some true
  tn : PySem.W.exmOne K (.ref ET) (.ref EN) = some false
  tt : PySem.W.exmOne K (.ref ET) (.ref ET) = some true
  an : PySem.W.exmOne K (.ref EA) (.ref EN) = some false
  at_ : PySem.W.exmOne K (.ref EA) (.ref ET) = some false
  aa : PySem.W.exmOne K (.ref EA) (.ref EA) = some true
  sn : PySem.W.exmOne K (.ref ES) (.ref EN) = some false
  st : PySem.W.exmOne K (.ref ES) (.ref ET) = some false
  sa : PySem.W.exmOne K (.ref ES) (.ref EA) = some false
  ss : PySem.W.exmOne K (.ref ES) (.ref ES) = some true
/-- why a plan is refused -/
def Refused (K : PySem.W.Frag) (CN : Addr) (F : Hp) (ks : Kinds) (ss as : List V) (bv ev : V) (st : List Str) (ds : List ArrD) (kind : Str) (val : V) : Prop :=
  (kind = "name" ∧ ss[st.length]? = some val ∧ BadName K F val) ∨
  (kind = "twice" ∧ ∃ z, val = .str z ∧ ss[st.length]? = some (.str z) ∧ z ∈ st) ∨
  (kind = "arrow" ∧ st.length = ss.length ∧ ∃ y, as[ds.length]? = some y ∧ ArrBad K CN ks st y F ∧ val = .int ds.length) ∨
  (kind = "station" ∧ st.length = ss.length ∧ ds.length = as.length ∧ ((NoSt K F st bv ∧ val = bv) ∨ ((∃ b, bv = .str b ∧ b ∈ st) ∧ NoSt K F st ev ∧ val = ev)))
section
variable {P : Program} {w : World} {K : PySem.W.Frag} {mg : Str → Option Value} {base : Heap} {CT CN CP EN ET EA ES CR TE : Addr}
abbrev s_w_tried : Stmt := top 56
abbrev N_w_tried : List Str := ["_law_turns", "_law_stations", "_law_arrows", "_law_begin", "_law_end", "e"]
abbrev P_w_tried : List Str := ["_law_turns", "_law_stations", "_law_arrows", "_law_begin", "_law_end"]
theorem sc_w_tried : FnScope N_w_tried P_w_tried (defScope s_w_tried) := ⟨rfl, rfl, rfl, by decide +kernel, rfl, by decide +kernel, by decide +kernel⟩
theorem bn_w_tried : BindsNo "_law_tried" "_law_tried" s_w_tried P_w_tried := fun _ _ _ _ _ _ us hl => match us, hl with | [_, _, _, _, _], _ => rfl
def sp_tried (K : PySem.W.Frag) (CT CN : Addr) : Sp := fun vs H Q _ => ∃ (F : Hp) (ls la : Addr) (tv bv ev : V) (ks : Kinds) (ss as : List V) (st : List Str) (ds : List ArrD) (kind : Str) (val : V), vs = [tv, .ref ls, .ref la, bv, ev] ∧ Same F H ∧ (RTurns CT).rel ks tv F ∧
  F ls = some (.lst ss) ∧ F la = some (.lst as) ∧ ss.length ≤ 100 ∧ as.length ≤ 100 ∧ StOk ss st ∧ Paired (fun d v => (RArr CN).rel d v F ∧ arrGood ks st d) ds (as.take ds.length) ∧ ds.length ≤ as.length ∧ Refused K CN F ks ss as bv ev st ds kind val ∧
  ∀ r F' H', Pu F H F' H' → (∃ a, r = .ref a ∧ F' a = some (.tup [.str kind, val, .bl true])) → Q r H'
theorem ok_tried (B : Bt mg) {q1 q2 q3 q4 : Str} {st1 st2 st3 st4 : Stmt} (k_Plan : Mak P w K mg base 3 "Plan" CP (sp_Plan_init K CT CN CP EN ET EA ES))
    (x_BadName : XTxt P K mg "BadName" q1 "name" st1 EN) (x_TwiceNamed : XTxt P K mg "TwiceNamed" q2 "name" st2 ET) (x_BadArrow : XTxt P K mg "BadArrow" q3 "index" st3 EA) (x_NoStation : XTxt P K mg "NoStation" q4 "name" st4 ES)
    (T : ExT K EN ET EA ES) (g_TurnError : mg "TurnError" = some (.ref TE)) (i1 : XIs K mg EN TE) (i2 : XIs K mg ET TE) (i3 : XIs K mg EA TE) (i4 : XIs K mg ES TE)
    (F : FnF K mg "_law_tried" s_w_tried []) : Cal P w K mg base 5 "_law_tried" (sp_tried K CT CN) := by
  have xf_BadName : XfC K EN := ⟨x_BadName.ga, x_BadName.gg, x_BadName.oc.exC, x_BadName.hd⟩
  have xf_TwiceNamed : XfC K ET := ⟨x_TwiceNamed.ga, x_TwiceNamed.gg, x_TwiceNamed.oc.exC, x_TwiceNamed.hd⟩
  have xf_BadArrow : XfC K EA := ⟨x_BadArrow.ga, x_BadArrow.gg, x_BadArrow.oc.exC, x_BadArrow.hd⟩
  have xf_NoStation : XfC K ES := ⟨x_NoStation.ga, x_NoStation.gg, x_NoStation.oc.exC, x_NoStation.hd⟩
  have no_BadName := x_BadName.nof
  have no_TwiceNamed := x_TwiceNamed.nof
  have no_BadArrow := x_BadArrow.nof
  have no_NoStation := x_NoStation.nof
  have ic_BadName := i1.ec
  have ic_TwiceNamed := i2.ec
  have ic_BadArrow := i3.ec
  have ic_NoStation := i4.ec
  refine F.cal sc_w_tried bn_w_tried (fun vs H Q E h => ?_) (fun f cdv A outer s H vs Q E hr h => ?_)
  · obtain ⟨_, _, _, _, _, _, _, _, _, _, _, _, _, rfl, _⟩ := h
    rfl
  · obtain ⟨F, ls, la, tv, bv, ev, ks, ss, as, st, ds, kind, val, rfl, sF, rt, hls, hla, hs, ha, so, pda, hdl, hr2, k⟩ := h
    have nm_BadName : Names (cxOf (L2.CX P w) P w K mg base N_w_tried "_law_tried" (defScope s_w_tried) f cdv A outer s H E) "BadName" (.ref EN) := ⟨rfl, by decide, .inl x_BadName.gC⟩
    have nm_TwiceNamed : Names (cxOf (L2.CX P w) P w K mg base N_w_tried "_law_tried" (defScope s_w_tried) f cdv A outer s H E) "TwiceNamed" (.ref ET) := ⟨rfl, by decide, .inl x_TwiceNamed.gC⟩
    have nm_BadArrow : Names (cxOf (L2.CX P w) P w K mg base N_w_tried "_law_tried" (defScope s_w_tried) f cdv A outer s H E) "BadArrow" (.ref EA) := ⟨rfl, by decide, .inl x_BadArrow.gC⟩
    have nm_NoStation : Names (cxOf (L2.CX P w) P w K mg base N_w_tried "_law_tried" (defScope s_w_tried) f cdv A outer s H E) "NoStation" (.ref ES) := ⟨rfl, by decide, .inl x_NoStation.gC⟩
    refine ⟨_, (pss_cons (ps_try_asMany (i := 5) rfl rfl sc_w_tried.nd rfl rfl takes0 (fun W pn xe tk _ => (pss_one (ps_expr (pe_kW k_Plan hr (by decide) (pa_cons (pv 0) (pa_cons (pv 1) (pa_cons (pv 2) (pa_cons (pv 3) (pa_cons (pv 4) pa_nil))))) tk)))) (.cons nm_BadName (fun a oe cls d pn hz hf => (pss_one (ps_ret (pe_tup (pa_cons pe_str (pa_cons (pe_xf xf_BadName no_BadName hz hf (pv 5)) (pa_cons (pe_callB (call_isD ic_BadName hz hf K) (by rfl) B.isinstance (by decide +kernel) (pa_cons (pv 5) (pa_cons (pe_gr g_TurnError) pa_nil))) pa_nil)))))))
    (.cons nm_TwiceNamed (fun a oe cls d pn hz hf => (pss_one (ps_ret (pe_tup (pa_cons pe_str (pa_cons (pe_xf xf_TwiceNamed no_TwiceNamed hz hf (pv 5)) (pa_cons (pe_callB (call_isD ic_TwiceNamed hz hf K) (by rfl) B.isinstance (by decide +kernel) (pa_cons (pv 5) (pa_cons (pe_gr g_TurnError) pa_nil))) pa_nil)))))))
    (.cons nm_BadArrow (fun a oe cls d pn hz hf => (pss_one (ps_ret (pe_tup (pa_cons pe_str (pa_cons (pe_xf xf_BadArrow no_BadArrow hz hf (pv 5)) (pa_cons (pe_callB (call_isD ic_BadArrow hz hf K) (by rfl) B.isinstance (by decide +kernel) (pa_cons (pv 5) (pa_cons (pe_gr g_TurnError) pa_nil))) pa_nil)))))))
    (.cons nm_NoStation (fun a oe cls d pn hz hf => (pss_one (ps_ret (pe_tup (pa_cons pe_str (pa_cons (pe_xf xf_NoStation no_NoStation hz hf (pv 5)) (pa_cons (pe_callB (call_isD ic_NoStation hz hf K) (by rfl) B.isinstance (by decide +kernel) (pa_cons (pv 5) (pa_cons (pe_gr g_TurnError) pa_nil))) pa_nil)))))))
    .nil)))))
    (pss_one (ps_ret (pe_tup (pa_cons pe_str pa_nil))))), ?_⟩
    refine ⟨_, rfl, _, rfl, _, rfl, _, rfl, _, rfl, fun x dx hx hdx ne => ?_⟩
    have fin : ∀ (F1 H1 : Hp) (v : V), kind = kind → Pu F H F1 H1 → ∀ (p : Addr), H1 p = none → v = val → Q (.ref p) (upd H1 p (.tup [.str kind, v, .bl true])) := fun F1 H1 v _ q p hp e => by
      subst e
      exact k _ _ _ (q.add hp) ⟨p, rfl, upd_same⟩
    refine ⟨F, H, x, dx, ls, la, tv, bv, ev, ks, ss, as, st, ds, rfl, ⟨sF, hx, hdx, ne, rfl⟩, rt, hls, hla, hs, ha, so, pda, hdl, ?_⟩
    rcases hr2 with ⟨rfl, h1, h2⟩ | ⟨rfl, z, rfl, h1, h2⟩ | ⟨rfl, h0, y, h1, h2, rfl⟩ | ⟨rfl, h0, h1, h2⟩
    · refine .inl ⟨val, h1, h2, fun F1 H1 dd q1 hdd => ?_⟩
      refine ⟨true, T.nn, fun h => (by cases h), fun _ ea hea => ?_⟩
      refine ⟨_, rfl, rfl, rfl, dd, _, _, rfl, hdd, rfl, ?_⟩
      refine ⟨_, rfl, rfl, ⟨dd, rfl, _, hdd⟩, _, _, true, rfl, (fun u h => h), i1.te, ?_⟩
      exact ⟨sz (n := 3) (by decide), fun p hp => fin _ _ _ rfl q1 p hp rfl⟩
    · refine .inr (.inl ⟨z, h1, h2, fun F1 H1 dd q1 hdd => ?_⟩)
      refine ⟨false, T.tn, fun _ => ?_, fun h => (by cases h)⟩
      refine ⟨true, T.tt, fun h => (by cases h), fun _ ea hea => ?_⟩
      refine ⟨_, rfl, rfl, rfl, dd, _, _, rfl, hdd, rfl, ?_⟩
      refine ⟨_, rfl, rfl, ⟨dd, rfl, _, hdd⟩, _, _, true, rfl, (fun u h => h), i2.te, ?_⟩
      exact ⟨sz (n := 3) (by decide), fun p hp => fin _ _ _ rfl q1 p hp rfl⟩
    · refine .inr (.inr (.inl ⟨h0, y, h1, h2, fun F1 H1 dd q1 hdd => ?_⟩))
      refine ⟨false, T.an, fun _ => ?_, fun h => (by cases h)⟩
      refine ⟨false, T.at_, fun _ => ?_, fun h => (by cases h)⟩
      refine ⟨true, T.aa, fun h => (by cases h), fun _ ea hea => ?_⟩
      refine ⟨_, rfl, rfl, rfl, dd, _, _, rfl, hdd, rfl, ?_⟩
      refine ⟨_, rfl, rfl, ⟨dd, rfl, _, hdd⟩, _, _, true, rfl, (fun u h => h), i3.te, ?_⟩
      exact ⟨sz (n := 3) (by decide), fun p hp => fin _ _ _ rfl q1 p hp rfl⟩
    · rcases h2 with ⟨h2, rfl⟩ | ⟨h2, h3, rfl⟩
      · refine .inr (.inr (.inr (.inl ⟨h0, h1, h2, fun F1 H1 dd q1 hdd => ?_⟩)))
        refine ⟨false, T.sn, fun _ => ?_, fun h => (by cases h)⟩
        refine ⟨false, T.st, fun _ => ?_, fun h => (by cases h)⟩
        refine ⟨false, T.sa, fun _ => ?_, fun h => (by cases h)⟩
        refine ⟨true, T.ss, fun h => (by cases h), fun _ ea hea => ?_⟩
        refine ⟨_, rfl, rfl, rfl, dd, _, _, rfl, hdd, rfl, ?_⟩
        refine ⟨_, rfl, rfl, ⟨dd, rfl, _, hdd⟩, _, _, true, rfl, (fun u h => h), i4.te, ?_⟩
        exact ⟨sz (n := 3) (by decide), fun p hp => fin _ _ _ rfl q1 p hp rfl⟩
      · refine .inr (.inr (.inr (.inr (.inl ⟨h0, h1, h2, h3, fun F1 H1 dd q1 hdd => ?_⟩))))
        refine ⟨false, T.sn, fun _ => ?_, fun h => (by cases h)⟩
        refine ⟨false, T.st, fun _ => ?_, fun h => (by cases h)⟩
        refine ⟨false, T.sa, fun _ => ?_, fun h => (by cases h)⟩
        refine ⟨true, T.ss, fun h => (by cases h), fun _ ea hea => ?_⟩
        refine ⟨_, rfl, rfl, rfl, dd, _, _, rfl, hdd, rfl, ?_⟩
        refine ⟨_, rfl, rfl, ⟨dd, rfl, _, hdd⟩, _, _, true, rfl, (fun u h => h), i4.te, ?_⟩
        exact ⟨sz (n := 3) (by decide), fun p hp => fin _ _ _ rfl q1 p hp rfl⟩
end
end TR

/-! part HX -/
/-! What the head says, by a Hook of one's own: facts, defs wherever they stand, own exceptions, further tests. -/
namespace HX
open PySem PySem.Spec PyProof.Rows L2 G He
def asX (g : Addr → Option Obj) : Nat → List Addr
  | 0 => [mainGlobals, cStatics]
  | n + 1 => growD g (asX g n)
/-- what an object names, of a dict only what stands under these names -/
def refsP (ks : List Str) (o : Obj) : List Addr := match o.data with
  | .dict es _ => es.toList.flatMap fun e => match refV e.val with
    | [] => []
    | a :: r => (match ks.any fun k => e.key.isStr k with
      | true => a :: r
      | false => [])
  | _ => refsD o
def growP (ks : List Str) (g : Addr → Option Obj) (as : List Addr) : List Addr := (as ++ as.flatMap fun a => match g a with
  | some o => refsP ks o
  | none => []).eraseDups
def asP (ks : List Str) (g : Addr → Option Obj) : Nat → List Addr
  | 0 => [mainGlobals, cStatics]
  | n + 1 => growP ks g (asP ks g n)
/-- a def, wherever it stands -/
structure DX where
  ad : PySem.W.Frag → Addr
  name : Str
  qual : Str
  params : Arguments
  body : List Stmt
  scope : Scope
  dfl : List Dv := []
abbrev FnQ : Type := Option (Str × Str × Arguments × FuncBody × Scope × Addr × Addr)
def fnQ (K : PySem.W.Frag) (a : Addr) : FnQ := match K.lookup a with
  | some ⟨_, _, .func fd, _⟩ => some (fd.name, fd.qualname, fd.params, fd.body, fd.scope, fd.globals, fd.builtins)
  | _ => none
def DX.val (d : DX) : FnQ := some (d.name, d.qual, d.params, .stmts d.body, d.scope, mainGlobals, builtinsNs)
def DX.ok (K : PySem.W.Frag) (d : DX) : Bool := PySem.W.keepIn K (.ref (d.ad K)) && (match K.lookup (d.ad K) with
  | some ⟨_, _, .func fd, _⟩ => fd.closure.isEmpty && (PySem.W.codeIn K fd.code d.qual && dflB K fd.defaults (d.dfl.map (Dv.v K)))
  | _ => false)
theorem DX.funD {K : PySem.W.Frag} {d : DX} (e : fnQ K (d.ad K) = d.val) (c : d.ok K = true) : ∃ fd, FunD K d.name d.qual d.params d.body d.scope (d.dfl.map (Dv.v K)) [] (d.ad K) fd := by
  obtain ⟨kp, c2⟩ := ba c
  unfold fnQ at e
  cases q : K.lookup (d.ad K) with
  | none => rw [q] at c2; cases c2
  | some o =>
    obtain ⟨oc, od, dt, osl⟩ := o
    rw [q] at c2 e
    cases dt with
    | func fd =>
      obtain ⟨n1, n2, n3, n4, n5, n6, n7, n8, n9, n10, n11, n12, n13, n14, n15⟩ := fd
      have e2 : (some (n1, n2, n3, n4, n5, n6, n15) : FnQ) = some (d.name, d.qual, d.params, .stmts d.body, d.scope, mainGlobals, builtinsNs) := e
      simp only [Option.some.injEq, Prod.mk.injEq] at e2
      obtain ⟨h1, h2, h3, h4, h5, h6, h8⟩ := e2
      subst h1 h2 h3 h4 h5 h6 h8
      obtain ⟨k0, c3⟩ := ba (show (n7.isEmpty && (PySem.W.codeIn K n13 d.qual && dflB K n8 (d.dfl.map (Dv.v K)))) = true from c2)
      obtain ⟨k1, k3⟩ := ba c3
      have e7 : n7 = [] := List.isEmpty_iff.mp k0
      subst e7
      exact ⟨_, ⟨oc, od, n8, n9, n10, n11, n12, n13, n14, osl, rfl, q, k1, dflB_ok k3, .inl rfl⟩, kp⟩
    | _ => cases c2
/-- an own exception -/
structure XD where
  x : Str
  qual : Str
  fld : Str
  params : Arguments
  body : List Stmt
  scope : Scope
def iAd (x : Str) (K : PySem.W.Frag) : Addr := ma K (ga K x) "__init__"
def XD.val (d : XD) : FnQ := some ("__init__", d.qual, d.params, .stmts d.body, d.scope, mainGlobals, builtinsNs)
def slotsB : List (Option Value) → Bool
  | [_, _, _, _, some (.builtin n), _] => decide (n = "ValueError.__new__")
  | _ => false
theorem slotsB_ok : ∀ {sl : List (Option Value)}, slotsB sl = true → ∃ a0 a1 a2 a3 a5, sl = [a0, a1, a2, a3, some (.builtin "ValueError.__new__"), a5]
  | [a0, a1, a2, a3, some (.builtin n), a5], h => by
    have e : n = "ValueError.__new__" := of_decide_eq_true h
    subst e
    exact ⟨_, _, _, _, _, rfl⟩
def oexB (K : PySem.W.Frag) (C : Addr) : Bool := (match K.lookup C with
  | some ⟨.type t, _, .cls cd, sl⟩ => decide (t = "type") && (!cd.hasDel && (cd.hasDict && ((match cd.mro with
    | .ref C' :: bm => decide (C' = C) && PySem.HandSPX.refsVE bm
    | _ => false) && slotsB sl.toList)))
  | _ => false)
theorem oexB_ok {K : PySem.W.Frag} {C : Addr} (h : oexB K C = true) : ∃ nm q N bs bm sn sub ab col dd k0 k1 k2 k3 k5, K.lookup C = some (excClassObj nm q C N bs bm true sn sub ab col dd k0 k1 k2 k3 k5 "ValueError.__new__") ∧ PySem.HandSPX.refsVE bm = true := by
  unfold oexB at h
  cases q : K.lookup C with
  | none => rw [q] at h; cases h
  | some o =>
    obtain ⟨oc, od, dt, osl⟩ := o
    rw [q] at h
    cases oc with
    | type t =>
      cases dt with
      | cls cd =>
        obtain ⟨nm, bs, mro, N, qn, hd, sn, sb, ab, col, del⟩ := cd
        obtain ⟨h1, h⟩ := ba h
        obtain ⟨h2, h⟩ := ba h
        obtain ⟨h3, h⟩ := ba h
        obtain ⟨h4, h5⟩ := ba h
        cases mro with
        | nil => cases h4
        | cons m bm =>
          cases m with
          | ref C' =>
            obtain ⟨h6, h7⟩ := ba (show (decide (C' = C) && PySem.HandSPX.refsVE bm) = true from h4)
            have e1 : t = "type" := of_decide_eq_true h1
            have e2 : C' = C := of_decide_eq_true h6
            have e3 : hd = true := h3
            have e4 : del = false := by simpa using h2
            subst e1 e2 e3 e4
            obtain ⟨sl⟩ := osl
            obtain ⟨a0, a1, a2, a3, a5, e5⟩ := slotsB_ok h5
            have e6 : sl = [a0, a1, a2, a3, some (.builtin "ValueError.__new__"), a5] := e5
            subst e6
            exact ⟨_, _, _, _, _, _, _, _, _, _, _, _, _, _, _, rfl, h7⟩
          | _ => cases h4
      | _ => cases h
    | _ => cases dt <;> cases h
def eqV (a : Option Value) (b : Value) : Bool := decide (a = some b)
def fileB (file : Str) (vs : Array Value) : Bool := match (vs[2]? : Option Value) with
  | some (.str f _) => file == f
  | _ => false
theorem fileB_ok {file : Str} {vs : Array Value} (h : fileB file vs = true) : ∃ f tf, vs[2]? = some (.str f tf) ∧ (file == f) = true := by
  unfold fileB at h
  split at h
  · rename_i f tf e
    exact ⟨f, tf, e, h⟩
  · cases h
def cellB (C : Addr) : Option Obj → Bool
  | some ⟨_, _, .cell (some (.ref D)), _⟩ => decide (D = C)
  | _ => false
theorem cellB_ok {C : Addr} {o : Option Obj} (h : cellB C o = true) : ∃ cl cld csl, o = some ⟨cl, cld, .cell (some (.ref C)), csl⟩ := by
  cases o with
  | none => cases h
  | some o =>
    obtain ⟨cl, cld, dt, csl⟩ := o
    cases dt with
    | cell v =>
      cases v with
      | none => cases h
      | some v =>
        cases v with
        | ref D =>
          have e : D = C := of_decide_eq_true h
          subst e
          exact ⟨_, _, _, rfl⟩
        | _ => cases h
    | _ => cases h
def closB (K : PySem.W.Frag) (C : Addr) : List (Str × Addr) → Bool
  | [(c, cc)] => decide (c = ("__class__" : Str)) && cellB C (K.lookup cc)
  | _ => false
theorem closB_ok {K : PySem.W.Frag} {C : Addr} {l : List (Str × Addr)} (h : closB K C l = true) : ∃ cc cl cld csl, l = [(("__class__" : Str), cc)] ∧ K.lookup cc = some ⟨cl, cld, .cell (some (.ref C)), csl⟩ := by
  cases l with
  | nil => cases h
  | cons p r =>
    cases r with
    | cons _ _ => cases h
    | nil =>
      obtain ⟨c, cc⟩ := p
      obtain ⟨h1, h2⟩ := ba (show (decide (c = ("__class__" : Str)) && cellB C (K.lookup cc)) = true from h)
      obtain ⟨cl, cld, csl, e⟩ := cellB_ok h2
      have e1 : c = ("__class__" : Str) := of_decide_eq_true h1
      subst e1
      exact ⟨cc, cl, cld, csl, rfl, e⟩
def fldsB (file : Str) : Option Obj → Bool
  | some ⟨_, _, .fields vs, _⟩ => fileB file vs
  | _ => false
theorem fldsB_ok {file : Str} {o : Option Obj} (h : fldsB file o = true) : ∃ ccl cdd vs ccs f tf, o = some ⟨ccl, cdd, .fields vs, ccs⟩ ∧ vs[2]? = some (.str f tf) ∧ (file == f) = true := by
  cases o with
  | none => cases h
  | some o =>
    obtain ⟨cl, cld, dt, csl⟩ := o
    cases dt with
    | fields vs =>
      obtain ⟨f, tf, a, b⟩ := fileB_ok h
      exact ⟨_, _, _, _, f, tf, rfl, a, b⟩
    | _ => cases h
def xfnB (file : Str) (K : PySem.W.Frag) (x qual : Str) : Bool := (match K.lookup (iAd x K) with
  | some ⟨_, _, .func fd, _⟩ => closB K (ga K x) fd.closure && ((match fd.defaults with
    | .none => true
    | _ => false) && (match fd.code with
    | .ref cda => PySem.W.codeIn K (.ref cda) qual && fldsB file (K.lookup cda)
    | _ => false))
  | _ => false)
def XD.ok (file : Str) (K : PySem.W.Frag) (d : XD) : Bool :=
  oexB K (ga K d.x) && (eqO (PySem.W.findIn K (.ref (ga K d.x)) "__setattr__") (some (some (.builtin "object.__setattr__"))) && (decide (PySem.W.subIn K (.ref (ga K d.x)) (.type "BaseException") = some true) &&
  (eqV (PySem.W.typeIn K (.ref (ga K d.x))) (.type "type") && (PySem.W.keepIn K (.ref (ga K d.x)) && (eqO (PySem.W.findIn K (.ref (ga K d.x)) "__getattribute__") (some (some (.builtin "BaseException.__getattribute__"))) &&
  (eqO (PySem.W.findIn K (.ref (ga K d.x)) "__getattr__") (some none) && (PySem.W.hasDictIn K (ga K d.x) && (eqO (PySem.W.findIn K (.ref (ga K d.x)) d.fld) (some none) && (decide (PySem.W.subIn K (.ref (ga K d.x)) (.type "ValueError") = some true) &&
  (decide (PySem.W.mroIn K (ga K d.x) (.ref (ga K d.x)) = some true) && (eqO (PySem.W.nsIn K cStatics "thirdparty.any") (some none) && (eqO (PySem.W.ks_superIn K (ga K d.x) (ga K d.x) "__init__") (some (some (.builtin "ValueError.__init__"))) &&
  (eqO (PySem.W.findIn K (.ref (ga K d.x)) "__init__") (some (some (.ref (iAd d.x K)))) && (eqV (PySem.W.typeIn K (.ref (iAd d.x K))) (.type "function") && xfnB file K d.x d.qual))))))))))))))
theorem eqV_ok {a : Option Value} {b : Value} (h : eqV a b = true) : a = some b := of_decide_eq_true h
/-- the conclusion of XTxt, from what is looked at -/
theorem XD.txt {P : Program} {K : PySem.W.Frag} {mg : Str → Option Value} {x qual fld : Str} {st : Stmt} (e : fnQ K (iAd x K) = (XD.val ⟨x, qual, fld, defArgs st, defBody st, defScope st⟩))
    (c : (XD.mk x qual fld (defArgs st) (defBody st) (defScope st)).ok P.main.file K = true) (g : mg x = some (.ref (ga K x))) (sg : mg "super" = none) (top : (P.main.scope.names.lookup ("super" : Str)).isSome = false)
    (bd : ∃ (ar : Arg) (prm : Str) (body : List Stmt), XBody st qual fld ar prm body) : XTxt P K mg x qual fld st (ga K x) := by
  obtain ⟨c1, c⟩ := ba c
  obtain ⟨c2, c⟩ := ba c
  obtain ⟨c3, c⟩ := ba c
  obtain ⟨c4, c⟩ := ba c
  obtain ⟨c5, c⟩ := ba c
  obtain ⟨c6, c⟩ := ba c
  obtain ⟨c7, c⟩ := ba c
  obtain ⟨c8, c⟩ := ba c
  obtain ⟨c9, c⟩ := ba c
  obtain ⟨c10, c⟩ := ba c
  obtain ⟨c11, c⟩ := ba c
  obtain ⟨c12, c⟩ := ba c
  obtain ⟨c13, c⟩ := ba c
  obtain ⟨c14, c⟩ := ba c
  obtain ⟨c15, c16⟩ := ba c
  refine ⟨g, ⟨oexB_ok c1, eqO_ok c2, of_decide_eq_true c3, eqV_ok c4, c5⟩, eqO_ok c6, eqO_ok c7, c8, eqO_ok c9, of_decide_eq_true c10, of_decide_eq_true c11, eqO_ok c12, eqO_ok c13, sg, top, bd, ?_⟩
  dsimp only at c14 c15 c16
  unfold xfnB at c16
  unfold fnQ at e
  cases q : K.lookup (iAd x K) with
  | none => rw [q] at c16; cases c16
  | some o =>
    obtain ⟨oc, od, dt, osl⟩ := o
    rw [q] at c16 e
    cases dt with
    | func fd =>
      obtain ⟨n1, n2, n3, n4, n5, n6, n7, n8, n9, n10, n11, n12, n13, n14, n15⟩ := fd
      have e2 : (some (n1, n2, n3, n4, n5, n6, n15) : FnQ) = some (("__init__" : Str), qual, defArgs st, FuncBody.stmts (defBody st), defScope st, mainGlobals, builtinsNs) := e
      simp only [Option.some.injEq, Prod.mk.injEq] at e2
      obtain ⟨h1, h2, h3, h4, h5, h6, h8⟩ := e2
      subst h1 h2 h3 h4 h5 h6 h8
      obtain ⟨k1, k2⟩ := ba c16
      obtain ⟨k3, k4⟩ := ba k2
      dsimp only at k1 k3 k4
      obtain ⟨cc, cl, cld, csl, ec, hcc⟩ := closB_ok k1
      subst ec
      cases n8 with
      | none =>
        cases n13 with
        | ref cda =>
          obtain ⟨k7, k8⟩ := ba k4
          obtain ⟨ccl, cdd, vs, ccs, f, tf, hcd, hv, hf⟩ := fldsB_ok k8
          exact ⟨iAd x K, cc, cda, oc, od, n9, n10, n11, n14, n12, osl, ccl, cl, cdd, cld, vs, ccs, csl, f, tf, eqO_ok c14, eqV_ok c15, q, k7, hcc, hcd, hv, hf⟩
        | _ => cases k4
      | _ => cases k3
    | _ => cases c16
/-! ### further tests -/
def insB (x : Str) (K : PySem.W.Frag) : Bool := (Fa.cls x).ok K && (eqO (PySem.W.findIn K (.ref (ga K x)) "__class__") (some (some (.builtin "object.__class__"))) && (eqO (PySem.W.specialIn K (.builtin "object.__class__") "__get__") (some (some (.builtin "getset_descriptor.__get__"))) &&
  (decide (PySem.W.takesIn K (.builtin "object.__class__") = some true) && decide (PySem.W.mroIn K (ga K x) (.type "object") = some true))))
theorem insB_ok {K : PySem.W.Frag} {x : Str} (h : insB x K = true) : TR.InsF K (ga K x) := by
  obtain ⟨h1, h⟩ := ba h
  obtain ⟨h2, h⟩ := ba h
  obtain ⟨h3, h⟩ := ba h
  obtain ⟨h4, h5⟩ := ba h
  exact ⟨cls_ok h1, eqO_ok h2, eqO_ok h3, of_decide_eq_true h4, of_decide_eq_true h5⟩
def rdB (x : Str) (K : PySem.W.Frag) : Bool := PySem.W.readsIn K (ga K x) (.type "type") && eqO (PySem.W.specialIn K (.ref (ga K x)) "__getattribute__") (some (some (.builtin "type.__getattribute__")))
theorem rdB_ok {K : PySem.W.Frag} {x : Str} (h : rdB x K = true) : ClX.CRead K (ga K x) (.type "type") := by
  obtain ⟨h1, h2⟩ := ba h
  exact ⟨h1, eqO_ok h2⟩
/-- x.f is the constant v -/
def ccB (x f : Str) (v : V) (K : PySem.W.Frag) : Bool := rdB x K && (match PySem.W.findCls K (.ref (ga K x)) (.type "type") f with
  | some (.val u) => relB v u
  | _ => false)
theorem ccB_ok {K : PySem.W.Frag} {x f : Str} {v : V} (h : ccB x f v K = true) : CcF K (ga K x) f v := by
  obtain ⟨h1, h2⟩ := ba h
  split at h2
  · rename_i u e
    exact ⟨_, u, rdB_ok h1, e, relB_ok h2⟩
  · cases h2
/-- the def of the staticmethod x.m -/
def sAd (x m : Str) (K : PySem.W.Frag) : Addr := match PySem.W.findIn K (.ref (ga K x)) m with
  | some (some (.ref p)) => (match PySem.W.recIn K p "staticmethod" with
    | some (.ref g :: _) => g
    | _ => 0)
  | _ => 0
def stB (x m : Str) (K : PySem.W.Frag) : Bool := rdB x K && (match PySem.W.findCls K (.ref (ga K x)) (.type "type") m with
  | some (.get (.builtin b) (.ref p) .none (.ref C)) => decide (b = "staticmethod.__get__") && (decide (C = ga K x) && (PySem.W.keepIn K (.ref (sAd x m K)) && (match PySem.W.recIn K p "staticmethod" with
    | some (.ref g :: _) => decide (g = sAd x m K)
    | _ => false)))
  | _ => false)
theorem stB_ok {K : PySem.W.Frag} {x m qual : Str} {st : Stmt} (h : stB x m K = true) (F : ∃ fd, FunD K m qual (defArgs st) (defBody st) (defScope st) [] [] (sAd x m K) fd) : StF K (ga K x) m qual st := by
  obtain ⟨h1, h2⟩ := ba h
  obtain ⟨fd, F⟩ := F
  split at h2
  · rename_i b p C e
    obtain ⟨h3, h4⟩ := ba h2
    obtain ⟨h5, h6⟩ := ba h4
    obtain ⟨h7, h8⟩ := ba h6
    have e3 : b = "staticmethod.__get__" := of_decide_eq_true h3
    have e5 : C = ga K x := of_decide_eq_true h5
    subst e3 e5
    split at h8
    · rename_i g rest e8
      have e9 : g = sAd x m K := of_decide_eq_true h8
      subst e9
      exact ⟨_, p, _, fd, rdB_ok h1, ⟨e, ⟨rest, e8⟩, h7⟩, F⟩
    · cases h8
  · cases h2
def exkB (x y : Str) (K : PySem.W.Frag) : Bool := eqO (PySem.W.findIn K (.ref (ga K x)) "__getattribute__") (some (some (.builtin "BaseException.__getattribute__"))) && (eqO (PySem.W.findIn K (.ref (ga K x)) "__getattr__") (some none) && (decide (PySem.W.subIn K (.ref (ga K x)) (.type "BaseException") = some true) &&
  (PySem.W.hasDictIn K (ga K x) && (eqO (PySem.W.findIn K (.ref (ga K x)) "__class__") (some (some (.builtin "object.__class__"))) && (eqO (PySem.W.specialIn K (.builtin "object.__class__") "__get__") (some (some (.builtin "getset_descriptor.__get__"))) &&
  (decide (PySem.W.takesIn K (.builtin "object.__class__") = some true) && (decide (PySem.W.mroIn K (ga K x) (.type "object") = some true) && decide (PySem.W.kitOne K (.ref (ga K x)) (.ref (ga K y)) = some true))))))))
theorem exkB_ok {K : PySem.W.Frag} {mg : Str → Option Value} {x y : Str} (h : exkB x y K = true) : TR.XIs K mg (ga K x) (ga K y) := by
  obtain ⟨h1, h⟩ := ba h
  obtain ⟨h2, h⟩ := ba h
  obtain ⟨h3, h⟩ := ba h
  obtain ⟨h4, h⟩ := ba h
  obtain ⟨h5, h⟩ := ba h
  obtain ⟨h6, h⟩ := ba h
  obtain ⟨h7, h⟩ := ba h
  obtain ⟨h8, h9⟩ := ba h
  exact ⟨⟨eqO_ok h1, eqO_ok h2, of_decide_eq_true h3, h4, eqO_ok h5, eqO_ok h6, of_decide_eq_true h7, of_decide_eq_true h8⟩, of_decide_eq_true h9⟩
/-! ### the Hook -/
abbrev AlX : Type := Bool × List FnQ
section
variable (ks : List Str) (file : Str) (fa : List Fa) (fn : List DX) (ex : List XD) (cs : List (PySem.W.Frag → Bool))
def obsX (K : PySem.W.Frag) : AlX := ((fa.all fun f => f.ok K) && ((fn.all fun d => d.ok K) && ((ex.all fun d => d.ok file K) && cs.all fun c => c K)), (fn.map fun d => fnQ K (d.ad K)) ++ ex.map fun d => fnQ K (iAd d.x K))
def valX : AlX := (true, fn.map DX.val ++ ex.map XD.val)
def SaysX (K : PySem.W.Frag) : Prop := obsX file fa fn ex cs K = valX fn ex
def obsXG (n : Nat) (g : Addr → Option Obj) : AlX := obsX file fa fn ex cs (frG g (asP ks g n))
def hookX (n : Nat) : PySem.W.Hook where
  α := AlX
  obs := fun s => obsXG ks file fa fn ex cs n s.heap.get?
  val := fun _ => valX fn ex
  says := fun _ h => ∃ K : PySem.W.Frag, K.In h ∧ SaysX file fa fn ex cs K
  of := fun _ _ e => ⟨_, frG_in, e⟩
  keeps := fun _ _ _ ⟨K, hK, c⟩ k => ⟨K, PySem.W.Frag.In.keeps hK k, c⟩
end
section
variable {file : Str} {fa : List Fa} {fn : List DX} {ex : List XD} {cs : List (PySem.W.Frag → Bool)}
theorem obsXG_eq {ks : List Str} {n : Nat} {g : Addr → Option Obj} {s : Shared} (h : ∀ a, g a = s.heap.get? a) : obsXG ks file fa fn ex cs n g = (hookX ks file fa fn ex cs n).obs s := by
  have e : g = s.heap.get? := funext h
  rw [e] <;> rfl
variable {K : PySem.W.Frag}
theorem SaysX.b (c : SaysX file fa fn ex cs K) : ((fa.all fun f => f.ok K) && ((fn.all fun d => d.ok K) && ((ex.all fun d => d.ok file K) && cs.all fun c => c K))) = true := congrArg (fun z : AlX => z.1) c
theorem SaysX.fact (c : SaysX file fa fn ex cs K) {f : Fa} (i : Nat) (h : fa[i]? = some f := by rfl) : f.ok K = true := List.all_eq_true.mp (ba c.b).1 f (List.mem_of_getElem? h)
theorem SaysX.test (c : SaysX file fa fn ex cs K) {f : PySem.W.Frag → Bool} (i : Nat) (h : cs[i]? = some f := by rfl) : f K = true := List.all_eq_true.mp (ba (ba (ba c.b).2).2).2 f (List.mem_of_getElem? h)
theorem SaysX.vals (c : SaysX file fa fn ex cs K) : (fn.map fun d => fnQ K (d.ad K)) = fn.map DX.val ∧ (ex.map fun d => fnQ K (iAd d.x K)) = ex.map XD.val :=
  List.append_inj (congrArg (fun z : AlX => z.2) c) (by simp)
theorem SaysX.def_ (c : SaysX file fa fn ex cs K) {d : DX} (i : Nat) (h : fn[i]? = some d := by rfl) : ∃ fd, FunD K d.name d.qual d.params d.body d.scope (d.dfl.map (Dv.v K)) [] (d.ad K) fd := by
  have e2 : (fn.map fun d => fnQ K (d.ad K))[i]? = (fn.map DX.val)[i]? := by rw [c.vals.1]
  rw [List.getElem?_map, List.getElem?_map, h] at e2
  exact DX.funD (Option.some.inj e2) (List.all_eq_true.mp (ba (ba c.b).2).1 d (List.mem_of_getElem? h))
theorem SaysX.exc (c : SaysX file fa fn ex cs K) {d : XD} (i : Nat) (h : ex[i]? = some d := by rfl) : fnQ K (iAd d.x K) = d.val ∧ d.ok file K = true := by
  have e2 : (ex.map fun d => fnQ K (iAd d.x K))[i]? = (ex.map XD.val)[i]? := by rw [c.vals.2]
  rw [List.getElem?_map, List.getElem?_map, h] at e2
  exact ⟨Option.some.inj e2, List.all_eq_true.mp (ba (ba (ba c.b).2).2).1 d (List.mem_of_getElem? h)⟩
end
end HX

/-! part B7 -/
namespace TR
open PySem PySem.Spec PyProof.Rows L2 G
structure LGood (ks : Kinds) (st : List Str) (x : LArr) : Prop where
  one : x.one ∈ st
  other : x.other ∈ st
  name : (ks.lookup x.name).isSome = true
def StP (st : List Str) (m : Nat) : Prop := st.length = m ∧ ∀ (j : Nat) (z : Str), st[j]? = some z → IdP (20 + j) z
theorem StP.snoc {st : List Str} {m : Nat} {z : Str} (h : StP st m) (hz : IdP (20 + m) z) : StP (st ++ [z]) (m + 1) := by
  refine ⟨by simp [h.1], fun j q hq => ?_⟩
  by_cases hj : j < st.length
  · rw [List.getElem?_append_left hj] at hq
    exact h.2 j q hq
  · have : j = m := by
      have := (List.getElem?_eq_some_iff.mp hq).1
      simp at this
      have := h.1
      omega
    subst this
    rw [List.getElem?_append_right (by omega), h.1] at hq
    simp at hq
    subst hq
    exact hz
theorem look_mem {ks : Kinds} {p : Str × Int} (h : p ∈ ks) : (ks.lookup p.1).isSome = true := by
  cases q : ks.lookup p.1 with
  | some _ => rfl
  | none =>
    exfalso
    induction ks with
    | nil => cases h
    | cons a r ih =>
      rw [List.lookup_cons] at q
      by_cases e : p.1 = a.1
      · rw [show (p.1 == a.1) = true by simp [e]] at q; cases q
      · rw [show (p.1 == a.1) = false by simp [e]] at q
        rcases List.mem_cons.mp h with h | h
        · exact e (by rw [h])
        · exact ih h q
section
variable {P : Program} {w : World} {K : PySem.W.Frag} {mg : Str → Option Value} {base : Heap}
abbrev s_w_plan : Stmt := top 50
abbrev N_w_plan : List Str := ["_law_bag_here", "_law_kinds_here", "_law_many", "_law_arrows", "_law_stations", "_law_k", "_law_found", "_law_parts", "_law_pick", "_law_one", "_law_other"]
abbrev P_w_plan : List Str := ["_law_bag_here", "_law_kinds_here", "_law_many", "_law_arrows"]
theorem sc_w_plan : FnScope N_w_plan P_w_plan (defScope s_w_plan) := ⟨rfl, rfl, rfl, by decide +kernel, rfl, by decide +kernel, by decide +kernel⟩
theorem bn_w_plan : BindsNo "_law_plan" "_law_plan" s_w_plan P_w_plan := fun _ _ _ _ _ _ us hl => match us, hl with | [_, _, _, _], _ => rfl
def sp_wplan : Sp := fun vs H Q _ => ∃ (F : Hp) (b : Addr) (n : Nat) (ks : Kinds) (kv : V) (many arrows : Nat), vs = [.ref b, kv, .int many, .int arrows] ∧ Same F H ∧ F b = none ∧ BagIn F b n H ∧ RPairs.rel ks kv F ∧ KOk ks ∧ 0 < many ∧ many ≤ 4 ∧ arrows ≤ 5 ∧ n < 1000000 ∧
  ∀ (F' H' : Hp) (a ls lf : Addr) (as : List V) (st : List Str) (la : List LArr), Pb b F H F' H' → BagIn F' b (n + 200) H' → F' a = some (.tup [.ref ls, .ref lf]) → F' ls = some (.lst (st.map V.str)) → F' lf = some (.lst as) → Paired (fun d x => RLArr.rel d x F') la as →
    StP st many → la.length = arrows → (∀ x ∈ la, LGood ks st x) → Q (.ref a) H'
theorem ok_wplan (B : Bt mg) (c_w_draw : Cal P w K mg base 1 "_law_draw" sp_draw) (c_w_ident : Cal P w K mg base 2 "_law_ident" sp_ident) (F : FnF K mg "_law_plan" s_w_plan []) : Cal P w K mg base 3 "_law_plan" sp_wplan := by
  refine F.cal sc_w_plan bn_w_plan (fun vs H Q E h => ?_) (fun f cdv A outer s H vs Q E hr h => ?_)
  · obtain ⟨_, _, _, _, _, _, _, rfl, _⟩ := h
    rfl
  · obtain ⟨F, b, n, ks, kv, many, arrows, rfl, sF, fb, g, ⟨ka, kps, rfl, hka, kpd⟩, ok, hm0, hm, ha, hn, kk⟩ := h
    refine ⟨_, (pss_cons (ps_setLc (i := 4) (own := [("_law_k", 5)]) rfl sc_w_plan.nd rfl rfl (sw_true rfl rfl rfl (by decide +kernel)) (pi_range1 (by rfl) B.range (pa_cons (pv 2) pa_nil)) (blkOk_by (N := N_w_plan) (sc := defScope s_w_plan) (by decide +kernel)) (fun _ _ _ _ _ => (pg_name (i := 5) sc_w_plan.nd rfl (Or.inl rfl))) (fun _ _ _ _ _ => pts_nil) (fun _ _ _ _ _ => (pe_c c_w_ident hr (by decide) (pa_cons (pv 0) (pa_cons (pe_op op_addU pe_int (pv 5)) pa_nil)) passL)))
    (pss_cons (ps_set (i := 6) sc_w_plan.nd rfl (Or.inl rfl) (pe_lst pa_nil))
    (pss_cons (ps_for (passes_of rfl) rfl (pi_range1 (by rfl) B.range (pa_cons (pv 3) pa_nil)) (pg_name (i := 5) sc_w_plan.nd rfl (Or.inl rfl))
    (pss_cons (ps_set (i := 7) sc_w_plan.nd rfl (Or.inl rfl) (pe_lst (pa_cons (pe_tup (pa_cons (pe_op op_sub (pe_c c_w_draw hr (by decide) (pa_cons (pv 0) (pa_cons pe_int pa_nil)) passL) pe_int) (pa_cons pe_int pa_nil))) pa_nil)))
    (pss_cons (ps_set (i := 8) sc_w_plan.nd rfl (Or.inl rfl) (pe_c c_w_draw hr (by decide) (pa_cons (pv 0) (pa_cons pe_int pa_nil)) passL))
    (pss_cons (ps_if (pt_cmpR (op_eqU hr (K := K)) (pv 8) pe_int (nomark _)) (pss_one (ps_set (i := 7) sc_w_plan.nd rfl (Or.inl rfl) (pe_lst (pa_cons (pe_tup (pa_cons (pe_op op_sub (pe_c c_w_draw hr (by decide) (pa_cons (pv 0) (pa_cons pe_int pa_nil)) passL) pe_int) (pa_cons (pe_op op_addU pe_int (pe_c c_w_draw hr (by decide) (pa_cons (pv 0) (pa_cons pe_int pa_nil)) passL)) pa_nil))) pa_nil)))) pss_nil)
    (pss_cons (ps_if (pt_cmpR (op_eqU hr (K := K)) (pv 8) pe_int (nomark _)) (pss_one (ps_set (i := 7) sc_w_plan.nd rfl (Or.inl rfl) (pe_op op_addU (pv 7) (pe_lst (pa_cons (pe_tup (pa_cons (pe_op op_sub (pe_c c_w_draw hr (by decide) (pa_cons (pv 0) (pa_cons pe_int pa_nil)) passL) pe_int) (pa_cons (pe_ix (k_ix (K := K)) (pe_lst (pa_cons pe_int (pa_cons pe_int (pa_cons pe_int (pa_cons pe_int pa_nil))))) (pe_c c_w_draw hr (by decide) (pa_cons (pv 0) (pa_cons pe_int pa_nil)) passL) (fun _ _ => rfl)) pa_nil))) pa_nil))))) pss_nil)
    (pss_cons (ps_if (PW.pt (pw_and (pt_cmpR (op_eqU hr (K := K)) (pv 8) pe_int (nomark _)) (pw_and1 (pt_cmpR (op_eqU hr (K := K)) (pe_c c_w_draw hr (by decide) (pa_cons (pv 0) (pa_cons pe_int pa_nil)) passL) pe_int (nomark _))))) (pss_one (ps_set (i := 7) sc_w_plan.nd rfl (Or.inl rfl) (pe_lst pa_nil))) pss_nil)
    (pss_cons (ps_par (i := 9) (j := 10) (by rfl) sc_w_plan.nd rfl rfl (by decide) rfl rfl (pa_cons (pe_ix (k_ix (K := K)) (pv 4) (pe_c c_w_draw hr (by decide) (pa_cons (pv 0) (pa_cons (pv 2) pa_nil)) passL) (fun _ _ => rfl)) (pa_cons (pe_ix (k_ix (K := K)) (pv 4) (pe_c c_w_draw hr (by decide) (pa_cons (pv 0) (pa_cons (pv 2) pa_nil)) passL) (fun _ _ => rfl)) pa_nil)) (by rfl))
    (pss_one (ps_expr (pe_bm PySem.F.plainAttrs_list PySem.F.slot_list_append PySem.F.type_list_append mt_append (pv 6) (pa_cons (pe_tup (pa_cons (pv 9) (pa_cons (pe_ix (k_ix (K := K)) (pe_ix (k_ix (K := K)) (pv 1) (pe_c c_w_draw hr (by decide) (pa_cons (pv 0) (pa_cons (pe_callB (call_lenU (K := K)) (by rfl) B.len (by decide +kernel) (pa_cons (pv 1) pa_nil)) pa_nil)) passL) (fun _ _ => rfl)) pe_int (fun _ _ => rfl)) (pa_cons (pv 7) (pa_cons (pv 10) pa_nil))))) pa_nil)))))))))))
    (pss_one (ps_ret (pe_tup (pa_cons (pv 4) (pa_cons (pv 6) pa_nil)))))))), ?_⟩
    have w0 : Bw b F H F H n [] := Bw.nil sF fb g
    -- stations
    refine ⟨_, rfl, many, rfl, by omega, by omega, fun D hD => ?_⟩
    refine go_lcB (walk_range (lo := 0) (n := (many : Int).toNat)) w0 hD Rp.str 3 (fun i ds => StP ds i) (by omega) ⟨rfl, fun j p h => by simp at h⟩ (fun _ _ _ _ _ _ => trivial) (fun i x ds F1 H1 l H' N hi w1 s1 _ hp y kt kf => ?_) (fun st F1 H1 ys w1 s1 pd hp => ?_)
    · obtain ⟨rfl, hx⟩ := y
      replace hx : x = .int (i : Nat) := by
        rw [hx]
        show V.int (0 + (i : Int)) = _
        rw [Int.zero_add]
      subst hx
      refine ⟨rfl, _, rfl, _, rfl, .inl ⟨_, _, rfl, rfl, ?_⟩⟩
      rw [show (20 : Int) + ((i : Nat) : Int) = ((20 + i : Nat) : Int) by omega]
      refine ⟨F1, b, n + 3 * i, 20 + i, rfl, w1.sub, w1.fb, w1.bg, by omega, by omega, fun z H2 hz q2 g2 => ?_⟩
      exact kt (.str z) H2 F1 z ((w1.call q2 g2).le (by omega)) q2 rfl (hp.snoc hz)
    · rw [show (many : Int).toNat = many by omega] at w1 hp
      have e := pd_eq (f := V.str) (by exact pd)
      subst e
      have w2 := w1.fix 0
      have hst : upd F1 D (.lst (st.map V.str)) D = some (.lst (st.map V.str)) := upd_same
      have sFst : Same F (upd F1 D (.lst (st.map V.str))) := w2.ff
      generalize upd F1 D (.lst (st.map V.str)) = F2 at w2 hst sFst
      refine ⟨sz (n := 0) (by decide), fun L hL => ?_⟩
      have w3 := w2.new (o := .lst []) hL
      -- the arrows
      refine ⟨_, rfl, arrows, rfl, by omega, by omega, ?_⟩
      refine for_it (walk_range (lo := 0) (n := (arrows : Int).toNat)) (fun i σ H' => ∃ (F' : Hp) (x1 x2 x3 x4 x5 : Option V) (ys : List V) (la : List LArr), Bw b F H F' H' (n + 12 + 15 * i) [(L, .lst ys)] ∧ Same F2 F' ∧ Paired (fun d x => RLArr.rel d x F') la ys ∧ la.length = i ∧ (∀ x ∈ la, LGood ks st x) ∧
        σ = [some (.ref b), some (.ref ka), some (.int many), some (.int arrows), some (.ref D), x1, some (.ref L), x2, x3, x4, x5]) ⟨F2, none, none, none, none, none, [], [], w3.le (by omega), Same.refl _, .nil, rfl, (fun x h => by cases h), rfl⟩ (fun i σ H' _ _ => trivial) ?_ ?_
      · rintro i y σ H' H'' hi ⟨F3, x1, x2, x3, x4, x5, ys, la, w4, s4, pdl, hll, hlg, rfl⟩ ⟨e1, hx⟩
        subst e1
        replace hx : y = .int (i : Nat) := by
          rw [hx]
          show V.int (0 + (i : Int)) = _
          rw [Int.zero_add]
        subst hx
        have hi5 : i < 5 := by omega
        have one_part : ∀ {F5 : Hp} {p l : Addr} {x m : Int}, upd F5 p (.tup [.int x, .int m]) l = none → RCls.rel [(x, m)] (.ref l) (upd (upd F5 p (.tup [.int x, .int m])) l (.lst [.ref p])) := fun {F5 p l x m} hl =>
          ⟨l, [.ref p], rfl, upd_same, .cons ⟨p, _, _, rfl, look_new upd_same hl, rfl, rfl⟩ .nil⟩
        refine ⟨_, rfl, F3, b, _, 9, rfl, w4.sub, w4.fb, w4.bg, by decide, by decide, by omega, fun d1 H1 _ _ q1 g1 => ⟨_, _, rfl, rfl, sz (n := 2) (by decide), fun p1 hp1 => ⟨sz (n := 1) (by decide), fun l1 hl1 => ?_⟩⟩⟩
        have w5 := w4.call q1 g1
        have w6 := w5.add (o := .tup [.int (d1 - 4), .int 0]) hp1
        have w7 := w6.add (o := .lst [.ref p1]) hl1
        have r7 := one_part (F5 := F3) (w6.sub.free hl1)
        have s7 : Same F3 (upd (upd F3 p1 (.tup [.int (d1 - 4), .int 0])) l1 (.lst [.ref p1])) := (Same.new (w5.sub.free hp1)).trans (Same.new (w6.sub.free hl1))
        generalize upd (upd F3 p1 (.tup [.int (d1 - 4), .int 0])) l1 (.lst [.ref p1]) = F7 at w7 r7 s7
        refine ⟨_, rfl, F7, b, _, 6, rfl, w7.sub, w7.fb, w7.bg, by decide, by decide, by omega, fun pick H2 pk0 pk1 q2 g2 => ?_⟩
        have w8 := w7.call q2 g2
        dsimp only
        refine sj (R := fun σ2 H2 => ∃ (F5 : Hp) (lp : Addr) (parts : Classes), Bw b F H F5 H2 (n + 12 + 15 * i + 4) [(L, .lst ys)] ∧ Same F3 F5 ∧ RCls.rel parts (.ref lp) F5 ∧ (∀ c ∈ parts, 0 ≤ c.2) ∧ parts.length ≤ 1 ∧ σ2 = [some (.ref b), some (.ref ka), some (.int many), some (.int arrows), some (.ref D), some (.int (i : Nat)), some (.ref L), some (.ref lp), some (.int pick), x4, x5]) ?_ (fun go1 => ?_)
        · rintro σ2 H2 ⟨F5, lp, parts, w9, s9, r9, pos9, len9, rfl⟩
          refine sj (R := fun σ2 H2 => ∃ (F5 : Hp) (lp : Addr) (parts : Classes), Bw b F H F5 H2 (n + 12 + 15 * i + 6) [(L, .lst ys)] ∧ Same F3 F5 ∧ RCls.rel parts (.ref lp) F5 ∧ (∀ c ∈ parts, 0 ≤ c.2) ∧ parts.length ≤ 2 ∧ σ2 = [some (.ref b), some (.ref ka), some (.int many), some (.int arrows), some (.ref D), some (.int (i : Nat)), some (.ref L), some (.ref lp), some (.int pick), x4, x5]) ?_ (fun go2 => ?_)
          · rintro σ2 H2 ⟨F5, lp, parts, w9, s9, r9, pos9, len9, rfl⟩
            refine sj (R := fun σ2 H2 => ∃ (F5 : Hp) (lp : Addr) (parts : Classes), Bw b F H F5 H2 (n + 12 + 15 * i + 7) [(L, .lst ys)] ∧ Same F3 F5 ∧ RCls.rel parts (.ref lp) F5 ∧ (∀ c ∈ parts, 0 ≤ c.2) ∧ parts.length ≤ 2 ∧ σ2 = [some (.ref b), some (.ref ka), some (.int many), some (.int arrows), some (.ref D), some (.int (i : Nat)), some (.ref L), some (.ref lp), some (.int pick), x4, x5]) ?_ (fun go3 => ?_)
            · rintro σ2 H2 ⟨F5, lp, parts, w9, s9, r9, pos9, len9, rfl⟩
              have hstl : st.length = many := hp.1
              have stat : ∀ (d : Int), 0 ≤ d → d < many → ∃ z, z ∈ st ∧ (st.map V.str)[d.toNat]? = some (.str z) := fun d h0 h1 => by
                have : d.toNat < st.length := by omega
                exact ⟨st[d.toNat], List.getElem_mem this, by rw [List.getElem?_map, List.getElem?_eq_getElem this]; rfl⟩
              have hsq : ∀ {H : Hp}, Same F5 H → SqL K H D (st.map V.str) := fun s => SqL.of (s _ _ (s9 _ _ (s4 _ _ hst)))
              -- one, other
              refine ⟨_, rfl, _, rfl, _, rfl, F5, b, _, many, rfl, w9.sub, w9.fb, w9.bg, by omega, by omega, by omega, fun e1 H3 e10 e11 q3 g3 => ?_⟩
              have w10 := w9.call q3 g3
              obtain ⟨z1, hz1, hz1'⟩ := stat e1 e10 e11
              refine .inl ⟨D, _, e1, _, rfl, rfl, hsq w10.sub, atI_int e10 hz1', ?_⟩
              refine ⟨_, rfl, _, rfl, _, rfl, F5, b, _, many, rfl, w10.sub, w10.fb, w10.bg, by omega, by omega, by omega, fun e2 H4 e20 e21 q4 g4 => ?_⟩
              have w11 := w10.call q4 g4
              obtain ⟨z2, hz2, hz2'⟩ := stat e2 e20 e21
              refine .inl ⟨D, _, e2, _, rfl, rfl, hsq w11.sub, atI_int e20 hz2', _, _, rfl, ?_⟩
              -- found.append(..)
              refine ⟨_, rfl, .inl ⟨rfl, _, SqL.of (w11.at 0)⟩, _, rfl, _, rfl, _, rfl, _, rfl, .inl ⟨ka, _, rfl, .inl (SqL.of (w11.sub _ _ (w11.ff _ _ hka))), ?_⟩⟩
              have hkl : kps.length = ks.length := pd_len kpd
              have := ok.pos
              have := ok.le
              refine ⟨F5, b, _, kps.length, rfl, w11.sub, w11.fb, w11.bg, by omega, by omega, by omega, fun e3 H5 e30 e31 q5 g5 => ?_⟩
              have w12 := w11.call q5 g5
              have hlt : e3.toNat < ks.length := by omega
              obtain ⟨kv, hkv, ra, y1, y2, rfl, hra, rfl, rfl⟩ := pd_get' kpd (List.getElem?_eq_getElem hlt)
              refine .inl ⟨ka, _, e3, _, rfl, rfl, SqL.of (w12.sub _ _ (w12.ff _ _ hka)), atI_int e30 hkv, ?_⟩
              refine .inr (.inl ⟨ra, _, 0, _, rfl, rfl, SqT.of (w12.sub _ _ (w12.ff _ _ hra)), atI_nat rfl, ?_⟩)
              refine ⟨_, rfl, _, rfl, sz (n := 4) (by decide), fun u hu => ?_⟩
              have w13 := w12.add (o := .tup [.str z1, .str ks[e3.toNat].1, .ref lp, .str z2]) hu
              have hyl : ys.length = la.length := pd_len pdl
              refine ⟨L, ys, _, rfl, rfl, w13.at 0, szl (by omega), ?_⟩
              have w14 := w13.mut (o' := .lst (ys ++ [.ref u])) 0
              have su := Same.new (o := .tup [.str z1, .str ks[e3.toNat].1, .ref lp, .str z2]) (w12.sub.free hu)
              refine ⟨_, _, _, _, _, _, _, la ++ [⟨z1, ks[e3.toNat].1, parts, z2⟩], w14.le (by omega), s4.trans (s9.trans su), pd_snoc (pd_mono (fun _ _ => RLArr.mono (s9.trans su)) pdl) ⟨u, .ref lp, rfl, upd_same, RCls.mono su r9, pos9, by show parts.length ≤ 10; omega⟩, by simp [hll], fun x hx => ?_, rfl⟩
              rcases List.mem_append.mp hx with h | h
              · exact hlg x h
              · rw [List.mem_singleton.mp h]
                exact ⟨hz1, hz2, look_mem (List.getElem_mem hlt)⟩
            · refine ⟨_, rfl, .inl ⟨rfl, _, rfl, ?_⟩⟩
              by_cases hpk : pick = 2
              · rw [decide_eq_true (congrArg V.int hpk)]
                refine iteT ⟨_, rfl, F5, b, _, 3, rfl, w9.sub, w9.fb, w9.bg, by decide, by decide, by omega, fun e1 H3 e10 e11 q3 g3 => ?_⟩
                have w10 := w9.call q3 g3
                refine .inl ⟨rfl, _, rfl, ?_⟩
                by_cases he : e1 = 0
                · rw [decide_eq_true (congrArg V.int he)]
                  refine iteT ⟨sz (n := 0) (by decide), fun l hl => ?_⟩
                  have w11 := w10.add (o := .lst []) hl
                  exact go3 _ _ ⟨_, l, [], w11, s9.trans (Same.new (w10.sub.free hl)), ⟨l, [], rfl, upd_same, .nil⟩, (fun c h => by cases h), by decide, rfl⟩
                · rw [decide_eq_false (fun q => he (V.int.inj q))]
                  exact iteF (go3 _ _ ⟨_, lp, parts, w10, s9, r9, pos9, len9, rfl⟩)
              · rw [decide_eq_false (fun q => hpk (V.int.inj q))]
                exact iteF (go3 _ _ ⟨_, lp, parts, w9.le (by omega), s9, r9, pos9, len9, rfl⟩)
          · refine ⟨_, rfl, .inl ⟨rfl, _, rfl, ?_⟩⟩
            by_cases hpk : pick = 1
            · rw [decide_eq_true (congrArg V.int hpk)]
              obtain ⟨lq, xs, elq, hxs, pdx⟩ := id r9
              cases elq
              refine ⟨_, rfl, _, rfl, F5, b, _, 9, rfl, w9.sub, w9.fb, w9.bg, by decide, by decide, by omega, fun e1 H3 e10 e11 q3 g3 => ⟨_, _, rfl, rfl, ?_⟩⟩
              have w10 := w9.call q3 g3
              refine ⟨sz (n := 4) (by decide), fun t ht => ?_⟩
              have w11 := w10.tmp (Same.new (o := .lst [.int 0, .int 0, .int 2, .int 6]) ht)
              refine ⟨_, rfl, F5, b, _, 4, rfl, w11.sub, w11.fb, w11.bg, by decide, by decide, by omega, fun e2 H4 e20 e21 q4 g4 => ?_⟩
              have w12 := w11.call q4 g4
              have ht4 : H4 t = some (.lst [.int 0, .int 0, .int 2, .int 6]) := q4.keep (w10.nb ht) upd_same
              obtain ⟨m, hm1, hm2⟩ : ∃ m : Int, ([V.int 0, .int 0, .int 2, .int 6])[e2.toNat]? = some (.int m) ∧ 0 ≤ m := by
                rcases (by omega : e2 = 0 ∨ e2 = 1 ∨ e2 = 2 ∨ e2 = 3) with h | h | h | h <;> subst h
                · exact ⟨0, rfl, by omega⟩
                · exact ⟨0, rfl, by omega⟩
                · exact ⟨2, rfl, by omega⟩
                · exact ⟨6, rfl, by omega⟩
              refine .inl ⟨t, _, e2, _, rfl, rfl, SqL.of ht4, atI_int e20 hm1, ?_⟩
              refine ⟨sz (n := 2) (by decide), fun p hp2 => ⟨sz (n := 1) (by decide), fun l hl => ?_⟩⟩
              have w13 := w12.add (o := .tup [.int (e1 - 4), .int m]) hp2
              have w14 := w13.tmp (Same.new (o := .lst [.ref p]) hl)
              have s13 := Same.new (o := .tup [.int (e1 - 4), .int m]) (w12.sub.free hp2)
              have hxl : xs.length = parts.length := pd_len pdx
              refine .inr (.inr ⟨lp, l, xs, [.ref p], rfl, rfl, w14.sub _ _ (s13 _ _ hxs), upd_same, sz (by show xs.length + 1 ≤ 100000; omega), fun q hq => ?_⟩)
              have w15 := w14.add (o := .lst (xs ++ [.ref p])) hq
              have s15 := Same.new (o := .lst (xs ++ [.ref p])) (w14.sub.free hq)
              refine go2 _ _ ⟨_, q, parts ++ [(e1 - 4, m)], w15.le (by omega), s9.trans (s13.trans s15), ⟨q, _, rfl, upd_same, pd_snoc (pd_mono (fun _ _ => RCl.mono (s13.trans s15)) pdx) ⟨p, _, _, rfl, s15 _ _ upd_same, rfl, rfl⟩⟩, fun c hc => ?_, by simp; omega, rfl⟩
              rcases List.mem_append.mp hc with h | h
              · exact pos9 c h
              · rw [List.mem_singleton.mp h]; exact hm2
            · rw [decide_eq_false (fun q => hpk (V.int.inj q))]
              exact go2 _ _ ⟨_, lp, parts, w9.le (by omega), s9, r9, pos9, by omega, rfl⟩
        · refine ⟨_, rfl, .inl ⟨rfl, _, rfl, ?_⟩⟩
          by_cases hpk : pick = 0
          · rw [decide_eq_true (congrArg V.int hpk)]
            refine ⟨_, rfl, F7, b, _, 9, rfl, w8.sub, w8.fb, w8.bg, by decide, by decide, by omega, fun e1 H3 e10 e11 q3 g3 => ⟨_, _, rfl, rfl, ?_⟩⟩
            have w9 := w8.call q3 g3
            refine ⟨_, rfl, F7, b, _, 4, rfl, w9.sub, w9.fb, w9.bg, by decide, by decide, by omega, fun e2 H4 e20 e21 q4 g4 => .inl ⟨_, _, rfl, rfl, ?_⟩⟩
            have w10 := w9.call q4 g4
            refine ⟨sz (n := 2) (by decide), fun p hp2 => ⟨sz (n := 1) (by decide), fun l hl => ?_⟩⟩
            have w11 := w10.add (o := .tup [.int (e1 - 4), .int (1 + e2)]) hp2
            have w12 := w11.add (o := .lst [.ref p]) hl
            refine go1 _ _ ⟨_, l, [(e1 - 4, 1 + e2)], w12.le (by omega), s7.trans ((Same.new (w10.sub.free hp2)).trans (Same.new (w11.sub.free hl))), one_part (w11.sub.free hl), fun c hc => ?_, by simp, rfl⟩
            rw [List.mem_singleton.mp hc]
            show 0 ≤ 1 + e2
            omega
          · rw [decide_eq_false (fun q => hpk (V.int.inj q))]
            refine go1 _ _ ⟨_, l1, [(d1 - 4, 0)], w8.le (by omega), s7, r7, fun c hc => ?_, by simp, rfl⟩
            rw [List.mem_singleton.mp hc]
            show (0 : Int) ≤ 0
            omega
      · rintro σ H' ⟨F3, x1, x2, x3, x4, x5, ys, la, w4, s4, pdl, hll, hlg, rfl⟩
        rw [show (arrows : Int).toNat = arrows by omega] at w4 hll
        have w5 := w4.fix 0
        refine ⟨_, rfl, _, rfl, sz (n := 2) (by decide), fun u hu => ?_⟩
        have w6 := w5.add (o := .tup [.ref D, .ref L]) hu
        have su := Same.new (o := .tup [.ref D, .ref L]) (w5.sub.free hu)
        refine kk _ _ u D L ys st la w6.pb (w6.le (by omega)).bg upd_same (su _ _ ((w4.ext 0) _ _ (s4 _ _ hst))) (su _ _ upd_same) (pd_mono (fun _ _ => RLArr.mono ((w4.ext 0).trans su)) pdl) hp hll hlg
end
end TR

/-! part B8 -/
namespace TR
open PySem PySem.Spec PyProof.Rows L2 G
def clD (c : Int × Int) : PyData := .tuple [.int c.1, .int c.2]
theorem RDcl : RD RCl clD := RD.pair RD.int RD.int
def clsD (ds : List (Int × Int)) : PyData := .list (ds.map clD)
theorem cls_shaped (ds : List (Int × Int)) : SeqAt.shaped (clsD ds) = true :=
  shaped_of (lay_all fun d hd => rfl) (by
    show PyData.depthAll (ds.map clD) + 1 ≤ 64
    have := dep_all (f := clD) (n := 1) (ds := ds) fun d _ => Nat.le_refl 1
    omega)
theorem cls_eqv (ds : List (Int × Int)) : PyData.eqv (clsD ds) (.list []) = ds.isEmpty := by
  unfold clsD
  cases ds <;> simp only [List.map_nil, List.map_cons, PyData.eqv, PyData.eqvAll] <;> rfl
/-- ways: arrows that have members -/
def Ways (la : List LArr) (ws : List Int) : Prop := ∀ j ∈ ws, 0 ≤ j ∧ ∃ x, la[j.toNat]? = some x ∧ x.parts ≠ []
def wayT (la : List LArr) (here : Str) (j : Nat) : Bool := match la[j]? with
  | some x => decide (x.one = here) && !x.parts.isEmpty
  | none => false
def waysI (la : List LArr) (here : Str) (i : Nat) : List Int := ((List.range i).filter (wayT la here)).map fun j : Nat => (j : Int)
theorem ways_ok (la : List LArr) (here : Str) (i : Nat) : Ways la (waysI la here i) := by
  intro j hj
  obtain ⟨m, hm, rfl⟩ := List.mem_map.mp hj
  have h := (List.mem_filter.mp hm).2
  unfold wayT at h
  refine ⟨by omega, ?_⟩
  rw [Int.toNat_natCast]
  cases q : la[m]? with
  | none => rw [q] at h; cases h
  | some x =>
    rw [q] at h
    refine ⟨x, rfl, fun e => ?_⟩
    have h' : (decide (x.one = here) && !x.parts.isEmpty) = true := h
    rw [e] at h'
    simp at h'
theorem ways_len (la : List LArr) (here : Str) (i : Nat) : (waysI la here i).length ≤ i := by
  unfold waysI
  rw [List.length_map]
  have := List.length_filter_le (wayT la here) (List.range i)
  simpa using this
theorem ways_snoc {la : List LArr} {here : Str} {i : Nat} (h : wayT la here i = true) : waysI la here (i + 1) = waysI la here i ++ [(i : Int)] := by
  unfold waysI
  rw [List.range_succ, List.filter_append, List.map_append]
  simp [h]
theorem ways_skip {la : List LArr} {here : Str} {i : Nat} (h : wayT la here i = false) : waysI la here (i + 1) = waysI la here i := by
  unfold waysI
  rw [List.range_succ, List.filter_append, List.map_append]
  simp [h]
def lastT (la : List LArr) (e : Str) (j : Int) : Bool := match la[j.toNat]? with
  | some x => decide (x.other = e)
  | none => false
section
variable {P : Program} {w : World} {K : PySem.W.Frag} {mg : Str → Option Value} {base : Heap}
abbrev s_w_run : Stmt := top 53
abbrev N_w_run : List Str := ["_law_bag_here", "_law_arrows", "_law_begin", "_law_end", "_law_most", "_law_here", "_law_found", "_law_k", "_law_ways", "_law_at", "_law_members_here"]
abbrev P_w_run : List Str := ["_law_bag_here", "_law_arrows", "_law_begin", "_law_end", "_law_most"]
theorem sc_w_run : FnScope N_w_run P_w_run (defScope s_w_run) := ⟨rfl, rfl, rfl, by decide +kernel, rfl, by decide +kernel, by decide +kernel⟩
theorem bn_w_run : BindsNo "_law_run" "_law_run" s_w_run P_w_run := fun _ _ _ _ _ _ us hl => match us, hl with | [_, _, _, _, _], _ => rfl
def sp_wrun : Sp := fun vs H Q _ => ∃ (F : Hp) (b aa : Addr) (n : Nat) (as : List V) (la : List LArr) (bg e : Str) (most : Nat), vs = [.ref b, .ref aa, .str bg, .str e, .int most] ∧ Same F H ∧ F b = none ∧ BagIn F b n H ∧ F aa = some (.lst as) ∧ Paired (fun d x => RLArr.rel d x F) la as ∧ la.length ≤ 5 ∧ most ≤ 5 ∧ n < 10000000 ∧
  ∀ (F' H' : Hp) (r : V), Pb b F H F' H' → BagIn F' b (n + 30) H' → (r = .non ∨ ∃ rs, RCls.rel rs r F' ∧ rs.length ≤ 10) → Q r H'
theorem ok_wrun (B : Bt mg) (c_w_draw : Cal P w K mg base 1 "_law_draw" sp_draw) (c_w_members : Cal P w K mg base 1 "_law_members" sp_members) (F : FnF K mg "_law_run" s_w_run []) : Cal P w K mg base 2 "_law_run" sp_wrun := by
  refine F.cal sc_w_run bn_w_run (fun vs H Q E h => ?_) (fun f cdv A outer s H vs Q E hr h => ?_)
  · obtain ⟨_, _, _, _, _, _, _, _, _, rfl, _⟩ := h
    rfl
  · obtain ⟨F, b, aa, n, as, la, bg, e, most, rfl, sF, fb, g, haa, pda, hla, hmost, hn, kk⟩ := h
    have hal : as.length = la.length := pd_len pda
    refine ⟨_, (pss_cons (ps_set (i := 5) sc_w_run.nd rfl (Or.inr rfl) (pv 2))
    (pss_cons (ps_set (i := 6) sc_w_run.nd rfl (Or.inl rfl) (pe_lst pa_nil))
    (pss_cons (ps_for (passes_of rfl) rfl (pi_range1 (by rfl) B.range (pa_cons (pe_c c_w_draw hr (by decide) (pa_cons (pv 0) (pa_cons (pe_op op_addU (pv 4) pe_int) pa_nil)) passL) pa_nil)) (pg_name (i := 7) sc_w_run.nd rfl (Or.inl rfl))
    (pss_cons (ps_setLc (i := 8) (own := [("_law_at", 9)]) rfl sc_w_run.nd rfl rfl (sw_true rfl rfl rfl (by decide +kernel)) (pi_range1 (by rfl) B.range (pa_cons (pe_callB (call_lenU (K := K)) (by rfl) B.len (by decide +kernel) (pa_cons (pv 1) pa_nil)) pa_nil)) (blkOk_by (N := N_w_run) (sc := defScope s_w_run) (by decide +kernel)) (fun _ _ _ _ _ => (pg_name (i := 9) sc_w_run.nd rfl (Or.inl rfl))) (fun _ _ _ _ _ => (pts_one (PW.pt (pw_and (pt_cmpR (op_eqU hr (K := K)) (pe_ix (k_ix (K := K)) (pe_ix (k_ix (K := K)) (pv 1) (pv 9) (fun _ _ => rfl)) pe_int (fun _ _ => rfl)) (pv 5) (nomark _)) (pw_and1 (pt_cmpR (op_neU hr (K := K)) (pe_ix (k_ix (K := K)) (pe_ix (k_ix (K := K)) (pv 1) (pv 9) (fun _ _ => rfl)) pe_int (fun _ _ => rfl)) (pe_lst pa_nil) (nomark _))))))) (fun _ _ _ _ _ => (pv 9)))
    (pss_one (ps_if (pt_cmpR (op_neU hr (K := K)) (pv 8) (pe_lst pa_nil) (nomark _)) (pss_cons (ps_set (i := 9) sc_w_run.nd rfl (Or.inl rfl) (pe_ix (k_ix (K := K)) (pv 8) (pe_c c_w_draw hr (by decide) (pa_cons (pv 0) (pa_cons (pe_callB (call_lenU (K := K)) (by rfl) B.len (by decide +kernel) (pa_cons (pv 8) pa_nil)) pa_nil)) passL) (fun _ _ => rfl)))
    (pss_cons (ps_set (i := 10) sc_w_run.nd rfl (Or.inl rfl) (pe_c c_w_members hr (by decide) (pa_cons (pe_ix (k_ix (K := K)) (pe_ix (k_ix (K := K)) (pv 1) (pv 9) (fun _ _ => rfl)) pe_int (fun _ _ => rfl)) pa_nil) passL))
    (pss_cons (ps_expr (pe_bm PySem.F.plainAttrs_list PySem.F.slot_list_append PySem.F.type_list_append mt_append (pv 6) (pa_cons (pe_tup (pa_cons (pv 9) (pa_cons (pe_ix (k_ix (K := K)) (pv 10) (pe_c c_w_draw hr (by decide) (pa_cons (pv 0) (pa_cons (pe_callB (call_lenU (K := K)) (by rfl) B.len (by decide +kernel) (pa_cons (pv 10) pa_nil)) pa_nil)) passL) (fun _ _ => rfl)) pa_nil))) pa_nil)))
    (pss_one (ps_set (i := 5) sc_w_run.nd rfl (Or.inr rfl) (pe_ix (k_ix (K := K)) (pe_ix (k_ix (K := K)) (pv 1) (pv 9) (fun _ _ => rfl)) pe_int (fun _ _ => rfl))))))) pss_nil))))
    (pss_cons (ps_for (passes_of rfl) rfl (pi_range1 (by rfl) B.range (pa_cons (pv 4) pa_nil)) (pg_name (i := 7) sc_w_run.nd rfl (Or.inl rfl))
    (pss_one (ps_if (pt_cmpR (op_neU hr (K := K)) (pv 5) (pv 3) (nomark _)) (pss_cons (ps_setLc (i := 8) (own := [("_law_at", 9)]) rfl sc_w_run.nd rfl rfl (sw_true rfl rfl rfl (by decide +kernel)) (pi_range1 (by rfl) B.range (pa_cons (pe_callB (call_lenU (K := K)) (by rfl) B.len (by decide +kernel) (pa_cons (pv 1) pa_nil)) pa_nil)) (blkOk_by (N := N_w_run) (sc := defScope s_w_run) (by decide +kernel)) (fun _ _ _ _ _ => (pg_name (i := 9) sc_w_run.nd rfl (Or.inl rfl))) (fun _ _ _ _ _ => (pts_one (PW.pt (pw_and (pt_cmpR (op_eqU hr (K := K)) (pe_ix (k_ix (K := K)) (pe_ix (k_ix (K := K)) (pv 1) (pv 9) (fun _ _ => rfl)) pe_int (fun _ _ => rfl)) (pv 5) (nomark _)) (pw_and1 (pt_cmpR (op_neU hr (K := K)) (pe_ix (k_ix (K := K)) (pe_ix (k_ix (K := K)) (pv 1) (pv 9) (fun _ _ => rfl)) pe_int (fun _ _ => rfl)) (pe_lst pa_nil) (nomark _))))))) (fun _ _ _ _ _ => (pv 9)))
    (pss_cons (ps_set (i := 8) sc_w_run.nd rfl (Or.inl rfl) (pe_orT (pe_lc (own := [("_law_at", 9)]) rfl sc_w_run.nd (k_il (pv 8) (K := K)) (blkOk_by (N := N_w_run) (sc := defScope s_w_run) (by decide +kernel)) (fun _ _ _ _ _ => (pg_name (i := 9) sc_w_run.nd rfl (Or.inl rfl))) (fun _ _ _ _ _ => (pts_one (pt_cmpR (op_eqU hr (K := K)) (pe_ix (k_ix (K := K)) (pe_ix (k_ix (K := K)) (pv 1) (pv 9) (fun _ _ => rfl)) pe_int (fun _ _ => rfl)) (pv 3) (nomark _)))) (fun _ _ _ _ _ => (pv 9))) (pe_one (pv 8))))
    (pss_one (ps_if (pt_cmpR (op_neU hr (K := K)) (pv 8) (pe_lst pa_nil) (nomark _)) (pss_cons (ps_set (i := 9) sc_w_run.nd rfl (Or.inl rfl) (pe_ix (k_ix (K := K)) (pv 8) (pe_c c_w_draw hr (by decide) (pa_cons (pv 0) (pa_cons (pe_callB (call_lenU (K := K)) (by rfl) B.len (by decide +kernel) (pa_cons (pv 8) pa_nil)) pa_nil)) passL) (fun _ _ => rfl)))
    (pss_cons (ps_expr (pe_bm PySem.F.plainAttrs_list PySem.F.slot_list_append PySem.F.type_list_append mt_append (pv 6) (pa_cons (pe_tup (pa_cons (pv 9) (pa_cons (pe_ix (k_ix (K := K)) (pe_c c_w_members hr (by decide) (pa_cons (pe_ix (k_ix (K := K)) (pe_ix (k_ix (K := K)) (pv 1) (pv 9) (fun _ _ => rfl)) pe_int (fun _ _ => rfl)) pa_nil) passL) pe_int (fun _ _ => rfl)) pa_nil))) pa_nil)))
    (pss_one (ps_set (i := 5) sc_w_run.nd rfl (Or.inr rfl) (pe_ix (k_ix (K := K)) (pe_ix (k_ix (K := K)) (pv 1) (pv 9) (fun _ _ => rfl)) pe_int (fun _ _ => rfl)))))) pss_nil)))) pss_nil)))
    (pss_one (ps_ret (pe_ifExp (pt_cmpR (op_eqU hr (K := K)) (pv 5) (pv 3) (nomark _)) (pv 6) pe_non))))))), ?_⟩
    have w0 : Bw b F H F H n [] := Bw.nil sF fb g
    refine ⟨_, rfl, sz (n := 0) (by decide), fun L hL => ?_⟩
    have w1 := w0.new (o := .lst []) hL
    have arr : ∀ (j : Int) (x : LArr), 0 ≤ j → la[j.toNat]? = some x → ∃ b2 pv, F b2 = some (.tup [.str x.one, .str x.name, pv, .str x.other]) ∧ RCls.rel x.parts pv F ∧ x.parts.length ≤ 10 ∧ ∀ (H2 : Hp) (Q : VK), Same F H2 → Q (.ref b2) H2 → rIx K (.ref aa) (.int j) H2 Q := fun j x h0 hx => by
      obtain ⟨av, hav, b2, pv, rfl, hb2, hpv, hpos, hpl⟩ := pd_get' pda hx
      exact ⟨b2, pv, hb2, hpv, hpl, fun H2 Q s q => .inl ⟨aa, as, j, _, rfl, rfl, SqL.of (s _ _ haa), atI_int h0 hav, q⟩⟩
    -- the draws
    refine ⟨_, rfl, _, rfl, .inl ⟨_, _, rfl, rfl, ?_⟩⟩
    refine ⟨F, b, n, most + 1, rfl, w1.sub, w1.fb, w1.bg, by omega, by omega, by omega, fun m H1 m0 m1 q1 g1 => ?_⟩
    have w2 := w1.call q1 g1
    refine ⟨m, rfl, by omega, by omega, ?_⟩
    refine for_it (walk_range (lo := 0) (n := m.toNat)) (fun i σ H' => ∃ (F' : Hp) (here : Str) (x7 x8 x9 x10 : Option V) (ys : List V) (rs : List (Int × Int)), Bw b F H F' H' (n + 1 + 2 * i) [(L, .lst ys)] ∧ Paired (fun d x => RCl.rel d x F') rs ys ∧ rs.length ≤ i ∧
      σ = [some (.ref b), some (.ref aa), some (.str bg), some (.str e), some (.int most), some (.str here), some (.ref L), x7, x8, x9, x10]) ⟨F, bg, none, none, none, none, [], [], w2, .nil, Nat.le_refl _, rfl⟩ (fun i σ H' _ _ => trivial) ?_ ?_
    · rintro i y σ H' H'' hi ⟨F3, here, x7, x8, x9, x10, ys, rs, w3, pdr, hrl, rfl⟩ ⟨e1, hx⟩
      subst e1
      refine ⟨_, rfl, .inl ⟨aa, as, rfl, .inl (SqL.of (w3.sub _ _ (w3.ff _ _ haa))), as.length, rfl, by omega, by omega, fun D hD => ?_⟩⟩
      refine go_lc (F1 := F3) (walk_range (lo := 0) (n := ((as.length : Nat) : Int).toNat)) Rp.int (fun i => waysI la here i) (by omega) w3.sub hD rfl (fun _ _ _ => trivial) (fun i0 y0 F4 H4 l0 H5 N hi0 pu fD hl4 hy kt kf => ?_) (fun F4 H4 zs pu fD hl4 pd4 => ?_)
      · obtain ⟨rfl, hx0⟩ := hy
        replace hx0 : y0 = .int (i0 : Nat) := by
          rw [hx0]
          show V.int (0 + (i0 : Int)) = _
          rw [Int.zero_add]
        subst hx0
        have hi4 : i0 < la.length := by omega
        obtain ⟨b2, pv, hb2, hpv, hpl, ix⟩ := arr i0 la[i0] (by omega) (by rw [Int.toNat_natCast, List.getElem?_eq_getElem hi4])
        have sF4 : Same F H5 := (w3.ff.trans pu.ff).trans pu.sub
        have ew : wayT la here i0 = (decide (la[i0].one = here) && !la[i0].parts.isEmpty) := by
          unfold wayT
          rw [List.getElem?_eq_getElem hi4]
        refine ⟨rfl, _, rfl, _, rfl, ix _ _ sF4 (.inr (.inl ⟨b2, _, 0, _, rfl, rfl, SqT.of (sF4 _ _ hb2), atI_nat rfl, ?_⟩))⟩
        refine ⟨_, rfl, .inl ⟨rfl, _, rfl, ?_⟩⟩
        by_cases h1 : la[i0].one = here
        · rw [decide_eq_true (congrArg V.str h1)]
          refine iteT ⟨_, rfl, _, rfl, ix _ _ sF4 (.inr (.inl ⟨b2, _, 2, _, rfl, rfl, SqT.of (sF4 _ _ hb2), atI_nat rfl, ?_⟩))⟩
          refine ⟨sz (n := 0) (by decide), fun c hc => ?_⟩
          have sc := Same.new (o := .lst []) hc
          refine .inr ⟨clsD la[i0].parts, .list [], (RD.lst RDcl).dp K _ _ F _ (sF4.trans sc) hpv, .lst (SqL.of upd_same) .nil, cls_shaped _, rfl, ?_⟩
          rw [cls_eqv]
          refine ⟨_, rfl, ?_⟩
          rw [decide_eq_true h1, Bool.true_and] at ew
          have pc : Pu F4 H5 F4 (upd H5 c (.lst [])) := (Pu.refl pu.sub).tmp hc
          cases hpe : la[i0].parts.isEmpty with
          | true =>
            rw [hpe] at ew
            exact kf _ F4 pc (ways_skip ew)
          | false =>
            rw [hpe] at ew
            exact ⟨_, rfl, kt (.int (i0 : Nat)) _ F4 (i0 : Int) pc rfl (ways_snoc ew)⟩
        · rw [decide_eq_false (fun q => h1 (V.str.inj q))]
          rw [decide_eq_false h1] at ew
          exact iteF (kf _ F4 (Pu.refl pu.sub) (ways_skip ew))
      · have e := pd_eq (f := V.int) (by exact pd4)
        subst e
        have w4 := (w3.lc hD pu fD hl4).fix 0
        have hW : upd F4 D (.lst ((waysI la here ((as.length : Nat) : Int).toNat).map V.int)) D = some (.lst ((waysI la here ((as.length : Nat) : Int).toNat).map V.int)) := upd_same
        have s4 : Same F3 (upd F4 D (.lst ((waysI la here ((as.length : Nat) : Int).toNat).map V.int))) := pu.ff.trans ((w3.lc hD pu fD hl4).ext 0)
        have okW := ways_ok la here ((as.length : Nat) : Int).toNat
        have lenW := ways_len la here ((as.length : Nat) : Int).toNat
        generalize waysI la here ((as.length : Nat) : Int).toNat = ws at w4 hW s4 okW lenW
        generalize upd F4 D (.lst (ws.map V.int)) = F5 at w4 hW s4
        -- if ways != []
        refine ⟨_, rfl, sz (n := 0) (by decide), fun c hc => ?_⟩
        have w5 := w4.tmp (Same.new (o := .lst []) hc)
        refine .inr ⟨.list (ws.map PyData.int), .list [], .lst (SqL.of (w5.sub _ _ hW)) (dp_ints ws), .lst (SqL.of upd_same) .nil, ints_shaped _, rfl, ?_⟩
        rw [eqv_ints]
        refine ⟨_, rfl, ?_⟩
        cases hwe : ws.isEmpty with
        | true => exact iteF ⟨F5, here, _, _, _, _, ys, rs, w5.le (by omega), pd_mono (fun _ _ => RCl.mono s4) pdr, by omega, rfl⟩
        | false =>
          have hne : 0 < ws.length := by
            cases ws with
            | nil => cases hwe
            | cons _ _ => simp
          refine iteT ?_
          refine ⟨_, rfl, _, rfl, _, rfl, .inl ⟨D, _, rfl, .inl (SqL.of (w5.sub _ _ hW)), ?_⟩⟩
          rw [List.length_map]
          refine ⟨F5, b, _, ws.length, rfl, w5.sub, w5.fb, w5.bg, by omega, by omega, by omega, fun d H6 d0 d1 q6 g6 => ?_⟩
          have w6 := w5.call q6 g6
          have hd : d.toNat < ws.length := by omega
          refine .inl ⟨D, _, d, .int ws[d.toNat], rfl, rfl, SqL.of (w6.sub _ _ hW), atI_int d0 (by rw [List.getElem?_map, List.getElem?_eq_getElem hd]; rfl), ?_⟩
          obtain ⟨j0, x, hx, hxp⟩ := okW _ (List.getElem_mem hd)
          obtain ⟨b2, pv, hb2, hpv, hpl, ix⟩ := arr _ x j0 hx
          have sF6 := w6.ff.trans w6.sub
          refine ⟨_, rfl, _, rfl, ix _ _ sF6 (.inr (.inl ⟨b2, _, 2, _, rfl, rfl, SqT.of (sF6 _ _ hb2), atI_nat rfl, ?_⟩))⟩
          refine ⟨F5, pv, x.parts, rfl, w6.sub, RCls.mono w6.ff hpv, hpl, fun M F7 H7 ns q7 hM l1 l2 => ?_⟩
          have w7 := w6.step q7
          have hns : 0 < ns.length := by
            have : 0 < x.parts.length := List.length_pos_iff.mpr hxp
            omega
          -- found.append((at, members[draw]))
          refine ⟨_, rfl, .inl ⟨rfl, _, SqL.of (w7.at 0)⟩, _, rfl, _, rfl, _, rfl, _, rfl, .inl ⟨M, _, rfl, .inl (SqL.of (w7.sub _ _ hM)), ?_⟩⟩
          rw [List.length_map]
          refine ⟨F7, b, _, ns.length, rfl, w7.sub, w7.fb, w7.bg, by omega, by omega, by omega, fun d2 H8 d20 d21 q8 g8 => ?_⟩
          have w8 := w7.call q8 g8
          have hd2 : d2.toNat < ns.length := by omega
          refine .inl ⟨M, _, d2, .int ns[d2.toNat], rfl, rfl, SqL.of (w8.sub _ _ hM), atI_int d20 (by rw [List.getElem?_map, List.getElem?_eq_getElem hd2]; rfl), ?_⟩
          refine ⟨sz (n := 2) (by decide), fun u hu => ?_⟩
          have w9 := w8.add (o := .tup [.int ws[d.toNat], .int ns[d2.toNat]]) hu
          have hyl : ys.length = rs.length := pd_len pdr
          refine ⟨L, ys, _, rfl, rfl, w9.at 0, szl (by omega), ?_⟩
          have w10 := w9.mut (o' := .lst (ys ++ [.ref u])) 0
          have su := Same.new (o := .tup [.int ws[d.toNat], .int ns[d2.toNat]]) (w8.sub.free hu)
          have sF10 := w10.ff.trans w10.sub
          refine ⟨_, rfl, _, rfl, ix _ _ sF10 (.inr (.inl ⟨b2, _, 3, _, rfl, rfl, SqT.of (sF10 _ _ hb2), atI_nat rfl, ?_⟩))⟩
          exact ⟨_, x.other, _, _, _, _, _, rs ++ [(ws[d.toNat], ns[d2.toNat])], w10.le (by omega), pd_snoc (pd_mono (fun _ _ => RCl.mono (s4.trans (q7.ff.trans su))) pdr) ⟨u, _, _, rfl, upd_same, rfl, rfl⟩, by simp; omega, rfl⟩
    · rintro σ H' ⟨F0, here0, x70, x80, x90, x100, ys0, rs0, w0', pdr0, hrl0, rfl⟩
      refine ⟨_, rfl, most, rfl, by omega, by omega, ?_⟩
      refine for_it (walk_range (lo := 0) (n := (most : Int).toNat)) (fun i σ H' => ∃ (F' : Hp) (here : Str) (x7 x8 x9 x10 : Option V) (ys : List V) (rs : List (Int × Int)), Bw b F H F' H' (n + 1 + 2 * m.toNat + i) [(L, .lst ys)] ∧ Paired (fun d x => RCl.rel d x F') rs ys ∧ rs.length ≤ m.toNat + i ∧
        σ = [some (.ref b), some (.ref aa), some (.str bg), some (.str e), some (.int most), some (.str here), some (.ref L), x7, x8, x9, x10]) ⟨F0, here0, _, _, _, _, ys0, rs0, w0'.le (by omega), pdr0, by omega, rfl⟩ (fun i σ H' _ _ => trivial) ?_ ?_
      · rintro i y σ H' H'' hi ⟨F3, here, x7, x8, x9, x10, ys, rs, w3, pdr, hrl, rfl⟩ ⟨e1, hx⟩
        subst e1
        replace hx : y = .int (i : Nat) := by
          rw [hx]
          show V.int (0 + (i : Int)) = _
          rw [Int.zero_add]
        subst hx
        refine ⟨_, rfl, _, rfl, .inl ⟨rfl, _, rfl, ?_⟩⟩
        by_cases hend : here = e
        · rw [decide_eq_true (congrArg V.str hend)]
          exact iteF ⟨F3, here, _, _, _, _, ys, rs, w3.le (by omega), pdr, by omega, rfl⟩
        · rw [decide_eq_false (fun q => hend (V.str.inj q))]
          refine iteT ?_
          refine ⟨_, rfl, .inl ⟨aa, as, rfl, .inl (SqL.of (w3.sub _ _ (w3.ff _ _ haa))), as.length, rfl, by omega, by omega, fun D hD => ?_⟩⟩
          refine go_lc (F1 := F3) (walk_range (lo := 0) (n := ((as.length : Nat) : Int).toNat)) Rp.int (fun i => waysI la here i) (by omega) w3.sub hD rfl (fun _ _ _ => trivial) (fun i0 y0 F4 H4 l0 H5 N hi0 pu fD hl4 hy kt kf => ?_) (fun F4 H4 zs pu fD hl4 pd4 => ?_)
          · obtain ⟨rfl, hx0⟩ := hy
            replace hx0 : y0 = .int (i0 : Nat) := by
              rw [hx0]
              show V.int (0 + (i0 : Int)) = _
              rw [Int.zero_add]
            subst hx0
            have hi4 : i0 < la.length := by omega
            obtain ⟨b2, pv, hb2, hpv, hpl, ix⟩ := arr i0 la[i0] (by omega) (by rw [Int.toNat_natCast, List.getElem?_eq_getElem hi4])
            have sF4 : Same F H5 := (w3.ff.trans pu.ff).trans pu.sub
            have ew : wayT la here i0 = (decide (la[i0].one = here) && !la[i0].parts.isEmpty) := by
              unfold wayT
              rw [List.getElem?_eq_getElem hi4]
            refine ⟨rfl, _, rfl, _, rfl, ix _ _ sF4 (.inr (.inl ⟨b2, _, 0, _, rfl, rfl, SqT.of (sF4 _ _ hb2), atI_nat rfl, ?_⟩))⟩
            refine ⟨_, rfl, .inl ⟨rfl, _, rfl, ?_⟩⟩
            by_cases h1 : la[i0].one = here
            · rw [decide_eq_true (congrArg V.str h1)]
              refine iteT ⟨_, rfl, _, rfl, ix _ _ sF4 (.inr (.inl ⟨b2, _, 2, _, rfl, rfl, SqT.of (sF4 _ _ hb2), atI_nat rfl, ?_⟩))⟩
              refine ⟨sz (n := 0) (by decide), fun c hc => ?_⟩
              have sc := Same.new (o := .lst []) hc
              refine .inr ⟨clsD la[i0].parts, .list [], (RD.lst RDcl).dp K _ _ F _ (sF4.trans sc) hpv, .lst (SqL.of upd_same) .nil, cls_shaped _, rfl, ?_⟩
              rw [cls_eqv]
              refine ⟨_, rfl, ?_⟩
              rw [decide_eq_true h1, Bool.true_and] at ew
              have pc : Pu F4 H5 F4 (upd H5 c (.lst [])) := (Pu.refl pu.sub).tmp hc
              cases hpe : la[i0].parts.isEmpty with
              | true =>
                rw [hpe] at ew
                exact kf _ F4 pc (ways_skip ew)
              | false =>
                rw [hpe] at ew
                exact ⟨_, rfl, kt (.int (i0 : Nat)) _ F4 (i0 : Int) pc rfl (ways_snoc ew)⟩
            · rw [decide_eq_false (fun q => h1 (V.str.inj q))]
              rw [decide_eq_false h1] at ew
              exact iteF (kf _ F4 (Pu.refl pu.sub) (ways_skip ew))
          · have e := pd_eq (f := V.int) (by exact pd4)
            subst e
            have w4 := (w3.lc hD pu fD hl4).fix 0
            have hW : upd F4 D (.lst ((waysI la here ((as.length : Nat) : Int).toNat).map V.int)) D = some (.lst ((waysI la here ((as.length : Nat) : Int).toNat).map V.int)) := upd_same
            have s4 : Same F3 (upd F4 D (.lst ((waysI la here ((as.length : Nat) : Int).toNat).map V.int))) := pu.ff.trans ((w3.lc hD pu fD hl4).ext 0)
            have okW := ways_ok la here ((as.length : Nat) : Int).toNat
            have lenW := ways_len la here ((as.length : Nat) : Int).toNat
            generalize waysI la here ((as.length : Nat) : Int).toNat = ws at w4 hW s4 okW lenW
            generalize upd F4 D (.lst (ws.map V.int)) = F5 at w4 hW s4
            dsimp only
            refine sj (R := fun σ2 H2 => ∃ (F5 : Hp) (D3 : Addr) (ws3 : List Int) (x9 : Option V), Bw b F H F5 H2 (n + 1 + 2 * m.toNat + i) [(L, .lst ys)] ∧ Same F3 F5 ∧ F5 D3 = some (.lst (ws3.map V.int)) ∧ Ways la ws3 ∧ ws3.length ≤ 5 ∧
              σ2 = [some (.ref b), some (.ref aa), some (.str bg), some (.str e), some (.int most), some (.str here), some (.ref L), some (.int (i : Nat)), some (.ref D3), x9, x10]) ?_ (fun go => ?_)
            · rintro σ2 H2 ⟨F6, D3, ws3, x9', w5, s5, hD3, okW3, len3, rfl⟩
              refine ⟨_, rfl, sz (n := 0) (by decide), fun c hc => ?_⟩
              have w6 := w5.tmp (Same.new (o := .lst []) hc)
              refine .inr ⟨.list (ws3.map PyData.int), .list [], .lst (SqL.of (w6.sub _ _ hD3)) (dp_ints ws3), .lst (SqL.of upd_same) .nil, ints_shaped _, rfl, ?_⟩
              rw [eqv_ints]
              refine ⟨_, rfl, ?_⟩
              cases hwe : ws3.isEmpty with
              | true => exact iteF ⟨F6, here, _, _, _, _, ys, rs, w6.le (by omega), pd_mono (fun _ _ => RCl.mono s5) pdr, by omega, rfl⟩
              | false =>
                have hne : 0 < ws3.length := by
                  cases ws3 with
                  | nil => cases hwe
                  | cons _ _ => simp
                refine iteT ?_
                refine ⟨_, rfl, _, rfl, _, rfl, .inl ⟨D3, _, rfl, .inl (SqL.of (w6.sub _ _ hD3)), ?_⟩⟩
                rw [List.length_map]
                refine ⟨F6, b, _, ws3.length, rfl, w6.sub, w6.fb, w6.bg, by omega, by omega, by omega, fun d H6 d0 d1 q6 g6 => ?_⟩
                have w7 := w6.call q6 g6
                have hd : d.toNat < ws3.length := by omega
                refine .inl ⟨D3, _, d, .int ws3[d.toNat], rfl, rfl, SqL.of (w7.sub _ _ hD3), atI_int d0 (by rw [List.getElem?_map, List.getElem?_eq_getElem hd]; rfl), ?_⟩
                obtain ⟨j0, x, hx, hxp⟩ := okW3 _ (List.getElem_mem hd)
                obtain ⟨b2, pv, hb2, hpv, hpl, ix⟩ := arr _ x j0 hx
                have sF6 := w7.ff.trans w7.sub
                refine ⟨_, rfl, .inl ⟨rfl, _, SqL.of (w7.at 0)⟩, _, rfl, _, rfl, _, rfl, ix _ _ sF6 (.inr (.inl ⟨b2, _, 2, _, rfl, rfl, SqT.of (sF6 _ _ hb2), atI_nat rfl, ?_⟩))⟩
                refine ⟨F6, pv, x.parts, rfl, w7.sub, RCls.mono w7.ff hpv, hpl, fun M F7 H7 ns q7 hM l1 l2 => ?_⟩
                have w8 := w7.step q7
                have hns : 0 < ns.length := by
                  have : 0 < x.parts.length := List.length_pos_iff.mpr hxp
                  omega
                refine .inl ⟨M, _, 0, .int ns[0], rfl, rfl, SqL.of (w8.sub _ _ hM), atI_nat (j := 0) (by rw [List.getElem?_map, List.getElem?_eq_getElem hns]; rfl), ?_⟩
                refine ⟨sz (n := 2) (by decide), fun u hu => ?_⟩
                have w9 := w8.add (o := .tup [.int ws3[d.toNat], .int ns[0]]) hu
                have hyl : ys.length = rs.length := pd_len pdr
                refine ⟨L, ys, _, rfl, rfl, w9.at 0, szl (by omega), ?_⟩
                have w10 := w9.mut (o' := .lst (ys ++ [.ref u])) 0
                have su := Same.new (o := .tup [.int ws3[d.toNat], .int ns[0]]) (w8.sub.free hu)
                have sF10 := w10.ff.trans w10.sub
                refine ⟨_, rfl, _, rfl, ix _ _ sF10 (.inr (.inl ⟨b2, _, 3, _, rfl, rfl, SqT.of (sF10 _ _ hb2), atI_nat rfl, ?_⟩))⟩
                exact ⟨_, x.other, _, _, _, _, _, rs ++ [(ws3[d.toNat], ns[0])], w10.le (by omega), pd_snoc (pd_mono (fun _ _ => RCl.mono (s5.trans (q7.ff.trans su))) pdr) ⟨u, _, _, rfl, upd_same, rfl, rfl⟩, by simp; omega, rfl⟩
            · refine ⟨_, rfl, D, rfl, ⟨_, SqL.of (w4.sub _ _ hW)⟩, fun D2 hD2 => ?_⟩
              refine go_lc (F1 := F5) (walk_list (xs := ws.map V.int)) Rp.int (fun i => (ws.take i).filter (lastT la e)) (by rw [List.length_map]; omega) w4.sub hD2 (by simp) (fun F6 H6 pu => SqL.of (pu.sub _ _ (pu.ff _ _ hW))) (fun i0 y0 F6 H6 l0 H7 N hi0 pu fD hl6 hy kt kf => ?_) (fun F6 H6 zs2 pu fD hl6 pd6 => ?_)
              · obtain ⟨e1, hy⟩ := hy
                subst e1
                rw [List.getElem?_map] at hy
                cases hj : ws[i0]? with
                | none => rw [hj] at hy; cases hy
                | some j =>
                  rw [hj] at hy
                  cases hy
                  obtain ⟨j0, x, hx, hxp⟩ := okW j (List.mem_of_getElem? hj)
                  obtain ⟨b2, pv, hb2, hpv, hpl, ix⟩ := arr _ x j0 hx
                  have sF6 := (w4.ff.trans pu.ff).trans pu.sub
                  have et : lastT la e j = decide (x.other = e) := by
                    unfold lastT
                    rw [hx]
                  refine ⟨rfl, _, rfl, _, rfl, ix _ _ sF6 (.inr (.inl ⟨b2, _, 3, _, rfl, rfl, SqT.of (sF6 _ _ hb2), atI_nat rfl, ?_⟩))⟩
                  refine ⟨_, rfl, .inl ⟨rfl, _, rfl, ?_⟩⟩
                  by_cases ho : x.other = e
                  · rw [decide_eq_true (congrArg V.str ho)]
                    rw [decide_eq_true ho] at et
                    exact ⟨_, rfl, kt (.int j) _ F6 j (Pu.refl pu.sub) rfl (filter_snoc hj et)⟩
                  · rw [decide_eq_false (fun q => ho (V.str.inj q))]
                    rw [decide_eq_false ho] at et
                    exact kf _ F6 (Pu.refl pu.sub) (filter_skip hj et)
              · rw [List.length_map, take_all] at pd6
                have e6 := pd_eq (f := V.int) (by exact pd6)
                subst e6
                have w5 := w4.lc hD2 pu fD hl6
                refine ⟨_, .inl ⟨_, SqL.of hl6, rfl⟩, ?_⟩
                cases hem : ((ws.filter (lastT la e)).map V.int).isEmpty with
                | false =>
                  refine iteT (go _ _ ⟨_, D2, ws.filter (lastT la e), _, w5.fix 0, s4.trans (pu.ff.trans (w5.ext 0)), upd_same, fun j hj => okW j (List.mem_filter.mp hj).1, ?_, rfl⟩)
                  have := List.length_filter_le (lastT la e) ws
                  omega
                | true =>
                  exact iteF ⟨_, rfl, go _ _ ⟨_, D, ws, _, w4.step pu, s4.trans pu.ff, pu.ff _ _ hW, okW, by omega, rfl⟩⟩
      · rintro σ H' ⟨F3, here, x7, x8, x9, x10, ys, rs, w3, pdr, hrl, rfl⟩
        have w4 := w3.fix 0
        refine ⟨_, rfl, _, rfl, .inl ⟨rfl, _, rfl, ?_⟩⟩
        by_cases hend : here = e
        · rw [decide_eq_true (congrArg V.str hend)]
          exact ⟨_, rfl, kk _ _ _ w4.pb (w4.le (by omega)).bg (.inr ⟨rs, ⟨L, ys, rfl, upd_same, pd_mono (fun _ _ => RCl.mono (w3.ext 0)) pdr⟩, by omega⟩)⟩
        · rw [decide_eq_false (fun q => hend (V.str.inj q))]
          exact kk _ _ _ w4.pb (w4.le (by omega)).bg (.inl rfl)
end
end TR

/-! part B9 -/
namespace TR
open PySem PySem.Spec PyProof.Rows L2 G
theorem cut_drop {xs : List V} {i : Nat} : cutV xs (some (i : Int)) none = xs.drop i := by
  have e1 : HT.sIx xs.length xs.length none = xs.length := rfl
  unfold cutV
  rw [HT.sIx_nat, e1]
  by_cases h : i ≤ xs.length
  · rw [Nat.min_eq_left h, List.take_of_length_le (by simp)]
  · rw [Nat.min_eq_right (by omega), List.drop_eq_nil_of_le (by omega : xs.length ≤ i)]
    simp
theorem lookup_nm {ks : Kinds} {z : Str} (ok : KOk ks) (h : (ks.lookup z).isSome = true) : nameOk z = true := by
  have : ∀ ks : Kinds, (ks.lookup z).isSome = true → ∃ p ∈ ks, p.1 = z := by
    intro ks
    induction ks with
    | nil => intro h; cases h
    | cons a r ih =>
      intro h
      rw [List.lookup_cons] at h
      by_cases e : z = a.1
      · exact ⟨a, by simp, e.symm⟩
      · rw [show (z == a.1) = false by simp [e]] at h
        obtain ⟨p, hp, q⟩ := ih h
        exact ⟨p, by simp [hp], q⟩
  obtain ⟨p, hp, e⟩ := this ks h
  rw [← e]
  exact (ok.nm p hp).1
def arrowD (k : Int) : PyData := .tuple [.str "arrow", .int k]
def rowD (ss : Steps) : PyData := .tuple [.str "row", stepsD ss]
theorem arrowD_ok (k : Int) : (arrowD k).canLay0 = true ∧ SeqAt.shaped (arrowD k) = true := by
  have h : (arrowD k).canLay0 = true := by
    show ((PyData.str "arrow").canLay0 && (true && true)) = true
    rw [show (PyData.str "arrow").canLay0 = true by decide +kernel]
    rfl
  exact ⟨h, shaped_of h (by show max 0 (max 0 0) + 1 ≤ 64; decide)⟩
theorem rowD_ok {ss : Steps} (h : ∀ d ∈ ss, nameOk d.1 = true) : (rowD ss).canLay0 = true ∧ SeqAt.shaped (rowD ss) = true := by
  have h1 : (stepsD ss).canLay0 = true := lay_all fun d hd => step_lay (h d hd)
  have hh : (rowD ss).canLay0 = true := by
    show ((PyData.str "row").canLay0 && ((stepsD ss).canLay0 && true)) = true
    rw [show (PyData.str "row").canLay0 = true by decide +kernel, h1]
    rfl
  refine ⟨hh, shaped_of hh ?_⟩
  show max 0 (max (PyData.depthAll (ss.map stepD) + 1) 0) + 1 ≤ 64
  have := dep_all (f := stepD) (n := 1) (ds := ss) fun d _ => step_dep d
  omega
def dueD (ks : Kinds) (ss : Steps) : Option Nat → PyData
  | some k => arrowD k
  | none => rowD (normal ks ss)
theorem told_dp {K : PySem.W.Frag} {ks : Kinds} {ss : Steps} {o : Option Nat} {v : V} {F H : Hp} (s : Same F H) (h : ToldR ks ss o v F) : Dp K H v (dueD ks ss o) := by
  obtain ⟨a, rfl, h⟩ := h
  cases o with
  | some k => exact .tup (SqT.of (s _ _ h)) (.cons (.str _) (.cons (.int _) .nil))
  | none =>
    obtain ⟨l, h1, h2⟩ := h
    exact .tup (SqT.of (s _ _ h1)) (.cons (.str _) (.cons ((RD.lst RDstep).dp K _ _ F H s h2) .nil))
/-- a step of a run as a list -/
def RClL : Rp (Int × Int) := ⟨fun d v F => ∃ a, v = .ref a ∧ F a = some (.lst [.int d.1, .int d.2]), fun s ⟨a, e, h⟩ => ⟨a, e, s _ _ h⟩⟩
theorem pv_tup {K : PySem.W.Frag} {F H : Hp} (s : Same F H) : ∀ {rs : List (Int × Int)} {xs : List V}, Paired (fun d x => RCl.rel d x F) rs xs → Paired (fun p x => PairV K x H p) (rs.map some) xs
  | _, _, .nil => .nil
  | _, _, .cons h t => by
    obtain ⟨a, x, y, rfl, ha, rfl, rfl⟩ := h
    exact .cons (.ok (.inr (s _ _ ha))) (pv_tup s t)
theorem pv_lst {K : PySem.W.Frag} {F H : Hp} (s : Same F H) : ∀ {rs : List (Int × Int)} {xs : List V}, Paired (fun d x => RClL.rel d x F) rs xs → Paired (fun p x => PairV K x H p) (rs.map some) xs
  | _, _, .nil => .nil
  | _, _, .cons h t => by
    obtain ⟨a, rfl, ha⟩ := h
    exact .cons (.ok (.inl (s _ _ ha))) (pv_lst s t)
section
variable {P : Program} {w : World} {K : PySem.W.Frag} {mg : Str → Option Value} {base : Heap} {CT CN CP EN ET EA ES CR : Addr}
abbrev s_w_run_right : Stmt := top 58
abbrev N_w_run_right : List Str := ["_law_plan_here", "_law_kinds_here", "_law_arrows", "_law_run_here", "_law_fault_here", "_law_lists", "_law_pair", "_law_due", "_law_at", "_law_n"]
abbrev P_w_run_right : List Str := ["_law_plan_here", "_law_kinds_here", "_law_arrows", "_law_run_here"]
theorem sc_w_run_right : FnScope N_w_run_right P_w_run_right (defScope s_w_run_right) := ⟨rfl, rfl, rfl, by decide +kernel, rfl, by decide +kernel, by decide +kernel⟩
theorem bn_w_run_right : BindsNo "_law_run_right" "_law_run_right" s_w_run_right P_w_run_right := fun _ _ _ _ _ _ us hl => match us, hl with | [_, _, _, _], _ => rfl
def sp_run_right (CT CN CP : Addr) : Sp := fun vs H Q _ => ∃ (F : Hp) (pv kv : V) (aa ra : Addr) (d : PlanD) (as xs : List V) (la : List LArr) (rs : List (Int × Int)), vs = [pv, kv, .ref aa, .ref ra] ∧ Same F H ∧ (RPlan CT CN CP).rel d pv F ∧ RPairs.rel d.ks kv F ∧ KOk d.ks ∧ F aa = some (.lst as) ∧ Paired (fun d x => RLArr.rel d x F) la as ∧ Paired Match la d.ds ∧
  F ra = some (.lst xs) ∧ Paired (fun d x => RCl.rel d x F) rs xs ∧ rs.length ≤ 30 ∧ ∀ F' H', Pu F H F' H' → Q (.bl true) H'
theorem ok_run_right (B : Bt mg) (PL : KlF K mg "Plan" CP ["turns", "stations", "arrows", "begin", "end"]) (c_w_fault : Cal P w K mg base 2 "_law_fault" sp_wfault) (c_w_normal : Cal P w K mg base 1 "_law_normal" sp_wnormal) (c_w_told : Cal P w K mg base 8 "_law_told" (sp_told K CT CN CP CR))
    (m_is_run : Met P w K mg base 5 CP "is_run" (sp_is_run K CT CN CP)) (F : FnF K mg "_law_run_right" s_w_run_right []) : Cal P w K mg base 9 "_law_run_right" (sp_run_right CT CN CP) := by
  refine F.cal sc_w_run_right bn_w_run_right (fun vs H Q E h => ?_) (fun f cdv A outer s H vs Q E hr h => ?_)
  · obtain ⟨_, _, _, _, _, _, _, _, _, _, rfl, _⟩ := h
    rfl
  · obtain ⟨F, pv0, kv, aa, ra, d, as, xs, la, rs, rfl, sF, rp, rk, ok, haa, pda, pdm, hra, pdr, hrl, k⟩ := h
    obtain ⟨a, dx, ts, ta, tv, hp⟩ := id rp
    have hxl : xs.length = rs.length := pd_len pdr
    refine ⟨_, (pss_cons (ps_set (i := 4) sc_w_run_right.nd rfl (Or.inl rfl) (pe_c c_w_fault hr (by decide) (pa_cons (pv 2) (pa_cons (k_fld (pv 0) (K := K)) (pa_cons (k_fld (pv 0) (K := K)) (pa_cons (pv 3) pa_nil)))) passL))
    (pss_cons (ps_set (i := 5) sc_w_run_right.nd rfl (Or.inl rfl) (pe_callTy (k_tuple (K := K)) (by rfl) B.tuple (by decide +kernel) (pa_cons (pe_lc (own := [("_law_pair", 6)]) rfl sc_w_run_right.nd (k_il (pv 3) (K := K)) (blkOk_by (N := N_w_run_right) (sc := defScope s_w_run_right) (by decide +kernel)) (fun _ _ _ _ _ => (pg_name (i := 6) sc_w_run_right.nd rfl (Or.inl rfl))) (fun _ _ _ _ _ => pts_nil) (fun _ _ _ _ _ => (pe_callTy (k_list (K := K)) (by rfl) B.list (by decide +kernel) (pa_cons (pv 6) pa_nil)))) pa_nil)))
    (pss_cons (ps_if (PW.pt (pw_or (pt_cmpR (op_neU hr (K := K)) (pe_m m_is_run hr (by decide) (pv 0) (pa_cons (pv 3) pa_nil) passL) (pe_cmpR (op_eqU hr (K := K)) (pv 4) (pe_un un_neg pe_int) (nomark _)) (nomark _)) (pw_or1 (pt_cmpR (op_neU hr (K := K)) (pe_m m_is_run hr (by decide) (pv 0) (pa_cons (pv 5) pa_nil) passL) (pe_cmpR (op_eqU hr (K := K)) (pv 4) (pe_un un_neg pe_int) (nomark _)) (nomark _))))) (pss_one (ps_ret pe_bl)) pss_nil)
    (pss_cons (ps_set (i := 7) sc_w_run_right.nd rfl (Or.inl rfl) (pe_tup (pa_cons pe_str (pa_cons (pv 4) pa_nil))))
    (pss_cons (ps_if (pt_cmpR (op_eqU hr (K := K)) (pv 4) (pe_un un_neg pe_int) (nomark _)) (pss_one (ps_set (i := 7) sc_w_run_right.nd rfl (Or.inl rfl) (pe_tup (pa_cons pe_str (pa_cons (pe_c c_w_normal hr (by decide) (pa_cons (pv 1) (pa_cons (pe_lc (own := [("_law_at", 8), ("_law_n", 9)]) rfl sc_w_run_right.nd (k_il (pv 3) (K := K)) (blkOk_by (N := N_w_run_right) (sc := defScope s_w_run_right) (by decide +kernel)) (fun _ _ _ _ _ => (k_tup (n := 2) rfl (pgs_cons (pg_name (i := 8) sc_w_run_right.nd rfl (Or.inl rfl)) (pgs_cons (pg_name (i := 9) sc_w_run_right.nd rfl (Or.inl rfl)) pgs_nil)) (K := K))) (fun _ _ _ _ _ => pts_nil) (fun _ _ _ _ _ => (pe_tup (pa_cons (pe_ix (k_ix (K := K)) (pe_ix (k_ix (K := K)) (pv 2) (pv 8) (fun _ _ => rfl)) pe_int (fun _ _ => rfl)) (pa_cons (pv 9) pa_nil))))) pa_nil)) passL) pa_nil))))) pss_nil)
    (pss_cons (ps_if (PW.pt (pw_and (pt_cmpR (op_eqU hr (K := K)) (pv 4) (pe_un un_neg pe_int) (nomark _)) (pw_and (pt_cmpR (op_neU hr (K := K)) (pv 3) (pe_lst pa_nil) (nomark _)) (pw_and (pt_cmpR (op_eqU hr (K := K)) (pe_ix (k_ix (K := K)) (pe_ix (k_ix (K := K)) (pv 3) pe_int (fun _ _ => rfl)) pe_int (fun _ _ => rfl)) pe_int (nomark _)) (pw_and1 (pt_val (pe_m m_is_run hr (by decide) (pv 0) (pa_cons (pe_op op_addU (pe_lst (pa_cons (pe_tup (pa_cons pe_bl (pa_cons (pe_ix (k_ix (K := K)) (pe_ix (k_ix (K := K)) (pv 3) pe_int (fun _ _ => rfl)) pe_int (fun _ _ => rfl)) pa_nil))) pa_nil)) (pe_slice (k_sl_list (K := K)) (pv 3) (po_some pe_int) po_none)) pa_nil) passL))))))) (pss_one (ps_ret pe_bl)) pss_nil)
    (pss_one (ps_ret (pe_and (pe_cmpR (op_eqU hr (K := K)) (pe_c c_w_told hr (by decide) (pa_cons (pv 0) (pa_cons (pv 3) pa_nil)) passL) (pv 7) (nomark _)) (pe_one (pe_cmpR (op_eqU hr (K := K)) (pe_c c_w_told hr (by decide) (pa_cons (pv 0) (pa_cons (pv 5) pa_nil)) passL) (pv 7) (nomark _)))))))))))), ?_⟩
    refine ⟨_, rfl, _, rfl, a, CP, dx, _, _, hp.ev, sF _ _ hp.ob, PL.cl, PL.no _ (by decide), rfl, _, rfl, a, CP, dx, _, _, hp.ev, sF _ _ hp.ob, PL.cl, PL.no _ (by decide), rfl, _, rfl, F, aa, ra, as, xs, d.b, d.e, la, d.ds, rs, rfl, sF, haa, pda, pdm, hra, pdr, by omega, fun H1 s1 => ?_⟩
    have w1 : Own F H F H1 [] := (Own.nil (Pu.refl sF)).tmp s1
    -- lists
    refine ⟨_, rfl, ra, rfl, ⟨_, SqL.of (w1.sub _ _ hra)⟩, fun D hD => ?_⟩
    refine go_lc (F1 := F) (walk_list (xs := xs)) RClL (fun i => rs.take i) (by omega) w1.sub hD rfl (fun F1 H1 pu => SqL.of (pu.sub _ _ (pu.ff _ _ hra))) (fun i y F1 H1 l H' N hi pu fD hl1 hy kt kf => ?_) (fun F2 H2 ys pu fD hl1 pd1 => ?_)
    · obtain ⟨e1, hy⟩ := hy
      subst e1
      obtain ⟨c, t, z, u, hc, rfl, ht, rfl, rfl⟩ := pair_at pdr hy
      refine ⟨rfl, _, rfl, t, _, rfl, .inr (SqT.of (pu.sub _ _ (pu.ff _ _ ht))), fun q hq => ?_⟩
      exact kt (.ref q) _ (upd F1 q (.lst [.int c.1, .int c.2])) c ((Pu.refl pu.sub).add hq) ⟨q, rfl, upd_same⟩ (take_snoc hc)
    · rw [hxl, take_all] at pd1
      have w2 := w1.lc hD pu fD hl1
      refine ⟨D, ys, rfl, .inl ⟨SqL.of hl1, fun tl htl => ?_⟩⟩
      have w3 := w2.add (o := .tup ys) htl
      have s3 := Same.new (o := .tup ys) (w2.sub.free htl)
      have htl3 : upd F2 tl (.tup ys) tl = some (.tup ys) := upd_same
      have pd3 := pd_mono (fun _ _ => RClL.mono s3) pd1
      generalize upd F2 tl (.tup ys) = F3 at w3 s3 htl3 pd3
      generalize upd H2 tl (.tup ys) = H3 at w3
      have w4 := w3.drop
      have hyl : ys.length = rs.length := pd_len pd1
      -- the two runs
      refine ⟨_, rfl, a, dx, _, hp.ev, w4.sub _ _ (w4.ff _ _ hp.ob), rfl, _, rfl, pv0, .ref ra, rfl, .inr ⟨F, ra, xs, d, rs.map some, rfl, w4.ff.trans w4.sub, rp, .inl (w4.sub _ _ (w4.ff _ _ hra)), pv_tup (w4.ff.trans w4.sub) pdr, by omega, fun H5 s5 => ?_⟩⟩
      have w5 := w4.tmp s5
      have run1 : decide (V.int (faultI (faultD d.ds d.e d.b 0 (rs.map some))) = V.int (-1)) = (faultD d.ds d.e d.b 0 (rs.map some)).isNone := by
        cases faultD d.ds d.e d.b 0 (rs.map some) with
        | none => rfl
        | some j =>
          refine decide_eq_false fun q => ?_
          have q2 : ((j : Nat) : Int) = -1 := V.int.inj q
          omega
      refine ⟨_, rfl, _, rfl, .inl ⟨rfl, .inl ⟨rfl, ?_⟩⟩⟩
      rw [run1]
      refine ⟨_, rfl, ?_⟩
      rw [decide_eq_true rfl]
      refine iteF ?_
      refine ⟨_, rfl, a, dx, _, hp.ev, w5.sub _ _ (w5.ff _ _ hp.ob), rfl, _, rfl, pv0, .ref tl, rfl, .inr ⟨F, tl, ys, d, rs.map some, rfl, w5.ff.trans w5.sub, rp, .inr (w5.sub _ _ htl3), pv_lst w5.sub pd3, by omega, fun H6 s6 => ?_⟩⟩
      have w6 := w5.tmp s6
      refine ⟨_, rfl, _, rfl, .inl ⟨rfl, .inl ⟨rfl, ?_⟩⟩⟩
      rw [run1]
      refine ⟨_, rfl, ?_⟩
      rw [decide_eq_true rfl]
      refine iteF ?_
      -- due = ('arrow', fault)
      refine ⟨_, rfl, sz (n := 2) (by decide), fun p1 hp1 => ?_⟩
      have w7 := w6.add (o := .tup [.str "arrow", .int (faultI (faultD d.ds d.e d.b 0 (rs.map some)))]) hp1
      have s7 := Same.new (o := .tup [.str "arrow", .int (faultI (faultD d.ds d.e d.b 0 (rs.map some)))]) (w6.sub.free hp1)
      have hp17 : upd F3 p1 (.tup [.str "arrow", .int (faultI (faultD d.ds d.e d.b 0 (rs.map some)))]) p1 = some (.tup [.str "arrow", .int (faultI (faultD d.ds d.e d.b 0 (rs.map some)))]) := upd_same
      have htl7 := s7 _ _ htl3
      have pd7 := pd_mono (fun _ _ => RClL.mono s7) pd3
      generalize upd F3 p1 (.tup [.str "arrow", .int (faultI (faultD d.ds d.e d.b 0 (rs.map some)))]) = F7 at w7 hp17 s7 htl7 pd7
      generalize upd H6 p1 (.tup [.str "arrow", .int (faultI (faultD d.ds d.e d.b 0 (rs.map some)))]) = H7 at w7
      -- the two answers of told, both like what is due
      have fin : ∀ (F8 H8 : Hp) (due : V) (D8 : PyData), Own F H F8 H8 [] → Same F7 F8 → (∀ H9, Same F8 H9 → Dp K H9 due D8) → D8.canLay0 = true → SeqAt.shaped D8 = true → dueD d.ks ((rs.map some).map (stepOf d.ds)) (faultD d.ds d.e d.b 0 (rs.map some)) = D8 →
          ∀ (x6 x8 x9 : Option V),
          tAndV (tOp (rEqU K) (tCall (sp_told K CT CN CP CR) [] E0 (tCons (tVar 0) (tCons (tVar 3) tNil))) (tVar 7)) (tOp (rEqU K) (tCall (sp_told K CT CN CP CR) [] E0 (tCons (tVar 0) (tCons (tVar 5) tNil))) (tVar 7))
            [some pv0, some kv, some (.ref aa), some (.ref ra), some (.int (faultI (faultD d.ds d.e d.b 0 (rs.map some)))), some (.ref tl), x6, some due, x8, x9] H8 Q := by
        intro F8 H8 due D8 w8 s8 dp lay shp eD x6 x8 x9
        have sp8 := w8.ff
        refine ⟨_, rfl, _, rfl, F8, pv0, ra, xs, d, rs.map some, rfl, w8.sub, (RPlan CT CN CP).mono sp8 rp, .inl (sp8 _ _ hra), pv_tup sp8 pdr, by omega, fun r F9 H9 q9 tr9 => ?_⟩
        have w9 := w8.step q9
        have dd9 := told_dp (K := K) q9.sub tr9
        rw [eD] at dd9
        refine ⟨_, rfl, .inr ⟨_, _, dd9, dp _ (q9.ff.trans q9.sub), shp, shp, ?_⟩⟩
        rw [SeqAt.eqv_refl _ lay]
        refine ⟨_, rfl, iteT ?_⟩
        have s9 := s8.trans q9.ff
        refine ⟨_, rfl, _, rfl, F9, pv0, tl, ys, d, rs.map some, rfl, w9.sub, (RPlan CT CN CP).mono w9.ff rp, .inr (s9 _ _ htl7), pv_lst s9 pd7, by omega, fun r2 F10 H10 q10 tr10 => ?_⟩
        have w10 := w9.step q10
        have dd10 := told_dp (K := K) q10.sub tr10
        rw [eD] at dd10
        refine ⟨_, rfl, .inr ⟨_, _, dd10, dp _ ((q9.ff.trans q10.ff).trans q10.sub), shp, shp, ?_⟩⟩
        rw [SeqAt.eqv_refl _ lay]
        exact k _ _ w10.pu
      refine ⟨_, rfl, _, rfl, .inl ⟨rfl, _, rfl, ?_⟩⟩
      rw [run1]
      cases hf : faultD d.ds d.e d.b 0 (rs.map some) with
      | some j =>
        rw [hf] at run1 hp17 fin
        refine iteF ?_
        refine ⟨_, rfl, _, rfl, .inl ⟨rfl, _, rfl, ?_⟩⟩
        rw [run1]
        refine iteF (iteF ?_)
        exact fin _ _ (.ref p1) (arrowD j) w7 (Same.refl _) (fun H9 s9 => .tup (SqT.of (s9 _ _ hp17)) (.cons (.str _) (.cons (.int _) .nil))) (arrowD_ok j).1 (arrowD_ok j).2 rfl _ _ _
      | none =>
        rw [hf] at run1 hp17 fin
        refine iteT ?_
        have all := fault_all hf
        have inA : ∀ (i : Nat) (c : Int × Int), rs[i]? = some c → ∃ x l, arrAt d.ds c.1 = some x ∧ 0 ≤ c.1 ∧ d.ds[c.1.toNat]? = some x ∧ la[c.1.toNat]? = some l ∧ l.name = x.name := fun i c hc => by
          obtain ⟨j, n, x, e1, e2⟩ := all (some c) (List.mem_map_of_mem (List.mem_of_getElem? hc))
          cases e1
          obtain ⟨h0, hx⟩ := arrAt_int e2
          obtain ⟨l, hl, hm⟩ := pd_get pdm hx
          exact ⟨x, l, e2, h0, hx, hl, hm.name⟩
        -- due = ('row', normal)
        refine ⟨_, rfl, _, rfl, ra, rfl, ⟨_, SqL.of (w7.sub _ _ (w7.ff _ _ hra))⟩, fun D2 hD2 => ?_⟩
        refine go_lc (F1 := F7) (walk_list (xs := xs)) RStep (fun i => (rs.map fun c => stepOf d.ds (some c)).take i) (by omega) w7.sub hD2 rfl (fun F1 H1 pu => SqL.of (pu.sub _ _ (pu.ff _ _ (w7.ff _ _ hra)))) (fun i y F1 H1 l H' N hi pu fD hl1 hy kt kf => ?_) (fun F8 H8 zs pu8 fD8 hl8 pd8 => ?_)
        · obtain ⟨e1, hy⟩ := hy
          subst e1
          obtain ⟨c, t, z, u, hc, rfl, ht, rfl, rfl⟩ := pair_at pdr hy
          obtain ⟨x, l, e1, h0, e2, e3, e4⟩ := inA i c hc
          obtain ⟨av, hav, b2, pv, rfl, hb2, hpv, hpos, hpl⟩ := pd_get' pda e3
          have sF1 := (w7.ff.trans pu.ff).trans pu.sub
          refine ⟨t, _, rfl, SqT.of (sF1 _ _ ht), rfl, _, _, rfl, _, _, rfl, rfl, rfl, ?_⟩
          refine ⟨_, rfl, _, rfl, .inl ⟨aa, as, c.1, _, rfl, rfl, SqL.of (sF1 _ _ haa), atI_int h0 hav, .inr (.inl ⟨b2, _, 1, _, rfl, rfl, SqT.of (sF1 _ _ hb2), atI_nat rfl, ?_⟩)⟩⟩
          refine ⟨_, rfl, sz (n := 2) (by decide), fun q hq => ?_⟩
          refine kt (.ref q) _ (upd F1 q (.tup [.str l.name, .int c.2])) (l.name, c.2) ((Pu.refl pu.sub).add hq) ⟨q, _, _, rfl, upd_same, rfl, rfl⟩ (take_snoc ?_)
          rw [List.getElem?_map, hc]
          show some (((arrAt d.ds c.1).map (·.name)).getD ("" : Str), c.2) = _
          rw [e1, e4]
          rfl
        · rw [hxl, show rs.length = (rs.map fun c => stepOf d.ds (some c)).length by simp, take_all] at pd8
          have w8 := (w7.lc hD2 pu8 fD8 hl8).fix 0
          have s8 := (w7.lc hD2 pu8 fD8 hl8).ext 0
          have memS : ∀ s ∈ (rs.map fun c => stepOf d.ds (some c)), ∃ x ∈ d.ds, s.1 = x.name := fun s hs => by
            obtain ⟨c, hc, rfl⟩ := List.mem_map.mp hs
            obtain ⟨i, hi⟩ := List.getElem?_of_mem hc
            obtain ⟨x, l, e1, h0, e2, e3, e4⟩ := inA i c hi
            refine ⟨x, List.mem_of_getElem? e2, ?_⟩
            show ((arrAt d.ds c.1).map (·.name)).getD ("" : Str) = _
            rw [e1]
            rfl
          have nmS : ∀ s ∈ (rs.map fun c => stepOf d.ds (some c)), nameOk s.1 = true := fun s hs => by
            obtain ⟨x, hx, e⟩ := memS s hs
            rw [e]
            exact lookup_nm ok (hp.gd x hx).2.1
          refine ⟨_, kv, .ref D2, d.ks, rs.map fun c => stepOf d.ds (some c), rfl, w8.sub, RPairs.mono w8.ff rk, ⟨D2, zs, rfl, upd_same, pd_mono (fun _ _ => RStep.mono s8) pd8⟩, ok, fun s hs => ?_, nmS, by simp; omega, fun r F9 H9 q9 rr => ?_⟩
          · obtain ⟨x, hx, e⟩ := memS s hs
            rw [e]
            exact Option.isSome_iff_exists.mp (hp.gd x hx).2.1
          · have w9 := w8.step q9
            refine ⟨sz (n := 2) (by decide), fun p2 hp2 => ?_⟩
            have w10 := w9.add (o := .tup [.str "row", r]) hp2
            have s10 := Same.new (o := .tup [.str "row", r]) (w9.sub.free hp2)
            have hp210 : upd F9 p2 (.tup [.str "row", r]) p2 = some (.tup [.str "row", r]) := upd_same
            have rr10 := RPairs.mono s10 rr
            have s710 : Same F7 (upd F9 p2 (.tup [.str "row", r])) := (pu8.ff.trans s8).trans (q9.ff.trans s10)
            generalize upd F9 p2 (.tup [.str "row", r]) = F10 at w10 hp210 rr10 s710
            generalize upd H9 p2 (.tup [.str "row", r]) = H10 at w10
            have em : (rs.map some).map (stepOf d.ds) = rs.map fun c => stepOf d.ds (some c) := by rw [List.map_map]; rfl
            have nmN : ∀ s ∈ normal d.ks (rs.map fun c => stepOf d.ds (some c)), nameOk s.1 = true := fun s hs => by
              obtain ⟨s0, h0, e⟩ := normal_sub hs
              rw [e]
              exact nmS s0 h0
            have done : ∀ (H11 : Hp) (x6 x8 x9 : Option V), Same H10 H11 → tAndV (tOp (rEqU K) (tCall (sp_told K CT CN CP CR) [] E0 (tCons (tVar 0) (tCons (tVar 3) tNil))) (tVar 7)) (tOp (rEqU K) (tCall (sp_told K CT CN CP CR) [] E0 (tCons (tVar 0) (tCons (tVar 5) tNil))) (tVar 7))
                [some pv0, some kv, some (.ref aa), some (.ref ra), some (.int (faultI none)), some (.ref tl), x6, some (.ref p2), x8, x9] H11 Q := fun H11 x6 x8 x9 s11 =>
              fin F10 H11 (.ref p2) (rowD (normal d.ks (rs.map fun c => stepOf d.ds (some c)))) (w10.tmp s11) s710 (fun H9 s9 => .tup (SqT.of (s9 _ _ hp210)) (.cons (.str _) (.cons ((RD.lst RDstep).dp K _ _ F10 H9 s9 rr10) .nil))) (rowD_ok nmN).1 (rowD_ok nmN).2 (by rw [em]; rfl) x6 x8 x9
            -- the run whose first number is False
            refine ⟨_, rfl, _, rfl, .inl ⟨rfl, _, rfl, ?_⟩⟩
            rw [run1]
            refine iteT ⟨_, rfl, sz (n := 0) (by decide), fun c hc => ?_⟩
            have w11 := w10.tmp (Same.new (o := .lst []) hc)
            have sc : Same H10 (upd H10 c (.lst [])) := Same.new hc
            have hra10 := w10.ff _ _ hra
            refine .inr ⟨clsD rs, .list [], .lst (SqL.of (w11.sub _ _ hra10)) (RDcl.all (w11.ff.trans w11.sub) pdr), .lst (SqL.of upd_same) .nil, cls_shaped _, rfl, ?_⟩
            rw [cls_eqv]
            refine ⟨_, rfl, ?_⟩
            generalize upd H10 c (.lst []) = H11 at w11 sc
            cases hre : rs.isEmpty with
            | true => exact iteF (iteF (done _ _ _ _ sc))
            | false =>
              obtain ⟨r0, hr0⟩ : ∃ r0, rs[0]? = some r0 := by
                cases rs with
                | nil => cases hre
                | cons r0 _ => exact ⟨r0, rfl⟩
              obtain ⟨v0, hv0, t0, y1, y2, rfl, ht0, rfl, rfl⟩ := pd_get' pdr hr0
              have ix : ∀ (H12 : Hp) (i : Nat) (v : V), Same F10 H12 → ([V.int r0.1, .int r0.2])[i]? = some v → ∀ Q : VK, Q v H12 → tOp (rIx K) (tOp (rIx K) (tVar 3) (tC (.int 0))) (tC (.int (i : Nat)))
                  [some pv0, some kv, some (.ref aa), some (.ref ra), some (.int (faultI none)), some (.ref tl), none, some (.ref p2), none, none] H12 Q := fun H12 i v s12 hv Q q =>
                ⟨_, rfl, .inl ⟨ra, xs, _, _, rfl, rfl, SqL.of (s12 _ _ hra10), atI_nat (j := 0) hv0, .inr (.inl ⟨t0, _, _, _, rfl, rfl, SqT.of (s12 _ _ (w10.ff _ _ ht0)), atI_nat hv, q⟩)⟩⟩
              refine iteT (ix _ 0 _ w11.sub rfl _ (.inl ⟨rfl, _, rfl, ?_⟩))
              by_cases hz : r0.1 = 0
              · rw [decide_eq_true (congrArg V.int hz)]
                refine iteT ⟨_, rfl, a, dx, _, hp.ev, w11.sub _ _ (w11.ff _ _ hp.ob), rfl, ?_⟩
                refine ix _ 1 _ w11.sub rfl _ ⟨sz (n := 2) (by decide), fun p3 hp3 => ⟨sz (n := 1) (by decide), fun l3 hl3 => ?_⟩⟩
                have w12 := w11.new (o := .tup [.bl false, .int r0.2]) hp3
                have w13 := w12.new (o := .lst [.ref p3]) hl3
                refine ⟨_, rfl, _, rfl, ra, xs, rfl, SqL.of (w13.sub _ _ hra10), fun p4 hp4 => ?_⟩
                rw [show cutV xs (some 1) none = xs.drop 1 from cut_drop (i := 1)]
                have w14 := w13.new (o := .lst (xs.drop 1)) hp4
                refine .inr (.inr ⟨l3, p4, [.ref p3], xs.drop 1, rfl, rfl, w14.at 1, w14.at 0, sz (by simp; omega), fun q hq => ?_⟩)
                have w15 := w14.new (o := .lst ([.ref p3] ++ xs.drop 1)) hq
                refine ⟨pv0, .ref q, rfl, .inr ⟨F10, q, .ref p3 :: xs.drop 1, d, none :: (rs.drop 1).map some, rfl, w15.sub, (RPlan CT CN CP).mono w10.ff rp, .inl (w15.at 0), .cons (.nint (.inr (w15.at 3)) (TyX.base (TyOf.bl false)) (kit_ty (r := true) (by decide +kernel)) (.inl rfl)) ?_, by simp; omega, fun H16 s16 => ?_⟩⟩
                · have := pv_tup (K := K) (w15.ff.trans w15.sub) pdr
                  cases pdr with
                  | nil => exact .nil
                  | cons h t => exact pv_tup (w15.ff.trans w15.sub) t
                · have e0 : (faultD d.ds d.e d.b 0 (none :: (rs.drop 1).map some)).isNone = false := by
                    rw [faultD_cons]
                    rfl
                  rw [e0]
                  have s1116 : Same H11 H16 := w15.tmp s16 |> fun _ => (((Same.new hp3).trans (Same.new hl3)).trans ((Same.new hp4).trans (Same.new hq))).trans s16
                  exact ⟨_, rfl, iteF (done _ _ _ _ (sc.trans s1116))⟩
              · rw [decide_eq_false (fun q => hz (V.int.inj q))]
                exact iteF (iteF (done _ _ _ _ sc))
end
end TR

/-! part B10 -/
namespace TR
open PySem PySem.Spec PyProof.Rows L2 G
theorem StP.ok {st : List Str} {m : Nat} (h : StP st m) (hm : m ≤ 10) : (∀ z ∈ st, nameOk z = true ∧ z.length ≤ 1000) ∧ st.Nodup := by
  refine ⟨fun z hz => ?_, List.pairwise_iff_getElem.mpr fun i j hi hj hij e => ?_⟩
  · obtain ⟨j, hj⟩ := List.getElem?_of_mem hz
    have := h.2 j z hj
    exact ⟨this.1, this.2.1⟩
  · have a := (h.2 i st[i] (List.getElem?_eq_getElem hi)).2.2
    have b := (h.2 j st[j] (List.getElem?_eq_getElem hj)).2.2
    rw [e, b] at a
    have := Option.some.inj a
    have := h.1
    omega
theorem zz_last : ("zz" : Str).cps.toList.getLast? = some 122 := by decide +kernel
theorem zz_st {st : List Str} {m : Nat} (h : StP st m) : ("zz" : Str) ∉ st := fun hz => by
  obtain ⟨j, hj⟩ := List.getElem?_of_mem hz
  have := (h.2 j _ hj).2.2
  rw [zz_last] at this
  have := Option.some.inj this
  omega
theorem zz_ks {ks : Kinds} {m : Nat} (h : KindP ks m) : ks.lookup ("zz" : Str) = none := by
  refine lookup_none fun hz => ?_
  obtain ⟨p, hp, e⟩ := List.mem_map.mp hz
  obtain ⟨j, hj⟩ := List.getElem?_of_mem hp
  have := (h.2 j p hj).1.2.2
  rw [e, zz_last] at this
  have := Option.some.inj this
  omega
def triD (k : Str) (d : PyData) : PyData := .tuple [.str k, d, .bool true]
theorem triD_ok {k : Str} {d : PyData} (h1 : (PyData.str k).canLay0 = true) (h2 : d.canLay0 = true) (h3 : d.depth ≤ 50) : (triD k d).canLay0 = true ∧ SeqAt.shaped (triD k d) = true := by
  have h : (triD k d).canLay0 = true := by
    show ((PyData.str k).canLay0 && (d.canLay0 && (true && true))) = true
    rw [h1, h2]
    rfl
  refine ⟨h, shaped_of h ?_⟩
  show max 0 (max d.depth (max 0 0)) + 1 ≤ 64
  omega
theorem pd_take {α β : Type} {r : α → β → Prop} : ∀ {xs : List α} {ys : List β} (n : Nat), Paired r xs ys → Paired r (xs.take n) (ys.take n)
  | _, _, 0, _ => .nil
  | _, _, n + 1, .nil => .nil
  | _, _, n + 1, .cons h t => .cons h (pd_take n t)
theorem stOk_take {st : List Str} (ok : ∀ z ∈ st, nameOk z = true ∧ z.length ≤ 1000) (nd : st.Nodup) (s : Nat) (more : List V) (hs : s ≤ st.length) : StOk ((st.take s).map V.str ++ more) (st.take s) where
  pre := by rw [List.take_left' (by simp)]
  le := by simp
  ok := fun z hz => ok z (List.mem_of_mem_take hz)
  nd := List.Sublist.nodup (List.take_sublist s st) nd
section
variable {P : Program} {w : World} {K : PySem.W.Frag} {mg : Str → Option Value} {base : Heap} {CT CN CP EN ET EA ES CR TE : Addr}
abbrev s_w_refusals : Stmt := top 57
abbrev N_w_refusals : List Str := ["_law_bag_here", "_law_turns", "_law_stations", "_law_made", "_law_begin", "_law_one", "_law_every", "_law_name", "_law_wrong", "_law_arrow", "_law_at", "_law_spot", "_law_strange", "_law_due"]
abbrev P_w_refusals : List Str := ["_law_bag_here", "_law_turns", "_law_stations", "_law_made", "_law_begin"]
theorem sc_w_refusals : FnScope N_w_refusals P_w_refusals (defScope s_w_refusals) := ⟨rfl, rfl, rfl, by decide +kernel, rfl, by decide +kernel, by decide +kernel⟩
theorem bn_w_refusals : BindsNo "_law_refusals" "_law_refusals" s_w_refusals P_w_refusals := fun _ _ _ _ _ _ us hl => match us, hl with | [_, _, _, _, _], _ => rfl
def sp_refusals (CT CN : Addr) : Sp := fun vs H Q _ => ∃ (F : Hp) (b ls lm : Addr) (n m mk : Nat) (tv : V) (bg : Str) (ks : Kinds) (st : List Str) (ms : List V) (ds : List ArrD), vs = [.ref b, tv, .ref ls, .ref lm, .str bg] ∧ Same F H ∧ F b = none ∧ BagIn F b n H ∧ (RTurns CT).rel ks tv F ∧ KindP ks mk ∧ 0 < mk ∧ mk ≤ 8 ∧
  F ls = some (.lst (st.map V.str)) ∧ StP st m ∧ 0 < m ∧ m ≤ 4 ∧ F lm = some (.lst ms) ∧ Paired (fun d v => (RArr CN).rel d v F ∧ arrGood ks st d) ds ms ∧ ds.length ≤ 5 ∧ bg ∈ st ∧ n < 10000000 ∧
  ∀ F' H', Pb b F H F' H' → BagIn F' b (n + 10) H' → Q (.bl true) H'
theorem ok_refusals (B : Bt mg) (T : KlF K mg "Turns" CT ["pairs", "names", "periods", "ranks"]) (g_Numbers : mg "Numbers" = some (.ref CN)) (kl : PySem.W.kitOne K (.type "list") (.ref CN) = some false) (c_w_draw : Cal P w K mg base 1 "_law_draw" sp_draw) (c_w_tried : Cal P w K mg base 5 "_law_tried" (sp_tried K CT CN))
    (st_every : Sta P w K mg base 5 CN "every" (sp_every CN)) (F : FnF K mg "_law_refusals" s_w_refusals []) : Cal P w K mg base 6 "_law_refusals" (sp_refusals CT CN) := by
  refine F.cal sc_w_refusals bn_w_refusals (fun vs H Q E h => ?_) (fun f cdv A outer s H vs Q E hr h => ?_)
  · obtain ⟨_, _, _, _, _, _, _, _, _, _, _, _, _, rfl, _⟩ := h
    rfl
  · obtain ⟨F, b, ls, lm, n, m, mk, tv, bg, ks, st, ms, ds, rfl, sF, fb, g, rt, kp, hk0, hk8, hls, sp, hm0, hm4, hlm, pdm, hdl, hbg, hn, k⟩ := h
    obtain ⟨ta, tdx, tp, tn, td, tr, t⟩ := id rt
    obtain ⟨stok, stnd⟩ := sp.ok (by omega)
    have hml : ms.length = ds.length := pd_len pdm
    refine ⟨_, (pss_cons (ps_set (i := 5) sc_w_refusals.nd rfl (Or.inl rfl) (pe_ix (k_ix (K := K)) (pv 2) pe_int (fun _ _ => rfl)))
    (pss_cons (ps_set (i := 6) sc_w_refusals.nd rfl (Or.inl rfl) (pe_st0 st_every hr (by decide) (pe_gr g_Numbers) passL))
    (pss_cons (ps_set (i := 7) sc_w_refusals.nd rfl (Or.inl rfl) (pe_ix (k_ix (K := K)) (k_fld (pv 1) (K := K)) pe_int (fun _ _ => rfl)))
    (pss_cons (ps_set (i := 8) sc_w_refusals.nd rfl (Or.inl rfl) (pe_lst (pa_cons (pe_tup (pa_cons pe_str (pa_cons (pv 7) (pa_cons (pv 6) (pa_cons (pv 5) pa_nil))))) (pa_cons (pe_tup (pa_cons (pv 5) (pa_cons pe_str (pa_cons (pv 6) (pa_cons (pv 5) pa_nil))))) (pa_cons (pe_tup (pa_cons (pv 5) (pa_cons (pv 7) (pa_cons (pv 6) (pa_cons pe_str pa_nil))))) (pa_cons (pe_tup (pa_cons (pv 5) (pa_cons (pv 7) (pa_cons (pe_lst (pa_cons (pe_tup (pa_cons pe_int (pa_cons pe_int pa_nil))) pa_nil)) (pa_cons (pv 5) pa_nil))))) (pa_cons (pe_lst (pa_cons (pv 5) (pa_cons (pv 7) (pa_cons (pv 6) (pa_cons (pv 5) pa_nil))))) (pa_cons (pe_tup (pa_cons (pv 5) (pa_cons (pv 7) (pa_cons (pv 6) pa_nil)))) (pa_cons pe_non (pa_cons (pe_tup (pa_cons (pv 5) (pa_cons (pe_lst (pa_cons (pv 7) pa_nil)) (pa_cons (pv 6) (pa_cons (pv 5) pa_nil))))) pa_nil))))))))))
    (pss_cons (ps_set (i := 9) sc_w_refusals.nd rfl (Or.inl rfl) (pe_ix (k_ix (K := K)) (pv 8) (pe_c c_w_draw hr (by decide) (pa_cons (pv 0) (pa_cons pe_int pa_nil)) passL) (fun _ _ => rfl)))
    (pss_cons (ps_set (i := 10) sc_w_refusals.nd rfl (Or.inl rfl) (pe_c c_w_draw hr (by decide) (pa_cons (pv 0) (pa_cons (pe_op op_addU (pe_callB (call_lenU (K := K)) (by rfl) B.len (by decide +kernel) (pa_cons (pv 3) pa_nil)) pe_int) pa_nil)) passL))
    (pss_cons (ps_if (pt_cmpR (op_neU hr (K := K)) (pe_c c_w_tried hr (by decide) (pa_cons (pv 1) (pa_cons (pv 2) (pa_cons (pe_op op_addU (pe_op op_addU (pe_slice (k_sl_list (K := K)) (pv 3) po_none (po_some (pv 10))) (pe_lst (pa_cons (pv 9) pa_nil))) (pe_slice (k_sl_list (K := K)) (pv 3) (po_some (pv 10)) po_none)) (pa_cons pe_str (pa_cons pe_str pa_nil))))) passL) (pe_tup (pa_cons pe_str (pa_cons (pv 10) (pa_cons pe_bl pa_nil)))) (nomark _)) (pss_one (ps_ret pe_bl)) pss_nil)
    (pss_cons (ps_set (i := 11) sc_w_refusals.nd rfl (Or.inl rfl) (pe_c c_w_draw hr (by decide) (pa_cons (pv 0) (pa_cons (pe_op op_addU (pe_callB (call_lenU (K := K)) (by rfl) B.len (by decide +kernel) (pa_cons (pv 2) pa_nil)) pe_int) pa_nil)) passL))
    (pss_cons (ps_set (i := 12) sc_w_refusals.nd rfl (Or.inl rfl) (pe_ix (k_ix (K := K)) (pe_lst (pa_cons pe_str (pa_cons pe_str (pa_cons pe_int (pa_cons (pe_lst (pa_cons pe_str pa_nil)) (pa_cons (pv 5) pa_nil)))))) (pe_c c_w_draw hr (by decide) (pa_cons (pv 0) (pa_cons pe_int pa_nil)) passL) (fun _ _ => rfl)))
    (pss_cons (ps_set (i := 13) sc_w_refusals.nd rfl (Or.inl rfl) (pe_tup (pa_cons (pe_ifExp (pt_cmpR (op_eqU hr (K := K)) (pv 12) (pv 5) (nomark _)) pe_str pe_str) (pa_cons (pv 12) (pa_cons pe_bl pa_nil)))))
    (pss_cons (ps_if (pt_cmpR (op_neU hr (K := K)) (pe_c c_w_tried hr (by decide) (pa_cons (pv 1) (pa_cons (pe_op op_addU (pe_op op_addU (pe_slice (k_sl_list (K := K)) (pv 2) po_none (po_some (pv 11))) (pe_lst (pa_cons (pv 12) pa_nil))) (pe_slice (k_sl_list (K := K)) (pv 2) (po_some (pv 11)) po_none)) (pa_cons (pe_lst (pa_cons pe_non pa_nil)) (pa_cons pe_str (pa_cons (pv 4) pa_nil))))) passL) (pv 13) (nomark _)) (pss_one (ps_ret pe_bl)) pss_nil)
    (pss_cons (ps_if (pt_cmpR (op_neU hr (K := K)) (pe_c c_w_tried hr (by decide) (pa_cons (pv 1) (pa_cons (pv 2) (pa_cons (pv 3) (pa_cons pe_str (pa_cons pe_int pa_nil))))) passL) (pe_tup (pa_cons pe_str (pa_cons pe_str (pa_cons pe_bl pa_nil)))) (nomark _)) (pss_one (ps_ret pe_bl)) pss_nil)
    (pss_one (ps_ret (pe_cmpR (op_eqU hr (K := K)) (pe_c c_w_tried hr (by decide) (pa_cons (pv 1) (pa_cons (pv 2) (pa_cons (pv 3) (pa_cons (pv 4) (pa_cons (pe_lst (pa_cons (pv 4) pa_nil)) pa_nil))))) passL) (pe_tup (pa_cons pe_str (pa_cons (pe_lst (pa_cons (pv 4) pa_nil)) (pa_cons pe_bl pa_nil)))) (nomark _)))))))))))))))), ?_⟩
    have w0 : Bw b F H F H n [] := Bw.nil sF fb g
    obtain ⟨one, hone, hone'⟩ : ∃ z, z ∈ st ∧ (st.map V.str)[0]? = some (.str z) := by
      have h0 : 0 < st.length := by rw [sp.1]; exact hm0
      exact ⟨st[0], List.getElem_mem h0, by rw [List.getElem?_map, List.getElem?_eq_getElem h0]; rfl⟩
    obtain ⟨nm, hnm, hnm'⟩ : ∃ z, (ks.lookup z).isSome = true ∧ (ks.map fun p => V.str p.1)[0]? = some (.str z) := by
      have h0 : 0 < ks.length := by rw [kp.1]; exact hk0
      exact ⟨ks[0].1, look_mem (List.getElem_mem h0), by rw [List.getElem?_map, List.getElem?_eq_getElem h0]; rfl⟩
    refine ⟨_, rfl, .inl ⟨ls, _, 0, _, rfl, rfl, SqL.of (w0.sub _ _ hls), atI_nat (j := 0) hone', ?_⟩⟩
    refine ⟨rfl, rfl, F, w0.sub, fun ev F1 H1 nd q1 rn => ?_⟩
    have w1 := w0.step q1
    refine ⟨_, rfl, ta, CT, tdx, _, _, t.ev, w1.sub _ _ (w1.ff _ _ t.ob), T.cl, T.no _ (by decide), rfl, .inr (.inl ⟨tn, _, 0, _, rfl, rfl, SqT.of (w1.sub _ _ (w1.ff _ _ t.nm)), atI_nat (j := 0) hnm', ?_⟩)⟩
    -- the wrong arrows
    refine ⟨_, rfl, _, rfl, _, rfl, sz (n := 4) (by decide), fun p0 hp0 => ?_⟩
    obtain ⟨G0, a0, s0, h0⟩ := w1.add' (o := .tup [.str "zz", .str nm, ev, .str one]) hp0
    refine ⟨_, rfl, _, rfl, _, rfl, sz (n := 4) (by decide), fun p1 hp1 => ?_⟩
    obtain ⟨G1, a1, s1, h1⟩ := a0.add' (o := .tup [.str one, .str "zz", ev, .str one]) hp1
    refine ⟨_, rfl, _, rfl, _, rfl, sz (n := 4) (by decide), fun p2 hp2 => ?_⟩
    obtain ⟨G2, a2, s2, h2⟩ := a1.add' (o := .tup [.str one, .str nm, ev, .str "zz"]) hp2
    refine ⟨_, rfl, _, rfl, sz (n := 2) (by decide), fun pa hpa => ⟨sz (n := 1) (by decide), fun pb hpb => ?_⟩⟩
    obtain ⟨Ga, aa, sa, ha⟩ := a2.add' (o := .tup [.int 0, .int 1]) hpa
    obtain ⟨Gb, ab, sb, hb⟩ := aa.add' (o := .lst [.ref pa]) hpb
    refine ⟨_, rfl, sz (n := 4) (by decide), fun p3 hp3 => ?_⟩
    obtain ⟨G3, a3, s3, h3⟩ := ab.add' (o := .tup [.str one, .str nm, .ref pb, .str one]) hp3
    refine ⟨_, rfl, _, rfl, _, rfl, _, rfl, sz (n := 4) (by decide), fun p4 hp4 => ?_⟩
    obtain ⟨G4, a4, s4, h4⟩ := a3.add' (o := .lst [.str one, .str nm, ev, .str one]) hp4
    refine ⟨_, rfl, _, rfl, _, rfl, sz (n := 3) (by decide), fun p5 hp5 => ?_⟩
    obtain ⟨G5, a5, s5, h5⟩ := a4.add' (o := .tup [.str one, .str nm, ev]) hp5
    refine ⟨_, rfl, _, rfl, sz (n := 1) (by decide), fun pc hpc => ?_⟩
    obtain ⟨Gc, ac, sc, hc⟩ := a5.add' (o := .lst [.str nm]) hpc
    refine ⟨_, rfl, _, rfl, sz (n := 4) (by decide), fun p7 hp7 => ?_⟩
    obtain ⟨G7, a7, s7, h7⟩ := ac.add' (o := .tup [.str one, .ref pc, ev, .str one]) hp7
    refine ⟨sz (n := 8) (by decide), fun W hW => ?_⟩
    obtain ⟨G8, a8, s8, h8⟩ := a7.add' (o := .lst [.ref p0, .ref p1, .ref p2, .ref p3, .ref p4, .ref p5, .non, .ref p7]) hW
    have S7 := s8
    have Sc := s7.trans S7
    have S5 := sc.trans Sc
    have S4 := s5.trans S5
    have S3 := s4.trans S4
    have Sb := s3.trans S3
    have Sa := sb.trans Sb
    have S2 := sa.trans Sa
    have S1 := s2.trans S2
    have S0 := s1.trans S1
    have SF := s0.trans S0
    have rn8 := (RNum CN).mono SF rn
    have zst := zz_st sp
    have zks := zz_ks kp
    refine ⟨_, rfl, _, rfl, G8, b, _, 8, rfl, a8.sub, a8.fb, a8.bg, by decide, by decide, by omega, fun dw H9 dw0 dw1 q9 g9 => ?_⟩
    have a9 := a8.call q9 g9
    obtain ⟨y, hy, bad⟩ : ∃ y, ([V.ref p0, .ref p1, .ref p2, .ref p3, .ref p4, .ref p5, .non, .ref p7])[dw.toNat]? = some y ∧ ArrBad K CN ks st y G8 := by
      rcases (by omega : dw = 0 ∨ dw = 1 ∨ dw = 2 ∨ dw = 3 ∨ dw = 4 ∨ dw = 5 ∨ dw = 6 ∨ dw = 7) with h | h | h | h | h | h | h | h <;> subst h
      · exact ⟨_, rfl, .out (d := ⟨"zz", nm, nd, one⟩) ⟨p0, ev, rfl, S0 _ _ h0, rn8⟩ fun q => zst q.1⟩
      · exact ⟨_, rfl, .out (d := ⟨one, "zz", nd, one⟩) ⟨p1, ev, rfl, S1 _ _ h1, rn8⟩ fun q => by have := q.2.1; rw [show ks.lookup (ArrD.mk one "zz" nd one).name = none from zks] at this; cases this⟩
      · exact ⟨_, rfl, .out (d := ⟨one, nm, nd, "zz"⟩) ⟨p2, ev, rfl, S2 _ _ h2, rn8⟩ fun q => zst q.2.2⟩
      · exact ⟨_, rfl, .num (S3 _ _ h3) (TyX.base (TyOf.lst (Sb _ _ hb))) kl⟩
      · exact ⟨_, rfl, .ty (TyX.base (TyOf.lst (S4 _ _ h4))) (kit_ty (r := false) (by decide +kernel))⟩
      · exact ⟨_, rfl, .len (S5 _ _ h5) (show (3 : Nat) ≠ 4 by decide)⟩
      · exact ⟨_, rfl, .ty (TyX.base TyOf.non) (kit_ty (r := false) (by decide +kernel))⟩
      · exact ⟨_, rfl, .str1 (S7 _ _ h7) rn8 ⟨_, TyX.base (TyOf.lst (Sc _ _ hc)), kit_ty (r := false) (by decide +kernel)⟩⟩
    refine .inl ⟨W, _, dw, y, rfl, rfl, SqL.of (a9.sub _ _ h8), atI_int dw0 hy, ?_⟩
    -- at
    have hlm9 := a9.ff _ _ hlm
    have hls9 := a9.ff _ _ hls
    have pdm9 := pd_mono (fun (d : ArrD) (v : V) (h : (RArr CN).rel d v F ∧ arrGood ks st d) => (⟨(RArr CN).mono a9.ff h.1, h.2⟩ : (RArr CN).rel d v G8 ∧ arrGood ks st d)) pdm
    refine ⟨_, rfl, _, rfl, .inl ⟨lm, ms, rfl, .inl (SqL.of (a9.sub _ _ hlm9)), .inl ⟨_, _, rfl, rfl, ?_⟩⟩⟩
    refine ⟨G8, b, _, (ms.length : Nat) + 1, rfl, a9.sub, a9.fb, a9.bg, by omega, by omega, by omega, fun pos H10 ps0 ps1 q10 g10 => ?_⟩
    have a10 := a9.call q10 g10
    have hps : pos = ((pos.toNat : Nat) : Int) := by omega
    generalize pos.toNat = p at hps
    subst hps
    have hp : p ≤ ms.length := by omega
    -- made[:at] + [arrow] + made[at:]
    refine ⟨_, rfl, _, rfl, _, rfl, _, rfl, _, rfl, lm, ms, rfl, SqL.of (a10.sub _ _ hlm9), fun l1 hl1 => ?_⟩
    rw [cut_take hp]
    have b1 := a10.new (o := .lst (ms.take p)) hl1
    refine ⟨_, rfl, sz (n := 1) (by decide), fun l2 hl2 => ?_⟩
    have b2 := b1.new (o := .lst [y]) hl2
    refine .inr (.inr ⟨l1, l2, _, _, rfl, rfl, b2.at 1, b2.at 0, sz (by simp; omega), fun l3 hl3 => ?_⟩)
    have b3 := b2.new (o := .lst (ms.take p ++ [y])) hl3
    refine ⟨_, rfl, _, rfl, _, rfl, lm, ms, rfl, SqL.of (b3.sub _ _ hlm9), fun l4 hl4 => ?_⟩
    rw [show cutV ms (some (p : Int)) none = ms.drop p from cut_drop]
    have b4 := b3.new (o := .lst (ms.drop p)) hl4
    refine .inr (.inr ⟨l3, l4, _, _, rfl, rfl, b4.at 1, b4.at 0, sz (by simp; omega), fun l5 hl5 => ?_⟩)
    obtain ⟨G11, a11, s11, h11⟩ := b4.add' (o := .lst (ms.take p ++ [y] ++ ms.drop p)) hl5
    have tk : (ms.take p ++ [y] ++ ms.drop p).take (ds.take p).length = ms.take p := by
      have : (ds.take p).length = (ms.take p).length := by simp [hml]
      rw [this, List.append_assoc, List.take_left' rfl]
    have atp : (ms.take p ++ [y] ++ ms.drop p)[(ds.take p).length]? = some y := by
      have : (ds.take p).length = (ms.take p).length := by simp [hml]
      rw [this, List.append_assoc, List.getElem?_append_right (Nat.le_refl _)]
      simp
    have stall : StOk (st.map V.str) st := by
      have := stOk_take stok stnd st.length [] (Nat.le_refl _)
      rw [take_all, List.append_nil] at this
      exact this
    have hstl := sp.1
    refine ⟨G11, ls, l5, tv, .str "zz", .str "yy", ks, st.map V.str, _, st, ds.take p, "arrow", .int (p : Nat), rfl, a11.sub, (RTurns CT).mono a11.ff rt, s11 _ _ hls9, h11, by simp; omega, by simp; omega, stall, ?_, ?_, .inr (.inr (.inl ⟨rfl, by simp, y, atp, ArrBad.mono s11 bad, ?_⟩)), ?_⟩
    · rw [tk]
      exact pd_take p (pd_mono (fun (d : ArrD) (v : V) (h : (RArr CN).rel d v G8 ∧ arrGood ks st d) => (⟨(RArr CN).mono s11 h.1, h.2⟩ : (RArr CN).rel d v G11 ∧ arrGood ks st d)) pdm9)
    · simp; omega
    · have : (ds.take p).length = p := by simp; omega
      rw [this]
    intro r G12 H12 q12 hr12
    obtain ⟨r12, rfl, h12⟩ := hr12
    have a12 := a11.step q12
    refine ⟨_, rfl, sz (n := 3) (by decide), fun u1 hu1 => ?_⟩
    have a13 := a12.tmp (Same.new (o := .tup [.str "arrow", .int (p : Nat), .bl true]) hu1)
    have tri := triD_ok (k := "arrow") (d := .int (p : Nat)) (by decide +kernel) rfl (Nat.zero_le _)
    refine .inr ⟨triD "arrow" (.int (p : Nat)), triD "arrow" (.int (p : Nat)), .tup (SqT.of (a13.sub _ _ h12)) (.cons (.str _) (.cons (.int _) (.cons (.bl _) .nil))), .tup (SqT.of upd_same) (.cons (.str _) (.cons (.int _) (.cons (.bl _) .nil))), tri.2, tri.2, ?_⟩
    rw [SeqAt.eqv_refl _ tri.1]
    refine ⟨_, rfl, iteF ?_⟩
    -- spot
    have hls12 := a13.ff _ _ hls
    refine ⟨_, rfl, _, rfl, .inl ⟨ls, _, rfl, .inl (SqL.of (a13.sub _ _ hls12)), .inl ⟨_, _, rfl, rfl, ?_⟩⟩⟩
    rw [List.length_map]
    refine ⟨G12, b, _, (st.length : Nat) + 1, rfl, a13.sub, a13.fb, a13.bg, by omega, by omega, by omega, fun spot H14 sp0 sp1 q14 g14 => ?_⟩
    have a14 := a13.call q14 g14
    have hsp : spot = ((spot.toNat : Nat) : Int) := by omega
    generalize spot.toNat = s at hsp
    subst hsp
    have hs : s ≤ st.length := by omega
    -- strange
    refine ⟨sz (n := 1) (by decide), fun pS hpS => ?_⟩
    obtain ⟨G15, a15, s15, h15⟩ := a14.add' (o := .lst [.str "s"]) hpS
    refine ⟨_, rfl, sz (n := 5) (by decide), fun pL hpL => ?_⟩
    obtain ⟨G16, a16, s16, h16⟩ := a15.add' (o := .lst [.str "", .str "aB", .int 7, .ref pS, .str one]) hpL
    refine ⟨_, rfl, G16, b, _, 5, rfl, a16.sub, a16.fb, a16.bg, by decide, by decide, by omega, fun dS H17 dS0 dS1 q17 g17 => ?_⟩
    have a17 := a16.call q17 g17
    have hS := s16 _ _ h15
    have onm := (stok one hone).1
    -- the strange one, what is due, and its data
    obtain ⟨v, hv, kind, dv, hk, hdv, hlay, hdep, hcase⟩ : ∃ v, ([V.str "", .str "aB", .int 7, .ref pS, .str one])[dS.toNat]? = some v ∧ ∃ (kind : Str) (dv : PyData), (kind = "name" ∨ kind = "twice") ∧ (∀ H, Same G16 H → Dp K H v dv) ∧ dv.canLay0 = true ∧ dv.depth ≤ 50 ∧
        (∀ (H : Hp) (Q : VK), Same G16 H → Q (.bl (decide (kind = "twice"))) H → rEqU K v (.str one) H Q) ∧ ((kind = "name" ∧ BadName K G16 v) ∨ (kind = "twice" ∧ v = .str one)) := by
      have nS : nameOk ("" : Str) = false := by decide +kernel
      have nB : nameOk ("aB" : Str) = false := by decide +kernel
      have ne1 : ¬ ("" : Str) = one := fun e => by rw [← e, nS] at onm; cases onm
      have ne2 : ¬ ("aB" : Str) = one := fun e => by rw [← e, nB] at onm; cases onm
      have nk : ¬ (("name" : Str) = "twice") := by decide +kernel
      rcases (by omega : dS = 0 ∨ dS = 1 ∨ dS = 2 ∨ dS = 3 ∨ dS = 4) with h | h | h | h | h <;> subst h
      · refine ⟨_, rfl, "name", .str "", .inl rfl, fun H _ => .str _, by decide +kernel, Nat.zero_le _, fun H Q _ q => .inl ⟨rfl, ?_⟩, .inl ⟨rfl, .inl ⟨_, rfl, by decide +kernel, nS⟩⟩⟩
        rw [decide_eq_false nk] at q
        rw [decide_eq_false (fun e => ne1 (V.str.inj e))]
        exact q
      · refine ⟨_, rfl, "name", .str "aB", .inl rfl, fun H _ => .str _, by decide +kernel, Nat.zero_le _, fun H Q _ q => .inl ⟨rfl, ?_⟩, .inl ⟨rfl, .inl ⟨_, rfl, by decide +kernel, nB⟩⟩⟩
        rw [decide_eq_false nk] at q
        rw [decide_eq_false (fun e => ne2 (V.str.inj e))]
        exact q
      · refine ⟨_, rfl, "name", .int 7, .inl rfl, fun H _ => .int _, rfl, Nat.zero_le _, fun H Q _ q => .inl ⟨rfl, ?_⟩, .inl ⟨rfl, .inr ⟨_, TyX.base (TyOf.int _), kit_ty (r := false) (by decide +kernel)⟩⟩⟩
        rw [decide_eq_false nk] at q
        rw [decide_eq_false (fun e => by cases e)]
        exact q
      · refine ⟨_, rfl, "name", .list [.str "s"], .inl rfl, fun H s => .lst (SqL.of (s _ _ hS)) (.cons (.str _) .nil), by decide +kernel, by show max 0 0 + 1 ≤ 50; decide, fun H Q s q => .inr ⟨.list [.str "s"], .str one, .lst (SqL.of (s _ _ hS)) (.cons (.str _) .nil), .str _, shaped_of (by decide +kernel) (by show max 0 0 + 1 ≤ 64; decide), shaped_of (str_lay onm) (Nat.zero_le _), ?_⟩, .inl ⟨rfl, .inr ⟨_, TyX.base (TyOf.lst hS), kit_ty (r := false) (by decide +kernel)⟩⟩⟩
        rw [decide_eq_false nk] at q
        rw [show PyData.eqv (.list [.str "s"]) (.str one) = false by simp only [PyData.eqv]]
        exact q
      · refine ⟨_, rfl, "twice", .str one, .inr rfl, fun H _ => .str _, str_lay onm, Nat.zero_le _, fun H Q _ q => .inl ⟨rfl, ?_⟩, .inr ⟨rfl, rfl⟩⟩
        rw [decide_eq_true rfl] at q
        rw [decide_eq_true rfl]
        exact q
    refine .inl ⟨pL, _, dS, v, rfl, rfl, SqL.of (a17.sub _ _ h16), atI_int dS0 hv, ?_⟩
    -- due
    have a18 := a17.drop.drop.drop.drop
    dsimp only
    refine sj (R := fun σ2 H2 => ∃ (G18 : Hp) (pD : Addr), Bw b F H G18 H2 (n + 4) [] ∧ Same G16 G18 ∧ G18 pD = some (.tup [.str kind, v, .bl true]) ∧
      σ2 = [some (.ref b), some tv, some (.ref ls), some (.ref lm), some (.str bg), some (.str one), some ev, some (.str nm), some (.ref W), some y, some (.int (p : Nat)), some (.int (s : Nat)), some v, some (.ref pD)]) ?_ (fun go => ?_)
    · rintro σ2 H2 ⟨G18, pD, c0, s18, hpD, rfl⟩
      have hls18 := c0.ff _ _ hls
      -- stations[:spot] + [strange] + stations[spot:]
      refine ⟨_, rfl, _, rfl, _, rfl, _, rfl, ls, _, rfl, SqL.of (c0.sub _ _ hls18), fun l1 hl1 => ?_⟩
      rw [cut_take (by rw [List.length_map]; exact hs)]
      have b1 := c0.new (o := .lst ((st.map V.str).take s)) hl1
      refine ⟨_, rfl, sz (n := 1) (by decide), fun l2 hl2 => ?_⟩
      have b2 := b1.new (o := .lst [v]) hl2
      refine .inr (.inr ⟨l1, l2, _, _, rfl, rfl, b2.at 1, b2.at 0, sz (by simp; omega), fun l3 hl3 => ?_⟩)
      have b3 := b2.new (o := .lst ((st.map V.str).take s ++ [v])) hl3
      refine ⟨_, rfl, _, rfl, _, rfl, ls, _, rfl, SqL.of (b3.sub _ _ hls18), fun l4 hl4 => ?_⟩
      rw [show cutV (st.map V.str) (some (s : Int)) none = (st.map V.str).drop s from cut_drop]
      have b4 := b3.new (o := .lst ((st.map V.str).drop s)) hl4
      refine .inr (.inr ⟨l3, l4, _, _, rfl, rfl, b4.at 1, b4.at 0, sz (by simp; omega), fun l5 hl5 => ?_⟩)
      obtain ⟨G19, c1, s19, h19⟩ := b4.add' (o := .lst ((st.map V.str).take s ++ [v] ++ (st.map V.str).drop s)) hl5
      -- [None]
      refine ⟨sz (n := 1) (by decide), fun l6 hl6 => ?_⟩
      obtain ⟨G20, c2, s20, h20⟩ := c1.add' (o := .lst [.non]) hl6
      have c3 := c2.drop.drop.drop.drop
      have refu : ∃ st' : List Str, StOk ((st.map V.str).take s ++ [v] ++ (st.map V.str).drop s) st' ∧ Refused K CN G20 ks ((st.map V.str).take s ++ [v] ++ (st.map V.str).drop s) [V.non] (.str "zz") (.str bg) st' [] kind v := by
        have so1 : StOk ((st.map V.str).take s ++ [v] ++ (st.map V.str).drop s) (st.take s) := by
          have := stOk_take stok stnd s ([v] ++ (st.map V.str).drop s) hs
          rwa [List.map_take, ← List.append_assoc] at this
        have at1 : ((st.map V.str).take s ++ [v] ++ (st.map V.str).drop s)[(st.take s).length]? = some v := by
          have : (st.take s).length = ((st.map V.str).take s).length := by simp
          rw [this, List.append_assoc, List.getElem?_append_right (Nat.le_refl _)]
          simp
        have S20 : Same G16 G20 := s18.trans (s19.trans s20)
        rcases hcase.2 with ⟨e, hb⟩ | ⟨e, ev1⟩
        · refine ⟨st.take s, so1, .inl ⟨e, at1, ?_⟩⟩
          rcases hb with ⟨z, h1, h2, h3⟩ | h1
          · exact .inl ⟨z, h1, h2, h3⟩
          · exact .inr (NotStr.mono S20 h1)
        · subst ev1
          cases st with
          | nil => cases hone'
          | cons z st0 =>
            have ez : z = one := by
              have : V.str z = .str one := Option.some.inj hone'
              exact V.str.inj this
            subst ez
            cases s with
            | zero =>
              refine ⟨[z], ⟨rfl, by simp, fun x hx => stok x (by rw [List.mem_singleton.mp hx]; simp), by simp⟩, .inr (.inl ⟨e, z, rfl, rfl, by simp⟩)⟩
            | succ s1 => exact ⟨_, so1, .inr (.inl ⟨e, z, rfl, at1, by simp⟩)⟩
      obtain ⟨st', so', rf'⟩ := refu
      refine ⟨_, rfl, G20, l5, l6, tv, .str "zz", .str bg, ks, _, _, st', [], kind, v, rfl, c3.sub, (RTurns CT).mono c3.ff rt, s20 _ _ h19, h20, by simp; omega, by decide, so', .nil, Nat.zero_le _, rf', fun r G21 H21 q21 hr21 => ?_⟩
      obtain ⟨r21, rfl, h21⟩ := hr21
      have c4 := c3.step q21
      have S21 : Same G16 G21 := s18.trans (s19.trans (s20.trans q21.ff))
      have S1821 : Same G18 G21 := s19.trans (s20.trans q21.ff)
      have klay : (PyData.str kind).canLay0 = true := by
        rcases hk with rfl | rfl <;> decide +kernel
      have tri2 := triD_ok (k := kind) (d := dv) klay hlay hdep
      refine ⟨_, rfl, .inr ⟨triD kind dv, triD kind dv, .tup (SqT.of (c4.sub _ _ h21)) (.cons (.str _) (.cons (hdv _ (S21.trans c4.sub)) (.cons (.bl _) .nil))), .tup (SqT.of (c4.sub _ _ (S1821 _ _ hpD))) (.cons (.str _) (.cons (hdv _ (S21.trans c4.sub)) (.cons (.bl _) .nil))), tri2.2, tri2.2, ?_⟩⟩
      rw [SeqAt.eqv_refl _ tri2.1]
      refine ⟨_, rfl, iteF ?_⟩
      have hls21 := c4.ff _ _ hls
      have hlm21 := c4.ff _ _ hlm
      have tkm : ms.take ds.length = ms := by rw [← hml, take_all]
      have pdm21 : ∀ {G : Hp}, Same F G → Paired (fun (d : ArrD) (v : V) => (RArr CN).rel d v G ∧ arrGood ks st d) ds (ms.take ds.length) := fun s => by
        rw [tkm]
        exact pd_mono (fun (d : ArrD) (v : V) (h : (RArr CN).rel d v F ∧ arrGood ks st d) => ⟨(RArr CN).mono s h.1, h.2⟩) pdm
      -- the begin that is no station
      refine ⟨_, rfl, _, rfl, _, rfl, G21, ls, lm, tv, .str "zz", .int 5, ks, _, ms, st, ds, "station", .str "zz", rfl, c4.sub, (RTurns CT).mono c4.ff rt, hls21, hlm21, by simp; omega, by omega, stall, pdm21 c4.ff, by omega, .inr (.inr (.inr ⟨rfl, by simp, hml.symm, .inl ⟨.inl ⟨_, rfl, zst⟩, rfl⟩⟩)), fun r G22 H22 q22 hr22 => ?_⟩
      obtain ⟨r22, rfl, h22⟩ := hr22
      have c5 := c4.step q22
      refine ⟨sz (n := 3) (by decide), fun u2 hu2 => ?_⟩
      have c6 := c5.tmp (Same.new (o := .tup [.str "station", .str "zz", .bl true]) hu2)
      have tri3 := triD_ok (k := "station") (d := .str "zz") (by decide +kernel) (by decide +kernel) (Nat.zero_le _)
      refine .inr ⟨triD "station" (.str "zz"), triD "station" (.str "zz"), .tup (SqT.of (c6.sub _ _ h22)) (.cons (.str _) (.cons (.str _) (.cons (.bl _) .nil))), .tup (SqT.of upd_same) (.cons (.str _) (.cons (.str _) (.cons (.bl _) .nil))), tri3.2, tri3.2, ?_⟩
      rw [SeqAt.eqv_refl _ tri3.1]
      refine ⟨_, rfl, iteF ?_⟩
      -- the end that is no text
      refine ⟨_, rfl, _, rfl, _, rfl, _, rfl, _, rfl, sz (n := 1) (by decide), fun pB hpB => ?_⟩
      obtain ⟨G23, c7, s23, h23⟩ := c6.add' (o := .lst [.str bg]) hpB
      refine ⟨G23, ls, lm, tv, .str bg, .ref pB, ks, _, ms, st, ds, "station", .ref pB, rfl, c7.sub, (RTurns CT).mono c7.ff rt, c7.ff _ _ hls, c7.ff _ _ hlm, by simp; omega, by omega, stall, pdm21 c7.ff, by omega, .inr (.inr (.inr ⟨rfl, by simp, hml.symm, .inr ⟨⟨bg, rfl, hbg⟩, .inr ⟨_, TyX.base (TyOf.lst h23), kit_ty (r := false) (by decide +kernel)⟩, rfl⟩⟩)), fun r G24 H24 q24 hr24 => ?_⟩
      obtain ⟨r24, rfl, h24⟩ := hr24
      have c8 := c7.step q24
      refine ⟨_, rfl, sz (n := 1) (by decide), fun pB2 hpB2 => ⟨sz (n := 3) (by decide), fun u3 hu3 => ?_⟩⟩
      obtain ⟨G25, c9, s25, h25⟩ := c8.add' (o := .lst [.str bg]) hpB2
      have c10 := c9.tmp (Same.new (o := .tup [.str "station", .ref pB2, .bl true]) hu3)
      have bnm := (stok bg hbg).1
      have llay : (PyData.list [.str bg]).canLay0 = true := by
        show ((PyData.str bg).canLay0 && true) = true
        rw [str_lay bnm]; rfl
      have tri4 := triD_ok (k := "station") (d := .list [.str bg]) (by decide +kernel) llay (by show max 0 0 + 1 ≤ 50; decide)
      refine .inr ⟨triD "station" (.list [.str bg]), triD "station" (.list [.str bg]), .tup (SqT.of (c10.sub _ _ (s25 _ _ h24))) (.cons (.str _) (.cons (.lst (SqL.of (c10.sub _ _ (s25 _ _ (q24.ff _ _ h23)))) (.cons (.str _) .nil)) (.cons (.bl _) .nil))), .tup (SqT.of upd_same) (.cons (.str _) (.cons (.lst (SqL.of (c10.sub _ _ h25)) (.cons (.str _) .nil)) (.cons (.bl _) .nil))), tri4.2, tri4.2, ?_⟩
      rw [SeqAt.eqv_refl _ tri4.1]
      exact k _ _ c10.pb (c10.le (by omega)).bg
    · refine ⟨_, rfl, _, rfl, hcase.1 _ _ a18.sub ⟨_, rfl, ?_⟩⟩
      rcases hk with rfl | rfl
      · rw [decide_eq_false (show ¬ (("name" : Str) = "twice") by decide +kernel)]
        refine iteF ⟨_, rfl, sz (n := 3) (by decide), fun pD hpD => ?_⟩
        obtain ⟨G18, c0, s18, h18⟩ := a18.add' (o := .tup [.str "name", v, .bl true]) hpD
        exact go _ _ ⟨G18, pD, c0.le (by omega), s18, h18, rfl⟩
      · rw [decide_eq_true rfl]
        refine iteT ⟨_, rfl, sz (n := 3) (by decide), fun pD hpD => ?_⟩
        obtain ⟨G18, c0, s18, h18⟩ := a18.add' (o := .tup [.str "twice", v, .bl true]) hpD
        exact go _ _ ⟨G18, pD, c0.le (by omega), s18, h18, rfl⟩
end
end TR

/-! part NeOwn -/
/-! x != y where the class of both says __eq__ and no __ne__. -/
namespace G
open PySem PySem.Spec PySem.W PyProof.Rows L2
open PySem.Builtin
section
variable {prog : Program} {w : World} {M : Model} {A : Around} {E : Value → Shared → Prop} {s : Shared} {K : Frag} {x y C f : Addr} {ox oy : Obj} {od oe : Option Obj}
theorem ifBound_objNe {args : List Value} {Q : Option Value → Shared → Prop} (X : K.In s.heap) (I : InstAt s.heap x ox C od) (hs : findIn K (.ref C) "__ne__" = some (some (.builtin "object.__ne__")))
    (h : wpAny M A (call (.builtin "object.__ne__") (.ref x :: args)) (fun v => Q (some v)) E s) : wpAny M A (callSpecialIfBound? (.ref x) "__ne__" args) Q E s := by
  simp only [callSpecialIfBound?, bindSpecialIfBound?]
  refine wpAny_holding (wpAny_bind (wpAny_bind (wpAny_bind (I.type.here ((looks_findIn X hs).here (wpAny_bind (wpAny_askSetting (wpAny_ite ?_))))))))
  have go : wpAny M A (call (.builtin "object.__ne__") ([.ref x] ++ args) >>= fun v => pure (some v)) Q E s := wpAny_bind (wpAny_mono h (fun v z h' => wpAny_pure h') fun _ _ h' => h')
  split
  · exact wpAny_bind (wpAny_of_eq (F.cmp_object.ne.bind _) (wpAny_pure (by exact go)))
  · exact wpAny_tryCatch (wpAny_bind (wpAny_of_eq (F.cmp_object.ne.bind _) (wpAny_pure (by exact go))))
theorem ne_entry {Q : Fin → Shared → Prop} (X : K.In s.heap) (I : InstAt s.heap x ox C od) (hs : findIn K (.ref C) "__eq__" = some (some (.ref f))) (hf : isFn K (.ref f) = true) (hu : A.units < cLine)
    (h : wpAny (model prog w) A (call (.ref f) [.ref x, .ref y]) (fun v s' => ∃ b, v = .bool b ∧ Q (.done (.ret (.bool (!b)))) s') E s) : wpAny (model prog w) A (Builtin.«object.__ne__» ⟨[.ref x, .ref y], []⟩) Q E s := by
  unfold Builtin.«object.__ne__»
  repeat (first
    | with_reducible refine wpAny_cRoomFor hu ?_
    | (refine wpAny_bind (m := callSpecialIfBound? (.ref x) (Str.ofString "__eq__") [.ref y]) (ifBound_K X I hs hf (wpAny_mono h (fun r s' hr => by
        obtain ⟨b, rfl, hq⟩ := hr
        repeat (first | exact hq | exact wpAny_pure hq | exact wpAny_truthy_bool hq | (refine wpAny_bind (m := truthy (.bool _)) (wpAny_truthy_bool ?_)) | wp_step)) fun _ _ e => e)))
    | wp_step)
theorem ne_own {Q : Value → Shared → Prop} (X : K.In s.heap) (I : InstAt s.heap x ox C od) (J : InstAt s.heap y oy C oe) (hm : mroIn K C (.type "object") = some true) (hs : findIn K (.ref C) "__eq__" = some (some (.ref f))) (hf : isFn K (.ref f) = true) (hn : findIn K (.ref C) "__ne__" = some (some (.builtin "object.__ne__")))
    (hu : A.units + 8 < cLine) (hc : wpAny (model prog w) A.in1 (call (.ref f) [.ref x, .ref y]) (fun v s' => ∃ b, v = .bool b ∧ Q (.bool (!b)) s') E s) :
    wpAny (model prog w) A (compareOp .NotEq (.ref x) (.ref y)) Q E s := by
  have one : wpAny (model prog w) A (tryCompare (.ref x) "__ne__" (.ref y)) (fun r s' => ∃ v, r = some v ∧ Q v s') E s := by
    unfold tryCompare
    refine wpAny_bind (ifBound_objNe X I hn (wpAny_call (codeAny_call_builtin F.cmp_object.ne.plain F.cmpEntry_ne (check_slot F.cmpKind_ne F.cmpSplit_ne (I.type.andThen (looks_mroIn X hm)) (F.cmpArgs_ne _ _) ?_))))
    refine ne_entry (A := A.in1) X I hs hf (Nat.lt_of_le_of_lt (m := A.units + 1) (by first | exact Nat.le_refl _ | (simp <;> done)) (by omega)) (wpAny_mono hc (fun v s' hv => ?_) fun _ _ e => e)
    obtain ⟨b, rfl, q⟩ := hv
    first | exact ⟨b, rfl, wpAny_pure ⟨_, rfl, q⟩⟩ | exact ⟨b, rfl, wpAny_pure (wpAny_pure ⟨_, rfl, q⟩)⟩ | exact ⟨b, rfl, ⟨_, rfl, q⟩⟩
  show wpAny _ _ (richCompare .NotEq _ _) _ _ _
  unfold richCompare
  simp only [oneThing_ref]
  refine wpAny_holding (wpAny_bind (wpAny_cRoomFor (by omega) ?_))
  rw [cmpInfo_NotEq]
  dsimp only
  refine wpAny_bind (I.type.here (wpAny_bind (J.type.here ?_)))
  rw [show (Value.ref C != Value.ref C) = false by simp]
  simp only [Bool.false_eq_true, if_false]
  refine wpAny_bind (wpAny_pure ?_)
  simp only [Bool.false_eq_true, if_false]
  refine wpAny_bind (wpAny_mono one (fun r s' z => ?_) fun _ _ e => e)
  obtain ⟨v, rfl, q⟩ := z
  exact wpAny_pure q
end
section
variable {X : Cx} {E : XK} {C : Addr} {j k : Nat} {sp : Sp}
/-- x != y, x and y of the one class at C, whose __eq__ is own -/
def rNeO (C : Addr) (sp : Sp) (E : XK) : R2 := fun x y H Q => ∃ a dx fs b dy gs, x = .ref a ∧ y = .ref b ∧ H a = some (.ins C dx fs) ∧ H b = some (.ins C dy gs) ∧ sp [x, y] H (fun v H' => ∃ c, v = .bl c ∧ Q (.bl (!c)) H') E
theorem op_neO (c : Met X.prog X.w X.K X.mg X.base k C "__eq__" sp) (hmr : PySem.W.mroIn X.K C (.type "object") = some true) (hn : PySem.W.findIn X.K (.ref C) "__ne__" = some (some (.builtin "object.__ne__")))
    (hr : Room j X.A) (hk : k + 1 ≤ j) (hx : Passes (L2.CX X.prog X.w) X E) : OpR X (compareOp .NotEq) (rNeO C sp E) := by
  obtain ⟨f, fd, ps, F, hm, b⟩ := c.ex
  intro pins s σ H x y u v Q I rx ry h
  obtain ⟨a, dx, fs, a', dy, gs, rfl, rfl, ha, hb, q⟩ := h
  cases rx
  cases ry
  obtain ⟨mA, J, _⟩ := ins_get I.hok ha
  obtain ⟨od, J, _⟩ := J.look
  obtain ⟨mB, J', _⟩ := ins_get I.hok hb
  obtain ⟨od', J', _⟩ := J'.look
  have hr1 : Room k X.A.in1 := Room.in1 (hr.mono hk)
  refine ne_own I.kIn J J' hmr hm.at_ hm.fn hn (by have := hr.un; omega) ?_
  have r2 : Vals [V.ref a, V.ref a'] [Value.ref a, Value.ref a'] := .cons rfl (.cons rfl .nil)
  have hl : [Value.ref a, Value.ref a'].length = ps.length := by rw [← r2.length]; exact F.len _ _ _ _ q
  refine wpAny_call (codeAny_mono (F.run X.A.in1 X.stack s H ⟨[.ref a, .ref a'], []⟩ _ _ _ E hr1 I.env0.in1 (b s [.ref a, .ref a'] I.kIn (by simpa using hl)) r2 q) fun r s' hq => ?_)
  cases r with
  | error e => exact hx pins σ H s e s' I hq
  | ok fl =>
    cases fl with
    | ret u =>
      obtain ⟨z, H', I', rz, bb, rfl, q'⟩ := I.after hq
      cases rz
      exact ⟨bb, rfl, .bl (!bb), H', I', rfl, q'⟩
    | next => exact False.elim hq
    | brk => exact False.elim hq
    | cont => exact False.elim hq
end
end G

/-! part B11 -/
namespace TR
open PySem PySem.Spec PyProof.Rows L2 G
def kindsD (ks : Kinds) : PyData := .tuple (ks.map stepD)
theorem rd_kinds : RD RKinds kindsD := RD.tup (RD.pair RD.str RD.int)
theorem shaped_kinds {ks : Kinds} (h : ∀ d ∈ ks, nameOk d.1 = true) : SeqAt.shaped (kindsD ks) = true :=
  shaped_of (lay_all fun d hd => step_lay (h d hd)) (by
    show PyData.depthAll (ks.map stepD) + 1 ≤ 64
    have := dep_all (f := stepD) (n := 1) (ds := ks) fun d _ => step_dep d
    omega)
theorem eqv_step (d : Str × Int) : PyData.eqv (stepD d) (stepD d) = true := by
  unfold stepD
  simp [PyData.eqv, PyData.eqvAll]
theorem eqvAll_steps : ∀ ks : Kinds, PyData.eqvAll (ks.map stepD) (ks.map stepD) = true
  | [] => by simp [PyData.eqvAll]
  | d :: r => by
    rw [List.map_cons]
    simp only [PyData.eqvAll]
    rw [eqv_step d, eqvAll_steps r]
    rfl
theorem eqv_kinds (ks : Kinds) : PyData.eqv (kindsD ks) (kindsD ks) = true := by
  unfold kindsD
  simp only [PyData.eqv]
  exact eqvAll_steps ks
section
variable {P : Program} {w : World} {K : PySem.W.Frag} {mg : Str → Option Value} {base : Heap} {CT : Addr}
abbrev s_Turns_eq : Stmt := inClass (top 39) 9
abbrev N_Turns_eq : List Str := ["self", "other"]
abbrev P_Turns_eq : List Str := ["self", "other"]
theorem sc_Turns_eq : FnScope N_Turns_eq P_Turns_eq (defScope s_Turns_eq) := ⟨rfl, rfl, rfl, by decide +kernel, rfl, by decide +kernel, by decide +kernel⟩
theorem bn_Turns_eq : BindsNo "__eq__" "Turns.__eq__" s_Turns_eq P_Turns_eq := fun _ _ _ _ _ _ us hl => match us, hl with | [_, _], _ => rfl
def sp_Turns_eq (C : Addr) : Sp := fun vs H Q _ => ∃ (v u : V) (ks : Kinds), vs = [v, u] ∧ (RTurns C).rel ks v H ∧ (RTurns C).rel ks u H ∧ (∀ d ∈ ks, nameOk d.1 = true) ∧ ∀ H', Same H H' → Q (.bl true) H'
theorem ok_Turns_eq (B : Bt mg) (T : KlF K mg "Turns" CT ["pairs", "names", "periods", "ranks"]) (g_Turns : mg "Turns" = some (.ref CT)) (IT : InsF K CT)
    (F : MtF K CT "__eq__" "Turns.__eq__" s_Turns_eq []) : Met P w K mg base 1 CT "__eq__" (sp_Turns_eq CT) := by
  refine F.met T.cl sc_Turns_eq bn_Turns_eq (fun vs H Q E h => ?_) (fun f cdv A outer s H vs Q E hr h => ?_)
  · obtain ⟨_, _, _, rfl, _⟩ := h
    rfl
  · obtain ⟨v, u, ks, rfl, ⟨a, dx, tp, tn, td, tr, t⟩, ⟨b, dy, tp', tn', td', tr', t'⟩, ok, k⟩ := h
    refine ⟨_, (pss_one (ps_ret (pe_and (pe_callB (k_isi (K := K)) (by rfl) B.isinstance (by decide +kernel) (pa_cons (pv 1) (pa_cons (pe_gr g_Turns) pa_nil))) (pe_one (pe_cmpR (op_eqU hr (K := K)) (k_fld (pv 0) (K := K)) (k_fld (pv 1) (K := K)) (nomark _)))))), ?_⟩
    have ty : TyX K H u (.ref CT) := by rw [t'.ev]; exact IT.ty t'.ob
    refine ⟨_, rfl, u, .ref CT, _, _, true, rfl, ClsV.own _, ty, kit_self, ?_⟩
    refine ⟨true, rfl, ?_⟩
    rw [if_pos rfl]
    refine ⟨_, rfl, a, _, dx, _, _, t.ev, t.ob, T.cl, T.no _ (by decide), rfl, _, rfl, b, _, dy, _, _, t'.ev, t'.ob, T.cl, T.no _ (by decide), rfl, ?_⟩
    refine .inr ⟨kindsD ks, kindsD ks, rd_kinds.dp K _ _ H H (Same.refl _) t.pr, rd_kinds.dp K _ _ H H (Same.refl _) t'.pr, shaped_kinds ok, shaped_kinds ok, ?_⟩
    rw [eqv_kinds]
    exact k _ (Same.refl _)
end
end TR

/-! part TupNe -/
/-! x != y of two tuples of the same things. -/
namespace G
open PySem PySem.Spec PyProof.Rows L2
/-- two tuples of the same objects -/
def rNeT : R2 := fun x y H Q => ∃ a b xs, x = .ref a ∧ y = .ref b ∧ H a = some (.tup xs) ∧ H b = some (.tup xs) ∧ (∀ v ∈ xs, ∃ p, v = .ref p) ∧ Q (.bl false) H
theorem vals_refs {xs : List V} {us : List Value} (r1 : Vals xs us) : ∀ {ws : List Value}, (∀ v ∈ xs, ∃ p, v = V.ref p) → Vals xs ws → us = ws := by
  induction r1 with
  | nil =>
    intro ws _ r2
    cases r2
    rfl
  | @cons v u l m a r ih =>
    intro ws h r2
    cases r2 with
    | cons b q =>
      obtain ⟨p, e⟩ := h v List.mem_cons_self
      subst e
      cases a
      cases b
      rw [ih (fun v hv => h v (List.mem_cons_of_mem _ hv)) q]
section
variable {X : Cx}
theorem op_neT {k : Nat} (hr : Room k X.A) : OpR X (compareOp .NotEq) rNeT := by
  intro pins s σ H x y v u Q I rx ry h
  obtain ⟨a, b, xs, rfl, rfl, ha, hb, hf, q⟩ := h
  cases rx
  cases ry
  obtain ⟨us, r1, p1⟩ := I.tuple (SqT.of (K := X.K) ha)
  obtain ⟨ws, r2, p2⟩ := I.tuple (SqT.of (K := X.K) hb)
  cases vals_refs r1 hf r2
  refine PySem.SeqAt.RcNeAt.tuples (e := fun _ => true) (show s.heap.IsTuple a us.toArray from p1.1) (show s.heap.IsTuple b us.toArray from p2.1) hr.units0 (fun j h1 h2 => PySem.SeqAt.EqAt.same _) _ _ _ _ ?_
  rw [show ((List.range (min us.toArray.size us.toArray.size)).all fun _ => true) = true from List.all_eq_true.mpr fun _ _ => rfl]
  simp only [beq_self_eq_true, Bool.and_true, Bool.not_true]
  exact ⟨.bl false, H, I, rfl, q⟩
end
end G

/-! part St -/
namespace G
open PySem PySem.Spec PyProof.Rows L2
/-- a statement walked with what follows it out of sight, at a state written out -/
theorem stp {ta tb : TS} {D : Ends} {σ : L2.St} {H : Hp} (σ' : L2.St) (e : σ = σ') (g : ∀ N : L2.St → Hp → Prop, (∀ σ H, tb D σ H → N σ H) → ta { D with nx := N } σ' H) : tSeq ta tb D σ H := by
  subst e
  exact g (tb D) fun _ _ h => h
theorem stq {ta : TS} {D : Ends} {σ : L2.St} {H : Hp} (σ' : L2.St) (e : σ = σ') (g : ta D σ' H) : ta D σ H := by
  subst e
  exact g
/-- a local thing at l, that stood still for a while, does so no longer -/
theorem Pu.but {F H F' H' : Hp} {l : Addr} {o : HO} (f : F l = Option.none) (q : Pu (upd F l o) H F' H') : Pu F H (del F' l) H' := by
  refine ⟨q.same, ⟨fun a u e => ?_, del_sub.trans q.sub, fun a u e => ?_⟩⟩
  · have n := ne_of_none e f
    rw [del_ne n]
    exact q.ff a u (by rw [upd_ne n]; exact e)
  · have n := del_at e
    rw [del_ne n] at e
    rcases q.grow.fresh a u e with h | h
    · rw [upd_ne n] at h
      exact .inl h
    · exact .inr h
theorem pd_and {α β : Type} {r : α → β → Prop} {p : α → Prop} : ∀ {xs : List α} {ys : List β}, Paired r xs ys → (∀ x ∈ xs, p x) → Paired (fun a b => r a b ∧ p a) xs ys
  | _, _, .nil, _ => .nil
  | _, _, .cons h t, f => .cons ⟨h, f _ List.mem_cons_self⟩ (pd_and t fun x hx => f x (List.mem_cons_of_mem _ hx))
theorem pd_drop {α β : Type} {r : α → β → Prop} : ∀ {xs : List α} {ys : List β} (n : Nat), Paired r xs ys → Paired r (xs.drop n) (ys.drop n)
  | _, _, 0, h => h
  | _, _, n + 1, .nil => .nil
  | _, _, n + 1, .cons h t => pd_drop n t
end G

/-! part B12 -/
namespace TR
open PySem PySem.Spec PyProof.Rows L2 G
theorem sz4 (x y z u : V) : [x, y, z, u].length ≤ 100000 := by show 4 ≤ 100000; decide
def namesD (st : List Str) : PyData := .tuple (st.map PyData.str)
theorem names_dp {K : PySem.W.Frag} {F H : Hp} {st : List Str} {p : Addr} (s : Same F H) (h : F p = some (.tup (st.map V.str))) : Dp K H (.ref p) (namesD st) :=
  (RD.tup RD.str).dp K st _ F H s ⟨p, _, rfl, h, pd_of_map st⟩
theorem names_ok {st : List Str} (h : ∀ z ∈ st, nameOk z = true) : (namesD st).canLay0 = true ∧ SeqAt.shaped (namesD st) = true := by
  have l : (namesD st).canLay0 = true := lay_all fun d hd => str_lay (h d hd)
  refine ⟨l, shaped_of l ?_⟩
  show PyData.depthAll (st.map PyData.str) + 1 ≤ 64
  have := dep_all (f := PyData.str) (n := 0) (ds := st) fun d _ => Nat.le_refl 0
  omega
section
variable {P : Program} {w : World} {K : PySem.W.Frag} {mg : Str → Option Value} {base : Heap} {CT CN CP EN ET EA ES CR : Addr}
abbrev s_law : Stmt := top 59
abbrev N_law : List Str := ["_law_script", "_law_bag_here", "_law_kinds_here", "_law_turns", "_law_stations", "_law_arrows", "_law_begin", "_law_end", "_law_made", "_law_one", "_law_name", "_law_parts", "_law_other", "_law_handed", "_law_plan_here", "_law_k", "_law_run_here", "_law_at", "_law_put_in", "_law_strange"]
abbrev P_law : List Str := ["_law_script"]
theorem sc_law : FnScope N_law P_law (defScope s_law) := ⟨rfl, rfl, rfl, by decide +kernel, rfl, by decide +kernel, by decide +kernel⟩
theorem bn_law : BindsNo "law" "law" s_law P_law := fun _ _ _ _ _ _ us hl => match us, hl with | [_], _ => rfl
def sp_law (K : PySem.W.Frag) : Sp := fun vs H Q _ => ∃ (a : Addr) (ns : List Int), vs = [.ref a] ∧ SqL K H a (ns.map V.int) ∧ (∀ H', Same H H' → SqL K H' a (ns.map V.int)) ∧ ns.length ≤ 1000 ∧ ∀ H', Same H H' → Q (.bl true) H'
theorem ok_law (B : Bt mg) (T : KlF K mg "Turns" CT ["pairs", "names", "periods", "ranks"]) (PL : KlF K mg "Plan" CP ["turns", "stations", "arrows", "begin", "end"]) (g_Turns : mg "Turns" = some (.ref CT)) (g_Plan : mg "Plan" = some (.ref CP)) (g_Numbers : mg "Numbers" = some (.ref CN))
    (c_w_bag : Cal P w K mg base 1 "_law_bag" (sp_bag K)) (c_w_draw : Cal P w K mg base 1 "_law_draw" sp_draw) (c_w_kinds : Cal P w K mg base 3 "_law_kinds" sp_kinds) (c_w_plan : Cal P w K mg base 3 "_law_plan" sp_wplan)
    (c_w_run : Cal P w K mg base 2 "_law_run" sp_wrun) (c_w_run_right : Cal P w K mg base 9 "_law_run_right" (sp_run_right CT CN CP)) (c_w_refusals : Cal P w K mg base 6 "_law_refusals" (sp_refusals CT CN))
    (k_Turns : Mak P w K mg base 2 "Turns" CT (sp_Turns_init CT)) (k_Plan : Mak P w K mg base 3 "Plan" CP (sp_Plan_init K CT CN CP EN ET EA ES)) (k_Numbers : Mak P w K mg base 3 "Numbers" CN (sp_Numbers_init CN))
    (m_Turns_eq : Met P w K mg base 1 CT "__eq__" (sp_Turns_eq CT)) (m_is_run : Met P w K mg base 5 CP "is_run" (sp_is_run K CT CN CP)) (hmT : PySem.W.mroIn K CT (.type "object") = some true) (hnT : PySem.W.findIn K (.ref CT) "__ne__" = some (some (.builtin "object.__ne__")))
    {fL : Addr} {fdL : FuncData} (F : FunD K "law" "law" (defArgs s_law) (defBody s_law) (defScope s_law) [] [] fL fdL) : FnOk P w K mg base (L2.CX P w) 10 fL fdL P_law (sp_law K) := by
  refine F.ok sc_law (fun vs H Q E h => ?_) (fun cdv A outer s H vs Q E hr h => ?_)
  · obtain ⟨_, _, rfl, _⟩ := h
    rfl
  · obtain ⟨a, ns, rfl, hl, hl', hn, k⟩ := h
    refine ⟨_, (pss_cons (ps_set (i := 1) sc_law.nd rfl (Or.inl rfl) (pe_c c_w_bag hr (by decide) (pa_cons (pv 0) pa_nil) passL))
    (pss_cons (ps_set (i := 2) sc_law.nd rfl (Or.inl rfl) (pe_c c_w_kinds hr (by decide) (pa_cons (pv 1) (pa_cons (pe_op op_addU pe_int (pe_c c_w_draw hr (by decide) (pa_cons (pv 1) (pa_cons pe_int pa_nil)) passL)) pa_nil)) passL))
    (pss_cons (ps_set (i := 3) sc_law.nd rfl (Or.inl rfl) (pe_k k_Turns hr (by decide) (pa_cons (pv 2) pa_nil) passL))
    (pss_cons (ps_asg (pe_c c_w_plan hr (by decide) (pa_cons (pv 1) (pa_cons (pv 2) (pa_cons (pe_op op_addU pe_int (pe_c c_w_draw hr (by decide) (pa_cons (pv 1) (pa_cons pe_int pa_nil)) passL)) (pa_cons (pe_c c_w_draw hr (by decide) (pa_cons (pv 1) (pa_cons pe_int pa_nil)) passL) pa_nil)))) passL) (k_tup (n := 2) rfl (pgs_cons (pg_name (i := 4) sc_law.nd rfl (Or.inl rfl)) (pgs_cons (pg_name (i := 5) sc_law.nd rfl (Or.inl rfl)) pgs_nil)) (K := K)))
    (pss_cons (ps_par (i := 6) (j := 7) (by rfl) sc_law.nd rfl rfl (by decide) rfl rfl (pa_cons (pe_ix (k_ix (K := K)) (pv 4) (pe_c c_w_draw hr (by decide) (pa_cons (pv 1) (pa_cons (pe_callB (call_lenU (K := K)) (by rfl) B.len (by decide +kernel) (pa_cons (pv 4) pa_nil)) pa_nil)) passL) (fun _ _ => rfl)) (pa_cons (pe_ix (k_ix (K := K)) (pv 4) (pe_c c_w_draw hr (by decide) (pa_cons (pv 1) (pa_cons (pe_callB (call_lenU (K := K)) (by rfl) B.len (by decide +kernel) (pa_cons (pv 4) pa_nil)) pa_nil)) passL) (fun _ _ => rfl)) pa_nil)) (by rfl))
    (pss_cons (ps_setLc (i := 8) (own := [("_law_one", 9), ("_law_name", 10), ("_law_parts", 11), ("_law_other", 12)]) rfl sc_law.nd rfl rfl (sw_true rfl rfl rfl (by decide +kernel)) (k_il (pv 5) (K := K)) (blkOk_by (N := N_law) (sc := defScope s_law) (by decide +kernel)) (fun _ _ _ _ _ => (k_tup (n := 4) rfl (pgs_cons (pg_name (i := 9) sc_law.nd rfl (Or.inl rfl)) (pgs_cons (pg_name (i := 10) sc_law.nd rfl (Or.inl rfl)) (pgs_cons (pg_name (i := 11) sc_law.nd rfl (Or.inl rfl)) (pgs_cons (pg_name (i := 12) sc_law.nd rfl (Or.inl rfl)) pgs_nil)))) (K := K))) (fun _ _ _ _ _ => pts_nil) (fun _ _ _ _ _ => (pe_tup (pa_cons (pv 9) (pa_cons (pv 10) (pa_cons (pe_k k_Numbers hr (by decide) (pa_cons (pv 11) pa_nil) passL) (pa_cons (pv 12) pa_nil)))))))
    (pss_cons (ps_set (i := 13) sc_law.nd rfl (Or.inl rfl) (pe_lst (pa_cons (pe_callTy (k_list (K := K)) (by rfl) B.list (by decide +kernel) (pa_cons (pv 4) pa_nil)) (pa_cons (pe_callTy (k_list (K := K)) (by rfl) B.list (by decide +kernel) (pa_cons (pv 8) pa_nil)) pa_nil))))
    (pss_cons (ps_set (i := 14) sc_law.nd rfl (Or.inr rfl) (pe_k k_Plan hr (by decide) (pa_cons (pv 3) (pa_cons (pe_ix (k_ix (K := K)) (pv 13) pe_int (fun _ _ => rfl)) (pa_cons (pe_ix (k_ix (K := K)) (pv 13) pe_int (fun _ _ => rfl)) (pa_cons (pv 6) (pa_cons (pv 7) pa_nil))))) passL))
    (pss_cons (ps_expr (pe_bm0 PySem.F.plainAttrs_list PySem.F.slot_list_clear PySem.F.type_list_clear mt_clear (pe_ix (k_ix (K := K)) (pv 13) pe_int (fun _ _ => rfl))))
    (pss_cons (ps_expr (pe_bm0 PySem.F.plainAttrs_list PySem.F.slot_list_clear PySem.F.type_list_clear mt_clear (pe_ix (k_ix (K := K)) (pv 13) pe_int (fun _ _ => rfl))))
    (pss_cons (ps_if (PW.pt (pw_or (pt_cmpR (op_neO m_Turns_eq hmT hnT hr (by decide) passL) (k_fld (pv 14) (K := K)) (pv 3) (nomark _)) (pw_or (pt_cmpR (op_neU hr (K := K)) (k_fld (pv 14) (K := K)) (pe_callTy (k_tuple (K := K)) (by rfl) B.tuple (by decide +kernel) (pa_cons (pv 4) pa_nil)) (nomark _)) (pw_or1 (pt_cmpR (op_neU hr (K := K)) (pe_tup (pa_cons (k_fld (pv 14) (K := K)) (pa_cons (k_fld (pv 14) (K := K)) pa_nil))) (pe_tup (pa_cons (pv 6) (pa_cons (pv 7) pa_nil))) (nomark _)))))) (pss_one (ps_ret pe_bl)) pss_nil)
    (pss_cons (ps_if (pt_cmpR (op_neT hr) (k_fld (pv 14) (K := K)) (pe_callTy (k_tuple (K := K)) (by rfl) B.tuple (by decide +kernel) (pa_cons (pv 8) pa_nil)) (nomark _)) (pss_one (ps_ret pe_bl)) pss_nil)
    (pss_cons (ps_for (passes_of rfl) rfl (pi_range1 (by rfl) B.range (pa_cons pe_int pa_nil)) (pg_name (i := 15) sc_law.nd rfl (Or.inl rfl))
    (pss_cons (ps_set (i := 16) sc_law.nd rfl (Or.inl rfl) (pe_orT (pe_c c_w_run hr (by decide) (pa_cons (pv 1) (pa_cons (pv 5) (pa_cons (pv 6) (pa_cons (pv 7) (pa_cons pe_int pa_nil))))) passL) (pe_one (pe_lst pa_nil))))
    (pss_cons (ps_if (PW.pt (pw_and (pt_cmpR (op_neU hr (K := K)) (pv 16) (pe_lst pa_nil) (nomark _)) (pw_and1 (pt_cmpR (op_eqU hr (K := K)) (pe_c c_w_draw hr (by decide) (pa_cons (pv 1) (pa_cons pe_int pa_nil)) passL) pe_int (nomark _))))) (pss_cons (ps_set (i := 17) sc_law.nd rfl (Or.inl rfl) (pe_c c_w_draw hr (by decide) (pa_cons (pv 1) (pa_cons (pe_callB (call_lenU (K := K)) (by rfl) B.len (by decide +kernel) (pa_cons (pv 16) pa_nil)) pa_nil)) passL))
    (pss_cons (ps_set (i := 18) sc_law.nd rfl (Or.inl rfl) (pe_lst (pa_cons (pe_lst pa_nil) (pa_cons (pe_lst (pa_cons (pe_ix (k_ix (K := K)) (pv 16) (pv 17) (fun _ _ => rfl)) (pa_cons (pe_ix (k_ix (K := K)) (pv 16) (pv 17) (fun _ _ => rfl)) pa_nil))) (pa_cons (pe_lst (pa_cons (pe_tup (pa_cons (pe_ix (k_ix (K := K)) (pe_ix (k_ix (K := K)) (pv 16) (pv 17) (fun _ _ => rfl)) pe_int (fun _ _ => rfl)) (pa_cons (pe_op op_addU (pe_ix (k_ix (K := K)) (pe_ix (k_ix (K := K)) (pv 16) (pv 17) (fun _ _ => rfl)) pe_int (fun _ _ => rfl)) pe_int) pa_nil))) pa_nil)) (pa_cons (pe_lst (pa_cons (pe_tup (pa_cons (pe_callB (call_lenU (K := K)) (by rfl) B.len (by decide +kernel) (pa_cons (pv 5) pa_nil)) (pa_cons pe_int pa_nil))) pa_nil)) (pa_cons (pe_lst (pa_cons (pe_tup (pa_cons (pe_un un_neg pe_int) (pa_cons pe_int pa_nil))) pa_nil)) pa_nil)))))))
    (pss_one (ps_set (i := 16) sc_law.nd rfl (Or.inl rfl) (pe_op op_addU (pe_op op_addU (pe_slice (k_sl_list (K := K)) (pv 16) po_none (po_some (pv 17))) (pe_ix (k_ix (K := K)) (pv 18) (pe_c c_w_draw hr (by decide) (pa_cons (pv 1) (pa_cons pe_int pa_nil)) passL) (fun _ _ => rfl))) (pe_slice (k_sl_list (K := K)) (pv 16) (po_some (pe_op op_addU (pv 17) pe_int)) po_none)))))) pss_nil)
    (pss_one (ps_if (pt_not (pt_val (pe_c c_w_run_right hr (by decide) (pa_cons (pv 14) (pa_cons (pv 2) (pa_cons (pv 5) (pa_cons (pv 16) pa_nil)))) passL))) (pss_one (ps_ret pe_bl)) pss_nil)))))
    (pss_cons (ps_set (i := 19) sc_law.nd rfl (Or.inl rfl) (pe_lst (pa_cons (pe_lst (pa_cons pe_non pa_nil)) (pa_cons pe_int (pa_cons (pe_lst (pa_cons (pe_tup (pa_cons pe_int pa_nil)) pa_nil)) (pa_cons (pe_lst (pa_cons (pe_tup (pa_cons pe_str (pa_cons pe_int pa_nil))) pa_nil)) pa_nil))))))
    (pss_one (ps_ret (pe_and (pe_cmpR (op_eqU hr (K := K)) (pe_lc (own := [("_law_run_here", 16)]) rfl sc_law.nd (k_il (pv 19) (K := K)) (blkOk_by (N := N_law) (sc := defScope s_law) (by decide +kernel)) (fun _ _ _ _ _ => (pg_name (i := 16) sc_law.nd rfl (Or.inl rfl))) (fun _ _ _ _ _ => (pts_one (pt_val (pe_m m_is_run hr (by decide) (pv 14) (pa_cons (pv 16) pa_nil) passL)))) (fun _ _ _ _ _ => (pv 16))) (pe_lst pa_nil) (nomark _)) (pe_one (pe_c c_w_refusals hr (by decide) (pa_cons (pv 1) (pa_cons (pv 3) (pa_cons (pv 4) (pa_cons (pv 8) (pa_cons (pv 6) pa_nil))))) passL))))))))))))))))))), ?_⟩
    refine ⟨_, rfl, H, a, ns, rfl, Same.refl _, hl, hl', hn, fun b F1 H1 pu0 hb0 hb g => ?_⟩
    have w1 : Bw b F1 H1 F1 H1 0 [] := Bw.nil pu0.sub hb g
    -- the kinds
    refine ⟨_, rfl, _, rfl, F1, b, 0, 3, rfl, w1.sub, w1.fb, w1.bg, by decide, by decide, by decide, fun d1 H2 d10 d11 q2 g2 => ?_⟩
    have w2 := w1.call q2 g2
    refine .inl ⟨_, _, rfl, rfl, ?_⟩
    obtain ⟨m1, rfl⟩ : ∃ m : Nat, d1 = (m : Int) := ⟨d1.toNat, by omega⟩
    refine ⟨F1, b, 1, 1 + m1, by rw [show (1 : Int) + (m1 : Int) = ((1 + m1 : Nat) : Int) by omega]; rfl, w2.sub, w2.fb, w2.bg, by omega, by omega, fun kv F3 H3 ks q3 g3 rk kp => ?_⟩
    have w3 := (w2.call q3 g3).le (m := 100) (by omega)
    have ok : KOk ks := kp.ok (by omega) (by omega)
    -- the turns
    refine ⟨_, rfl, fun x dx hx hdx ne => ?_⟩
    refine ⟨F3, H3, x, dx, kv, ks, rfl, ⟨w3.sub, hx, hdx, ne, rfl⟩, rk, ok, fun F4 H4 pu4 rt => ⟨rfl, ?_⟩⟩
    have w4 := w3.step pu4
    -- the plan's parts
    refine ⟨_, rfl, _, rfl, _, rfl, F4, b, 100, 4, rfl, w4.sub, w4.fb, w4.bg, by decide, by decide, by decide, fun d2 H5 d20 d21 q5 g5 => ?_⟩
    have w5 := w4.call q5 g5
    refine .inl ⟨_, _, rfl, rfl, ?_⟩
    obtain ⟨m2, rfl⟩ : ∃ m : Nat, d2 = (m : Int) := ⟨d2.toNat, by omega⟩
    refine ⟨_, rfl, F4, b, 101, 6, rfl, w5.sub, w5.fb, w5.bg, by decide, by decide, by decide, fun d3 H6 d30 d31 q6 g6 => ?_⟩
    have w6 := w5.call q6 g6
    obtain ⟨m3, rfl⟩ : ∃ m : Nat, d3 = (m : Int) := ⟨d3.toNat, by omega⟩
    refine ⟨F4, b, 102, ks, kv, 1 + m2, m3, by rw [show (1 : Int) + (m2 : Int) = ((1 + m2 : Nat) : Int) by omega]; rfl, w6.sub, w6.fb, w6.bg, RPairs.mono pu4.ff rk, ok, by omega, by omega, by omega, by omega, fun F7 H7 t0 ls lf as st la q7 g7 ht0 hls hlf pdl sp hll hlg => ?_⟩
    have w7 := w6.call q7 g7
    refine ⟨t0, _, rfl, SqT.of (w7.sub _ _ ht0), rfl, _, _, rfl, _, _, rfl, rfl, ?_⟩
    have hsl : (st.map V.str).length = 1 + m2 := by rw [List.length_map]; exact sp.1
    -- begin, end
    have lsS : ∀ {H' : Hp}, Same F7 H' → SqL K H' ls (st.map V.str) := fun s => SqL.of (s _ _ hls)
    refine ⟨_, rfl, _, rfl, _, rfl, .inl ⟨ls, _, rfl, .inl (lsS w7.sub), ?_⟩⟩
    refine ⟨F7, b, 302, ((st.map V.str).length : Nat), rfl, w7.sub, w7.fb, w7.bg, by omega, by omega, by omega, fun db H8 d40 d41 q8 g8 => ?_⟩
    have w8 := w7.call q8 g8
    obtain ⟨bg, hbg, hbg'⟩ : ∃ z, z ∈ st ∧ (st.map V.str)[db.toNat]? = some (.str z) := by
      have h0 : db.toNat < st.length := by rw [List.length_map] at d41; omega
      exact ⟨st[db.toNat], List.getElem_mem h0, by rw [List.getElem?_map, List.getElem?_eq_getElem h0]; rfl⟩
    refine .inl ⟨ls, _, db, _, rfl, rfl, lsS w8.sub, atI_int d40 hbg', ?_⟩
    refine ⟨_, rfl, _, rfl, _, rfl, .inl ⟨ls, _, rfl, .inl (lsS w8.sub), ?_⟩⟩
    refine ⟨F7, b, 303, ((st.map V.str).length : Nat), rfl, w8.sub, w8.fb, w8.bg, by omega, by omega, by omega, fun de H9 d50 d51 q9 g9 => ?_⟩
    have w9 := w8.call q9 g9
    obtain ⟨en, hen, hen'⟩ : ∃ z, z ∈ st ∧ (st.map V.str)[de.toNat]? = some (.str z) := by
      have h0 : de.toNat < st.length := by rw [List.length_map] at d51; omega
      exact ⟨st[de.toNat], List.getElem_mem h0, by rw [List.getElem?_map, List.getElem?_eq_getElem h0]; rfl⟩
    refine .inl ⟨ls, _, de, _, rfl, rfl, lsS w9.sub, atI_int d50 hen', ?_⟩
    refine ⟨_, _, rfl, ?_⟩
    -- made
    have hal : as.length = la.length := pd_len pdl
    dsimp only
    refine stp [some (.ref a), some (.ref b), some kv, some (.ref x), some (.ref ls), some (.ref lf), some (.str bg), some (.str en), none, none, none, none, none, none, none, none, none, none, none, none] rfl fun N hN => ?_
    refine ⟨_, rfl, lf, rfl, ⟨_, SqL.of (w9.sub _ _ hlf)⟩, fun D hD => ?_⟩
    refine go_lcB (walk_list (xs := as)) w9 hD (RArr CN) 0 (fun i ds => Paired Match (la.take i) ds) (by omega) .nil (fun F' H' m w s _ => SqL.of (w.sub _ _ (s _ _ hlf))) (fun i y ds F10 H10 l H' N hi w10 s10 _ hp hy kt kf => ?_) (fun ds F10 H10 ys w10 s10 pd hp => ?_)
    · obtain ⟨e1, hy⟩ := hy
      subst e1
      obtain ⟨x0, hx0, ta0, pv0, rfl, htb, hpv, hpos, hpl⟩ := pd_get pdl hy
      refine ⟨ta0, _, rfl, SqT.of (w10.sub _ _ (s10 _ _ htb)), rfl, ?_⟩
      refine ⟨_, _, rfl, _, _, rfl, _, _, rfl, _, _, rfl, rfl, ?_⟩
      refine ⟨rfl, ?_⟩
      refine ⟨_, rfl, _, rfl, _, rfl, fun x2 dx2 hx2 hdx2 ne2 => ?_⟩
      refine ⟨F10, _, x2, dx2, pv0, x0.parts, rfl, ⟨w10.sub, hx2, hdx2, ne2, rfl⟩, RCls.mono s10 hpv, hpos, by omega, fun F11 H11 dn pu11 rn hm => ⟨rfl, ?_⟩⟩
      have w11 := w10.step pu11
      refine ⟨_, rfl, sz (n := 4) (by decide), fun q hq => ?_⟩
      have w12 := w11.add (o := .tup [.str x0.one, .str x0.name, .ref x2, .str x0.other]) hq
      exact kt (.ref q) _ _ ⟨x0.one, x0.name, dn, x0.other⟩ (w12.le (by omega)) ((pu11.add hq).pb w10.fb w10.bg.ne) ⟨q, .ref x2, ⟨rfl, upd_same, (RNum CN).mono (Same.new (w11.sub.free hq)) rn⟩⟩ (by rw [take_snoc hx0]; exact pd_snoc hp ⟨rfl, rfl, rfl, hm⟩)
    · rw [hal, take_all] at hp
      have w11 := w10.fix 0
      have hD11 : upd F10 D (.lst ys) D = some (.lst ys) := upd_same
      have s11 : Same F7 (upd F10 D (.lst ys)) := s10.trans (Same.new (w10.nf 0))
      have pdm := pd_mono (fun _ _ => (RArr CN).mono (Same.new (o := .lst ys) (w10.nf 0))) pd
      generalize upd F10 D (.lst ys) = F11 at w11 hD11 s11 pdm
      have lsS11 : ∀ {H' : Hp}, Same F11 H' → SqL K H' ls (st.map V.str) := fun s => lsS (s11.trans s)
      -- handed
      refine hN _ _ ?_
      try dsimp only
      refine stp [some (.ref a), some (.ref b), some kv, some (.ref x), some (.ref ls), some (.ref lf), some (.str bg), some (.str en), some (.ref D), none, none, none, none, none, none, none, none, none, none, none] rfl fun N hN => ?_
      refine ⟨_, rfl, ls, _, rfl, .inl (lsS11 w11.sub), fun l0 hl0 => ?_⟩
      have w12 := w11.new (o := .lst (st.map V.str)) hl0
      refine ⟨_, rfl, D, _, rfl, .inl (SqL.of (w12.sub _ _ hD11)), fun l1 hl1 => ?_⟩
      have w13 := w12.new (o := .lst ys) hl1
      refine ⟨sz (n := 2) (by decide), fun hd hhd => ?_⟩
      have w14 := w13.new (o := .lst [.ref l0, .ref l1]) hhd
      generalize upd (upd (upd H10 l0 (.lst (st.map V.str))) l1 (.lst ys)) hd (.lst [.ref l0, .ref l1]) = H14 at w14
      refine hN _ _ ?_
      try dsimp only
      refine stp [some (.ref a), some (.ref b), some kv, some (.ref x), some (.ref ls), some (.ref lf), some (.str bg), some (.str en), some (.ref D), none, none, none, none, some (.ref hd), none, none, none, none, none, none] rfl fun N hN => ?_
      -- the plan
      refine ⟨_, rfl, _, rfl, .inl ⟨hd, _, 0, _, rfl, rfl, SqL.of (w14.at 0), rfl, ?_⟩⟩
      refine ⟨_, rfl, .inl ⟨hd, _, 1, _, rfl, rfl, SqL.of (w14.at 0), rfl, ?_⟩⟩
      refine ⟨_, rfl, _, rfl, fun xp dp hxp hdp nep => ?_⟩
      obtain ⟨stok, stnd⟩ := sp.ok (by omega)
      have stk : StOk (st.map V.str) st := ⟨by rw [List.take_of_length_le (by simp)], by simp, stok, stnd⟩
      have ydl : ys.length = ds.length := pd_len pdm
      have dsl : ds.length = la.length := pd_len hp
      have gd : ∀ d ∈ ds, arrGood ks st d := fun d hd => by
        obtain ⟨i, hi⟩ := List.getElem?_of_mem hd
        obtain ⟨l, hl, m⟩ := pd_get hp hi
        obtain ⟨g1, g3, g2⟩ := hlg l (List.mem_of_getElem? hl)
        exact ⟨by rw [← m.one]; exact g1, by rw [← m.name]; exact g2, by rw [← m.other]; exact g3⟩
      have w15 := (w14.fix 2).fix 1
      have f1 : upd F11 l0 (.lst (st.map V.str)) l1 = none := (w14.fix 2).nf 1
      have f0 : F11 l0 = none := w14.nf 2
      have ne01 : l1 ≠ l0 := fun e => by rw [e, upd_same] at f1; cases f1
      have s15 : Same F11 (upd (upd F11 l0 (.lst (st.map V.str))) l1 (.lst ys)) := (Same.new f0).trans (Same.new f1)
      have pdg : Paired (fun d v => (RArr CN).rel d v F11 ∧ arrGood ks st d) ds ys := pd_and pdm gd
      have rt11 := (RTurns CT).mono (q7.ff.trans s11) rt
      refine ⟨upd (upd F11 l0 (.lst (st.map V.str))) l1 (.lst ys), H14, xp, dp, l0, l1, .ref x, .str bg, .str en, ks, st.map V.str, ys, st, ds, rfl, ⟨w15.sub, hxp, hdp, nep, rfl⟩, (RTurns CT).mono s15 rt11, by rw [upd_ne (Ne.symm ne01), upd_same], upd_same, by omega, by omega, stk,
        pd_mono (fun (d : ArrD) (v : V) (h : (RArr CN).rel d v F11 ∧ arrGood ks st d) => (⟨(RArr CN).mono s15 h.1, h.2⟩ : (RArr CN).rel d v _ ∧ arrGood ks st d)) (by rw [← ydl, List.take_of_length_le (Nat.le_refl _)]; exact pdg), by omega, ?_⟩
      refine .inr (.inr (.inr (.inr (.inr ⟨by simp, by omega, ⟨bg, rfl, hbg⟩, ⟨en, rfl, hen⟩, fun F16 H16 dx' ts ta pu16 hx16 hts hta => ⟨rfl, ?_⟩⟩))))
      -- what stands still behind it: all but the handed lists
      have h0' : F16 l0 = some (.lst (st.map V.str)) := pu16.ff _ _ (by rw [upd_ne (Ne.symm ne01), upd_same])
      have h1' : F16 l1 = some (.lst ys) := pu16.ff _ _ upd_same
      have k16 : ∀ {p : Addr} {o : HO}, F16 p = some o → (∀ xs, o ≠ .lst xs) → del (del F16 l1) l0 p = some o := fun {p o} e n => by
        rw [del_ne (fun z => by subst z; rw [h0'] at e; cases e; exact n _ rfl), del_ne (fun z => by subst z; rw [h1'] at e; cases e; exact n _ rfl)]
        exact e
      have pu17 := (pu16.but f1).but f0
      have w17 := w14.step pu17
      have hx17 := k16 hx16 fun _ e => by cases e
      have hts17 := k16 hts fun _ e => by cases e
      have hta17 := k16 hta fun _ e => by cases e
      have s17 := pu17.ff
      generalize del (del F16 l1) l0 = F17 at w17 hx17 hts17 hta17 s17
      have rp : (RPlan CT CN CP).rel ⟨ks, st, ds, bg, en⟩ (.ref xp) F17 := ⟨xp, dx', ts, ta, .ref x, rfl, hx17, (RTurns CT).mono s17 rt11, hts17, ⟨ta, ys, rfl, hta17, pd_mono (fun _ _ => (RArr CN).mono s17) pdm⟩, gd, by show ds.length ≤ _; omega⟩
      refine hN _ _ ?_
      try dsimp only
      refine stp [some (.ref a), some (.ref b), some kv, some (.ref x), some (.ref ls), some (.ref lf), some (.str bg), some (.str en), some (.ref D), none, none, none, none, some (.ref hd), some (.ref xp), none, none, none, none, none] rfl fun N hN => ?_
      -- the handed lists are emptied
      refine ⟨_, rfl, .inl ⟨hd, _, 0, _, rfl, rfl, SqL.of (w17.at 0), rfl, ?_⟩⟩
      refine ⟨.inl ⟨rfl, _, SqL.of (w17.at 2)⟩, l0, _, rfl, rfl, w17.at 2, ?_⟩
      have w18 := w17.mut (o' := .lst []) 2
      generalize upd H16 l0 (.lst []) = H18 at w18
      refine hN _ _ ?_
      try dsimp only
      refine stp _ rfl fun N hN => ?_
      refine ⟨_, rfl, .inl ⟨hd, _, 1, _, rfl, rfl, SqL.of (w18.at 0), rfl, ?_⟩⟩
      refine ⟨.inl ⟨rfl, _, SqL.of (w18.at 1)⟩, l1, _, rfl, rfl, w18.at 1, ?_⟩
      have w19 := w18.mut (o' := .lst []) 1
      generalize upd H18 l1 (.lst []) = H19 at w19
      refine hN _ _ ?_
      try dsimp only
      refine stp _ rfl fun N hN => ?_
      -- the parts are kept
      have nmo : ∀ d ∈ ks, nameOk d.1 = true := fun d hd => (ok.nm d hd).1
      have stn : ∀ z ∈ st, nameOk z = true := fun z hz => (stok z hz).1
      have rt19 : (RTurns CT).rel ks (.ref x) H19 := (RTurns CT).mono (s17.trans w19.sub) rt11
      obtain ⟨tA, tdx, tP, tN, tD, tR, tat⟩ := id rt19
      have hx19 := tat.ob
      obtain rfl : x = tA := by have := tat.ev; cases this; rfl
      refine ⟨_, rfl, xp, CP, dx', _, _, rfl, w19.sub _ _ hx17, PL.cl, PL.no _ (by decide), rfl, _, rfl, ?_⟩
      refine ⟨x, _, _, x, _, _, rfl, rfl, hx19, hx19, .ref x, .ref x, ks, rfl, rt19, rt19, nmo, fun H20 s20 => ⟨true, rfl, ?_⟩⟩
      have w20 := w19.tmp s20
      refine ⟨_, rfl, iteF ?_⟩
      refine ⟨_, rfl, xp, CP, dx', _, _, rfl, w20.sub _ _ hx17, PL.cl, PL.no _ (by decide), rfl, _, rfl, ls, _, rfl, .inl ⟨SqL.of (w20.sub _ _ (s17 _ _ (s11 _ _ hls))), fun p1 hp1 => ?_⟩⟩
      have w21 := w20.new (o := .tup (st.map V.str)) hp1
      have hp1' := w21.at 0
      generalize upd H20 p1 (.tup (st.map V.str)) = H21 at w21 hp1'
      refine .inr ⟨namesD st, namesD st, names_dp w21.sub hts17, names_dp (Same.refl _) hp1', (names_ok stn).2, (names_ok stn).2, ?_⟩
      rw [SeqAt.eqv_refl _ (names_ok stn).1]
      refine ⟨_, rfl, iteF ?_⟩
      refine ⟨_, rfl, xp, CP, dx', _, _, rfl, w21.sub _ _ hx17, PL.cl, PL.no _ (by decide), rfl, _, rfl, xp, CP, dx', _, _, rfl, w21.sub _ _ hx17, PL.cl, PL.no _ (by decide), rfl, sz (n := 2) (by decide), fun p2 hp2 => ?_⟩
      have w22 := w21.new (o := .tup [.str bg, .str en]) hp2
      refine ⟨_, rfl, _, rfl, sz (n := 2) (by decide), fun p3 hp3 => ?_⟩
      have w23 := w22.new (o := .tup [.str bg, .str en]) hp3
      have hp2' := w23.at 1
      have hp3' := w23.at 0
      generalize upd (upd H21 p2 (.tup [.str bg, .str en])) p3 (.tup [.str bg, .str en]) = H23 at w23 hp2' hp3'
      have be_ok := names_ok (st := [bg, en]) fun z hz => by
        rcases List.mem_cons.mp hz with rfl | hz
        · exact stn _ hbg
        · rw [List.mem_singleton.mp hz]; exact stn _ hen
      refine .inr ⟨namesD [bg, en], namesD [bg, en], names_dp (Same.refl _) hp2', names_dp (Same.refl _) hp3', be_ok.2, be_ok.2, ?_⟩
      rw [SeqAt.eqv_refl _ be_ok.1]
      refine ⟨_, rfl, iteF ?_⟩
      refine hN _ _ ?_
      try dsimp only
      refine stp _ rfl fun N hN => ?_
      -- the arrows are kept
      have hD17 := s17 _ _ hD11
      refine ⟨_, rfl, xp, CP, dx', _, _, rfl, w23.sub _ _ hx17, PL.cl, PL.no _ (by decide), rfl, _, rfl, D, ys, rfl, .inl ⟨SqL.of (w23.sub _ _ hD17), fun p4 hp4 => ?_⟩⟩
      have w24 := w23.new (o := .tup ys) hp4
      have hp4' := w24.at 0
      generalize upd H23 p4 (.tup ys) = H24 at w24 hp4'
      refine ⟨ta, p4, ys, rfl, rfl, w24.sub _ _ hta17, hp4', fun v hv => ?_, ?_⟩
      · obtain ⟨i, hi⟩ := List.getElem?_of_mem hv
        obtain ⟨dd, _, aa, nv, hat⟩ := pd_get pdm hi
        exact ⟨aa, hat.ev⟩
      refine ⟨_, rfl, iteF ?_⟩
      refine hN _ _ ?_
      try dsimp only
      refine stp _ rfl fun N hN => ?_
      have w25 : Bw b F1 H1 F17 H24 304 [] := (Bw.le w24.drop.drop.drop.drop.drop.drop.drop (by omega) : Bw b F1 H1 F17 H24 304 _)
      have hlf17 := s17 _ _ (s11 _ _ hlf)
      have pdl17 := pd_mono (fun _ _ => RLArr.mono (s11.trans s17)) pdl
      refine ⟨6, rfl, by decide, by decide, ?_⟩
      refine for_it (walk_range (lo := 0) (n := 6)) (fun i σ H' => ∃ (F' : Hp) (x15 x16 x17 x18 : Option V), Bw b F1 H1 F' H' (304 + 100 * i) [] ∧ Same F17 F' ∧ σ = [some (.ref a), some (.ref b), some kv, some (.ref x), some (.ref ls), some (.ref lf), some (.str bg), some (.str en), some (.ref D), none, none, none, none, some (.ref hd), some (.ref xp), x15, x16, x17, x18, none]) ⟨F17, none, none, none, none, w25, Same.refl _, rfl⟩ (fun i σ H' _ _ => trivial) ?_ ?_
      · rintro i y σ H' H'' hi ⟨F26, x15, x16, x17, x18, w26, s26, rfl⟩ ⟨e1, hy⟩
        subst e1
        have hlf26 := s26 _ _ hlf17
        have pdl26 := pd_mono (fun _ _ => RLArr.mono s26) pdl17
        refine stp [some (.ref a), some (.ref b), some kv, some (.ref x), some (.ref ls), some (.ref lf), some (.str bg), some (.str en), some (.ref D), none, none, none, none, some (.ref hd), some (.ref xp), some y, x16, x17, x18, none] rfl fun N1 hN1 => ?_
        refine ⟨_, rfl, _, rfl, _, rfl, _, rfl, F26, b, lf, _, as, la, bg, en, 5, rfl, w26.sub, w26.fb, w26.bg, hlf26, pdl26, by omega, by omega, by omega, fun F27 H27 r q27 g27 hr => ?_⟩
        have w27 := w26.call q27 g27
        have run : ∀ (F28 H28 : Hp) (l : Addr) (rs : List (Int × Int)), Bw b F1 H1 F28 H28 (304 + 100 * i + 30) [] → Same F27 F28 → RCls.rel rs (.ref l) F28 → rs.length ≤ 10 → N1 [some (.ref a), some (.ref b), some kv, some (.ref x), some (.ref ls), some (.ref lf), some (.str bg), some (.str en), some (.ref D), none, none, none, none, some (.ref hd), some (.ref xp), some y, some (.ref l), x17, x18, none] H28 := by
          intro F28 H28 l rs w28 s28 hrs hrl
          refine hN1 _ _ ?_
          clear hN1
          try dsimp only
          refine stp _ rfl fun N2 hN2 => ?_
          have s1728 := s26.trans (q27.ff.trans s28)
          obtain ⟨_, xs, e, hl, pd⟩ := hrs
          cases e
          have hxl : xs.length = rs.length := pd_len pd
          have right : ∀ (F H : Hp) (l : Addr) (rs : List (Int × Int)) (x17 x18 : Option V), Bw b F1 H1 F H (304 + 100 * i + 60) [] → Same F17 F → RCls.rel rs (.ref l) F → rs.length ≤ 30 → N2 [some (.ref a), some (.ref b), some kv, some (.ref x), some (.ref ls), some (.ref lf), some (.str bg), some (.str en), some (.ref D), none, none, none, none, some (.ref hd), some (.ref xp), some y, some (.ref l), x17, x18, none] H := by
            intro F H l rs x17 x18 w s hrs hrl
            obtain ⟨_, xs, e, hl, pd⟩ := hrs
            cases e
            refine hN2 _ _ ?_
            refine ⟨_, rfl, _, rfl, _, rfl, _, rfl, F, .ref xp, kv, lf, l, ⟨ks, st, ds, bg, en⟩, as, xs, la, rs, rfl, w.sub, (RPlan CT CN CP).mono s rp, RPairs.mono ((q7.ff.trans s11).trans (s17.trans s)) (RPairs.mono pu4.ff rk), ok, s _ _ hlf17, pd_mono (fun _ _ => RLArr.mono s) pdl17, hp, hl, pd, hrl, fun F' H' pu => ⟨true, rfl, iteF ?_⟩⟩
            exact ⟨F', some y, some (.ref l), x17, x18, (w.step pu).le (by omega), s.trans pu.ff, rfl⟩
          clear hN2
          refine ⟨_, rfl, sz (n := 0) (by decide), fun c hc => ?_⟩
          have w29 := w28.tmp (Same.new (o := .lst []) hc)
          refine .inr ⟨clsD rs, .list [], .lst (SqL.of (w29.sub _ _ hl)) (RDcl.all w29.sub pd), .lst (SqL.of upd_same) .nil, cls_shaped _, rfl, ?_⟩
          rw [cls_eqv]
          refine ⟨_, rfl, ?_⟩
          generalize upd H28 c (.lst []) = H29 at w29
          cases hre : rs.isEmpty with
          | true => exact iteF (iteF (right _ _ l rs _ _ (w29.le (by omega)) s1728 ⟨l, xs, rfl, hl, pd⟩ (by omega)))
          | false =>
            have hre' : rs ≠ [] := fun e => by rw [e] at hre; cases hre
            have hr0 : 0 < rs.length := List.length_pos_iff.mpr hre'
            refine iteT ?_
            refine ⟨_, rfl, F28, b, _, 2, rfl, w29.sub, w29.fb, w29.bg, by decide, by decide, by omega, fun dd H30 d0 d1 q30 g30 => ?_⟩
            have w30 := w29.call q30 g30
            refine .inl ⟨rfl, _, rfl, ?_⟩
            by_cases hd0 : dd = 0
            · rw [decide_eq_true (congrArg V.int hd0)]
              refine iteT ?_
              -- at
              refine stp _ rfl fun N3 hN3 => ?_
              refine ⟨_, rfl, _, rfl, .inl ⟨l, xs, rfl, .inl (SqL.of (w30.sub _ _ hl)), ?_⟩⟩
              refine ⟨F28, b, _, (xs.length : Nat), rfl, w30.sub, w30.fb, w30.bg, by omega, by omega, by omega, fun da H31 d0 d1 q31 g31 => ?_⟩
              have w31 := w30.call q31 g31
              obtain ⟨at_, rfl⟩ : ∃ m : Nat, da = (m : Int) := ⟨da.toNat, by omega⟩
              have hat : at_ < xs.length := by omega
              obtain ⟨cc, tt, y1, y2, hcc, hxt, htt, rfl, rfl⟩ := pair_at pd (List.getElem?_eq_getElem hat)
              have hxa : xs[at_]? = some (.ref tt) := by rw [List.getElem?_eq_getElem hat, hxt]
              refine hN3 _ _ ?_
              clear hN3
              refine stp _ rfl fun N4 hN4 => ?_
              -- put_in
              refine ⟨sz (n := 0) (by decide), fun e0 he0 => ?_⟩
              obtain ⟨G0, v0, t0, h0⟩ := w31.add' (o := .lst []) he0
              refine ⟨_, rfl, _, rfl, .inl ⟨l, xs, _, _, rfl, rfl, SqL.of (v0.sub _ _ (t0 _ _ hl)), atI_nat hxa, ?_⟩⟩
              refine ⟨_, rfl, _, rfl, .inl ⟨l, xs, _, _, rfl, rfl, SqL.of (v0.sub _ _ (t0 _ _ hl)), atI_nat hxa, ?_⟩⟩
              refine ⟨sz (n := 2) (by decide), fun e1 he1 => ?_⟩
              obtain ⟨G1, v1, t1, h1⟩ := v0.add' (o := .lst [.ref tt, .ref tt]) he1
              have t01 := t0.trans t1
              refine ⟨_, rfl, _, rfl, .inl ⟨l, xs, _, _, rfl, rfl, SqL.of (v1.sub _ _ (t01 _ _ hl)), atI_nat hxa, .inr (.inl ⟨tt, _, 0, _, rfl, rfl, SqT.of (v1.sub _ _ (t01 _ _ htt)), atI_nat (j := 0) rfl, ?_⟩)⟩⟩
              refine ⟨_, rfl, _, rfl, .inl ⟨l, xs, _, _, rfl, rfl, SqL.of (v1.sub _ _ (t01 _ _ hl)), atI_nat hxa, .inr (.inl ⟨tt, _, 1, _, rfl, rfl, SqT.of (v1.sub _ _ (t01 _ _ htt)), atI_nat (j := 1) rfl, ?_⟩)⟩⟩
              refine .inl ⟨_, _, rfl, rfl, sz (n := 2) (by decide), fun e2 he2 => ?_⟩
              obtain ⟨G2, v2, t2, h2⟩ := v1.add' (o := .tup [.int cc.1, .int (cc.2 + 1)]) he2
              refine ⟨sz (n := 1) (by decide), fun e3 he3 => ?_⟩
              obtain ⟨G3, v3, t3, h3⟩ := v2.add' (o := .lst [.ref e2]) he3
              have t03 := t01.trans (t2.trans t3)
              refine ⟨_, rfl, .inl ⟨lf, as, rfl, .inl (SqL.of (v3.sub _ _ ((s1728.trans t03) _ _ hlf17))), sz (n := 2) (by decide), fun e4 he4 => ?_⟩⟩
              obtain ⟨G4, v4, t4, h4⟩ := v3.add' (o := .tup [.int as.length, .int 0]) he4
              refine ⟨sz (n := 1) (by decide), fun e5 he5 => ?_⟩
              obtain ⟨G5, v5, t5, h5⟩ := v4.add' (o := .lst [.ref e4]) he5
              refine ⟨_, rfl, sz (n := 2) (by decide), fun e6 he6 => ?_⟩
              obtain ⟨G6, v6, t6, h6⟩ := v5.add' (o := .tup [.int (-1), .int 0]) he6
              refine ⟨sz (n := 1) (by decide), fun e7 he7 => ?_⟩
              obtain ⟨G7, v7, t7, h7⟩ := v6.add' (o := .lst [.ref e6]) he7
              refine ⟨sz (n := 5) (by decide), fun e8 he8 => ?_⟩
              obtain ⟨G8, v8, t8, h8⟩ := v7.add' (o := .lst [.ref e0, .ref e1, .ref e3, .ref e5, .ref e7]) he8
              refine hN4 _ _ ?_
              clear hN4
              have t38 := (t4.trans t5).trans ((t6.trans t7).trans t8)
              have t08 := t03.trans t38
              have put : ∀ (j : Int), 0 ≤ j → j < 5 → ∃ (l2 : Addr) (rs2 : List (Int × Int)) (xs2 : List V), ([V.ref e0, .ref e1, .ref e3, .ref e5, .ref e7])[j.toNat]? = some (.ref l2) ∧ G8 l2 = some (.lst xs2) ∧ Paired (fun d x => RCl.rel d x G8) rs2 xs2 ∧ rs2.length ≤ 2 := by
                have T7 := t8
                have T5 := (t6.trans t7).trans t8
                have T4 := t5.trans T5
                have T3 := t4.trans T4
                have T2 := t3.trans T3
                have T1 := t2.trans T2
                have T0 := t1.trans T1
                have ptt : RCl.rel cc (.ref tt) G8 := ⟨tt, _, _, rfl, t08 _ _ htt, rfl, rfl⟩
                intro j j0 j5
                rcases (by omega : j = 0 ∨ j = 1 ∨ j = 2 ∨ j = 3 ∨ j = 4) with h | h | h | h | h <;> subst h
                · exact ⟨e0, [], [], rfl, T0 _ _ h0, .nil, by decide⟩
                · exact ⟨e1, [cc, cc], _, rfl, T1 _ _ h1, .cons ptt (.cons ptt .nil), Nat.le_refl 2⟩
                · exact ⟨e3, [(cc.1, cc.2 + 1)], _, rfl, T3 _ _ h3, .cons ⟨e2, _, _, rfl, T2 _ _ h2, rfl, rfl⟩ .nil, Nat.le_succ 1⟩
                · exact ⟨e5, [((as.length : Nat), 0)], _, rfl, T5 _ _ h5, .cons ⟨e4, _, _, rfl, T4 _ _ h4, rfl, rfl⟩ .nil, Nat.le_succ 1⟩
                · exact ⟨e7, [(-1, 0)], _, rfl, T7 _ _ h7, .cons ⟨e6, _, _, rfl, (t7.trans t8) _ _ h6, rfl, rfl⟩ .nil, Nat.le_succ 1⟩
              -- the run made of it
              refine stq [some (.ref a), some (.ref b), some kv, some (.ref x), some (.ref ls), some (.ref lf), some (.str bg), some (.str en), some (.ref D), none, none, none, none, some (.ref hd), some (.ref xp), some y, some (.ref l), some (.int (at_ : Nat)), some (.ref e8), none] rfl ?_
              have hl8 := t08 _ _ hl
              refine ⟨_, rfl, _, rfl, _, rfl, l, xs, rfl, SqL.of (v8.sub _ _ hl8), fun f1 hf1 => ?_⟩
              rw [cut_take (by omega)]
              obtain ⟨G9, v9, t9, h9⟩ := v8.add' (o := .lst (xs.take at_)) hf1
              refine ⟨_, rfl, _, rfl, G9, b, _, 5, rfl, v9.sub, v9.fb, v9.bg, by decide, by decide, by omega, fun dp H32 p0 p1 q32 g32 => ?_⟩
              have v10 := v9.call q32 g32
              obtain ⟨l2, rs2, xs2, hy2, hl2, pd2, hr2⟩ := put dp p0 p1
              have hx2l : xs2.length = rs2.length := pd_len pd2
              refine .inl ⟨e8, _, dp, _, rfl, rfl, SqL.of (v10.sub _ _ (t9 _ _ h8)), atI_int p0 hy2, ?_⟩
              refine .inr (.inr ⟨f1, l2, _, _, rfl, rfl, v10.sub _ _ h9, v10.sub _ _ (t9 _ _ hl2), sz (by simp; omega), fun f2 hf2 => ?_⟩)
              obtain ⟨G10, v11, t10, h10⟩ := v10.add' (o := .lst (xs.take at_ ++ xs2)) hf2
              refine ⟨_, rfl, _, rfl, .inl ⟨_, _, rfl, rfl, _, rfl, l, xs, rfl, SqL.of (v11.sub _ _ ((t9.trans t10) _ _ hl8)), fun f3 hf3 => ?_⟩⟩
              rw [show cutV xs (some ((at_ : Int) + 1)) none = xs.drop (at_ + 1) from cut_drop (i := at_ + 1)]
              obtain ⟨G11, v12, t11, h11⟩ := v11.add' (o := .lst (xs.drop (at_ + 1))) hf3
              refine .inr (.inr ⟨f2, f3, _, _, rfl, rfl, v12.sub _ _ (t11 _ _ h10), v12.sub _ _ h11, sz (by simp; omega), fun f4 hf4 => ?_⟩)
              obtain ⟨G12, v13, t12, h12⟩ := v12.add' (o := .lst ((xs.take at_ ++ xs2) ++ xs.drop (at_ + 1))) hf4
              have t812 := (t9.trans t10).trans (t11.trans t12)
              have pd12 := pd_mono (fun _ _ => RCl.mono (t08.trans t812)) pd
              exact right G12 _ f4 ((rs.take at_ ++ rs2) ++ rs.drop (at_ + 1)) _ _ (v13.le (by omega)) (s1728.trans (t08.trans t812)) ⟨f4, _, rfl, h12, pd_app (pd_app (pd_take _ pd12) (pd_mono (fun _ _ => RCl.mono t812) pd2)) (pd_drop _ pd12)⟩ (by simp; omega)
            · rw [decide_eq_false (fun q => hd0 (V.int.inj q))]
              exact iteF (right _ _ l rs _ _ (w30.le (by omega)) s1728 ⟨l, xs, rfl, hl, pd⟩ (by omega))
        have nil : ∀ l, H27 l = none → N1 [some (.ref a), some (.ref b), some kv, some (.ref x), some (.ref ls), some (.ref lf), some (.str bg), some (.str en), some (.ref D), none, none, none, none, some (.ref hd), some (.ref xp), some y, some (.ref l), x17, x18, none] (upd H27 l (.lst [])) := fun l hl =>
          run _ _ l [] (w27.add hl) (Same.new (w27.sub.free hl)) ⟨l, [], rfl, upd_same, .nil⟩ (by simp)
        rcases hr with rfl | ⟨rs, ⟨l, xs, rfl, hl, pd⟩, hrl⟩
        · exact ⟨false, rfl, iteF ⟨sz (n := 0) (by decide), fun l hl => nil l hl⟩⟩
        · cases he : xs.isEmpty with
          | true => exact ⟨false, .inl ⟨xs, SqL.of (w27.sub _ _ hl), by rw [he]; rfl⟩, iteF ⟨sz (n := 0) (by decide), fun l hl => nil l hl⟩⟩
          | false => exact ⟨true, .inl ⟨xs, SqL.of (w27.sub _ _ hl), by rw [he]; rfl⟩, iteT (run _ _ l rs w27 (Same.refl _) ⟨l, xs, rfl, hl, pd⟩ hrl)⟩
      · rintro σ H' ⟨F26, x15, x16, x17, x18, w26, s26, rfl⟩
        refine hN _ _ ?_
        clear hN
        try dsimp only
        refine stp _ rfl fun N hN => ?_
        -- what is no list of pairs
        refine ⟨sz (n := 1) (by decide), fun e1 he1 => ?_⟩
        obtain ⟨G1, v1, t1, h1⟩ := w26.add' (o := .lst [.non]) he1
        refine ⟨sz (n := 1) (by decide), fun e2 he2 => ?_⟩
        obtain ⟨G2, v2, t2, h2⟩ := v1.add' (o := .tup [.int 0]) he2
        refine ⟨sz (n := 1) (by decide), fun e3 he3 => ?_⟩
        obtain ⟨G3, v3, t3, h3⟩ := v2.add' (o := .lst [.ref e2]) he3
        refine ⟨sz (n := 2) (by decide), fun e4 he4 => ?_⟩
        obtain ⟨G4, v4, t4, h4⟩ := v3.add' (o := .tup [.str "a", .int 0]) he4
        refine ⟨sz (n := 1) (by decide), fun e5 he5 => ?_⟩
        obtain ⟨G5, v5, t5, h5⟩ := v4.add' (o := .lst [.ref e4]) he5
        refine ⟨sz (n := 4) (by decide), fun e6 he6 => ?_⟩
        obtain ⟨G6, v6, t6, h6⟩ := v5.add' (o := .lst [.ref e1, .int 5, .ref e3, .ref e5]) he6
        have T5 := t6
        have T4 := t5.trans T5
        have T3 := t4.trans T4
        have T2 := t3.trans T3
        have T1 := t2.trans T2
        have s6 := s26.trans (t1.trans T1)
        generalize upd (upd (upd (upd (upd (upd H' e1 (.lst [.non])) e2 (.tup [.int 0])) e3 (.lst [.ref e2])) e4 (.tup [.str "a", .int 0])) e5 (.lst [.ref e4])) e6 (.lst [.ref e1, .int 5, .ref e3, .ref e5]) = H6 at v6
        refine hN _ _ ?_
        clear hN
        refine stq [some (.ref a), some (.ref b), some kv, some (.ref x), some (.ref ls), some (.ref lf), some (.str bg), some (.str en), some (.ref D), none, none, none, none, some (.ref hd), some (.ref xp), x15, x16, x17, x18, some (.ref e6)] rfl ?_
        refine ⟨_, rfl, e6, rfl, ⟨_, SqL.of (v6.sub _ _ h6)⟩, fun D2 hD2 => ?_⟩
        refine go_lc (F1 := G6) (walk_list (xs := [.ref e1, .int 5, .ref e3, .ref e5])) Rp.val (fun _ => []) (sz4 _ _ _ _) v6.sub hD2 rfl (fun F1 H1 pu => SqL.of (pu.sub _ _ (pu.ff _ _ h6))) (fun i y F7 H7 l H8 N hi pu fD hl1 hy kt kf => ?_) (fun F7 H7 zs pu fD hl7 pd7 => ?_)
        · obtain ⟨e1', hy⟩ := hy
          subst e1'
          have s68 : Same G6 H8 := pu.ff.trans pu.sub
          have rp6 := (RPlan CT CN CP).mono s6 rp
          refine ⟨rfl, ?_⟩
          refine ⟨_, rfl, xp, dx', _, rfl, s68 _ _ (s6 _ _ hx17), rfl, _, rfl, .ref xp, y, rfl, ?_⟩
          have no : ∀ H9, Same H8 H9 → N H9 := fun H9 s9 => kf H9 F7 ⟨s9, Grow.tmp pu.sub s9⟩ rfl
          have bad : ∀ (e : Addr) (u : V), H8 e = some (.lst [u]) → PairV K u H8 none → ∃ (F : Hp) (a : Addr) (xs : List V) (d : PlanD) (ps : Run), V.ref e = .ref a ∧ Same F H8 ∧ (RPlan CT CN CP).rel d (.ref xp) F ∧ Sq2 H8 a xs ∧ Paired (fun p x => PairV K x H8 p) ps xs ∧ xs.length ≤ 1000 ∧ (faultD d.ds d.e d.b 0 ps).isNone = false := fun e u he pv =>
            ⟨G6, e, [u], ⟨ks, st, ds, bg, en⟩, [none], rfl, s68, rp6, .inl he, .cons pv .nil, Nat.le_add_left 1 999, by rw [faultD_cons]; rfl⟩
          rcases (by have : i < 4 := hi; omega : i = 0 ∨ i = 1 ∨ i = 2 ∨ i = 3) with h | h | h | h <;> subst h
          · cases hy
            obtain ⟨F9, a9, xs9, d9, ps9, z1, z2, z3, z4, z5, z6, z7⟩ := bad e1 .non (s68 _ _ (T1 _ _ h1)) (.ty (TyX.base TyOf.non) (kitAny_cons (kit_ty (r := false) (by decide +kernel)) (fun _ => kitAny_cons (kit_ty (r := false) (by decide +kernel)) (fun _ => kitAny_nil) (fun h => by cases h)) (fun h => by cases h)))
            exact .inr ⟨F9, a9, xs9, d9, ps9, z1, z2, z3, z4, z5, z6, fun H9 s9 => by rw [z7]; exact ⟨false, rfl, iteF (no H9 s9)⟩⟩
          · cases hy
            exact .inl ⟨_, TyX.base (TyOf.int 5), kitAny_cons (kit_ty (r := false) (by decide +kernel)) (fun _ => kitAny_cons (kit_ty (r := false) (by decide +kernel)) (fun _ => kitAny_nil) (fun h => by cases h)) (fun h => by cases h), fun H9 s9 => ⟨false, rfl, iteF (no H9 s9)⟩⟩
          · cases hy
            obtain ⟨F9, a9, xs9, d9, ps9, z1, z2, z3, z4, z5, z6, z7⟩ := bad e3 (.ref e2) (s68 _ _ (T3 _ _ h3)) (.len (.inr (s68 _ _ (T2 _ _ h2))) (by decide))
            exact .inr ⟨F9, a9, xs9, d9, ps9, z1, z2, z3, z4, z5, z6, fun H9 s9 => by rw [z7]; exact ⟨false, rfl, iteF (no H9 s9)⟩⟩
          · cases hy
            obtain ⟨F9, a9, xs9, d9, ps9, z1, z2, z3, z4, z5, z6, z7⟩ := bad e5 (.ref e4) (s68 _ _ (T5 _ _ h5)) (.nint (b := false) (.inr (s68 _ _ (T4 _ _ h4))) (TyX.base (TyOf.str "a")) (kit_ty (r := false) (by decide +kernel)) (.inr (kit_ty (r := false) (by decide +kernel))))
            exact .inr ⟨F9, a9, xs9, d9, ps9, z1, z2, z3, z4, z5, z6, fun H9 s9 => by rw [z7]; exact ⟨false, rfl, iteF (no H9 s9)⟩⟩
        · have w7' := v6.lc hD2 pu fD hl7
          cases pd7
          refine ⟨sz (n := 0) (by decide), fun c hc => ?_⟩
          have w8' := w7'.drop.tmp (Same.new (o := .lst []) hc)
          refine .inr ⟨.list [], .list [], .lst (SqL.of (look_new hl7 hc)) .nil, .lst (SqL.of upd_same) .nil, cls_shaped [], cls_shaped [], ?_⟩
          rw [SeqAt.eqv_refl _ rfl]
          refine ⟨true, rfl, iteT ?_⟩
          have s7 := s6.trans pu.ff
          refine ⟨_, rfl, _, rfl, _, rfl, _, rfl, _, rfl, F7, b, ls, D, _, 1 + m2, 1 + m1, .ref x, bg, ks, st, ys, ds, rfl, w8'.sub, w8'.fb, w8'.bg, (RTurns CT).mono (s17.trans s7) rt11, kp, by omega, by omega, s7 _ _ (s17 _ _ (s11 _ _ hls)), sp, by omega, by omega, s7 _ _ hD17, ?_, by omega, hbg, by omega, fun F9 H9 q9 g9 => ?_⟩
          · exact pd_mono (fun (d : ArrD) (v : V) (h : (RArr CN).rel d v F11 ∧ arrGood ks st d) => (⟨(RArr CN).mono (s17.trans s7) h.1, h.2⟩ : (RArr CN).rel d v _ ∧ arrGood ks st d)) pdg
          · have w9' := w8'.call q9 g9
            exact k H9 fun aa o e => w9'.pb.keep (fun z => by subst z; rw [hb0] at e; cases e) (pu0.same _ _ e)
end
end TR

/-! part H81 -/
set_option maxHeartbeats 0
namespace TR
open PySem PySem.Spec PyProof.Rows L2 G He HX
abbrev s_BadName_init : Stmt := inClass (top 9) 0
abbrev s_TwiceNamed_init : Stmt := inClass (top 10) 0
abbrev s_BadArrow_init : Stmt := inClass (top 19) 0
abbrev s_NoStation_init : Stmt := inClass (top 18) 0
def d_is_whole : DX := ⟨fun K => ga K "is_whole", "is_whole", "is_whole", defArgs s_is_whole, defBody s_is_whole, defScope s_is_whole, []⟩
def d_is_name : DX := ⟨fun K => ga K "is_name", "is_name", "is_name", defArgs s_is_name, defBody s_is_name, defScope s_is_name, []⟩
def d_reduced : DX := ⟨fun K => ga K "reduced", "reduced", "reduced", defArgs s_reduced, defBody s_reduced, defScope s_reduced, []⟩
def d_normal_steps : DX := ⟨fun K => ga K "normal_steps", "normal_steps", "normal_steps", defArgs s_normal_steps, defBody s_normal_steps, defScope s_normal_steps, []⟩
def d_step_key : DX := ⟨fun K => ga K "step_key", "step_key", "step_key", defArgs s_step_key, defBody s_step_key, defScope s_step_key, []⟩
def d_is_part : DX := ⟨fun K => ga K "is_part", "is_part", "is_part", defArgs s_is_part, defBody s_is_part, defScope s_is_part, []⟩
def d_is_covered : DX := ⟨fun K => ga K "is_covered", "is_covered", "is_covered", defArgs s_is_covered, defBody s_is_covered, defScope s_is_covered, []⟩
def d_tidy_classes : DX := ⟨fun K => ga K "tidy_classes", "tidy_classes", "tidy_classes", defArgs s_tidy_classes, defBody s_tidy_classes, defScope s_tidy_classes, []⟩
def d_is_arrow : DX := ⟨fun K => ga K "is_arrow", "is_arrow", "is_arrow", defArgs s_is_arrow, defBody s_is_arrow, defScope s_is_arrow, []⟩
def d_w_bag : DX := ⟨fun K => ga K "_law_bag", "_law_bag", "_law_bag", defArgs s_w_bag, defBody s_w_bag, defScope s_w_bag, []⟩
def d_w_draw : DX := ⟨fun K => ga K "_law_draw", "_law_draw", "_law_draw", defArgs s_w_draw, defBody s_w_draw, defScope s_w_draw, []⟩
def d_w_ident : DX := ⟨fun K => ga K "_law_ident", "_law_ident", "_law_ident", defArgs s_w_ident, defBody s_w_ident, defScope s_w_ident, []⟩
def d_w_kinds : DX := ⟨fun K => ga K "_law_kinds", "_law_kinds", "_law_kinds", defArgs s_w_kinds, defBody s_w_kinds, defScope s_w_kinds, []⟩
def d_w_normal : DX := ⟨fun K => ga K "_law_normal", "_law_normal", "_law_normal", defArgs s_w_normal, defBody s_w_normal, defScope s_w_normal, []⟩
def d_w_plan : DX := ⟨fun K => ga K "_law_plan", "_law_plan", "_law_plan", defArgs s_w_plan, defBody s_w_plan, defScope s_w_plan, []⟩
def d_w_members : DX := ⟨fun K => ga K "_law_members", "_law_members", "_law_members", defArgs s_w_members, defBody s_w_members, defScope s_w_members, []⟩
def d_w_is_member : DX := ⟨fun K => ga K "_law_is_member", "_law_is_member", "_law_is_member", defArgs s_w_is_member, defBody s_w_is_member, defScope s_w_is_member, []⟩
def d_w_run : DX := ⟨fun K => ga K "_law_run", "_law_run", "_law_run", defArgs s_w_run, defBody s_w_run, defScope s_w_run, []⟩
def d_w_fault : DX := ⟨fun K => ga K "_law_fault", "_law_fault", "_law_fault", defArgs s_w_fault, defBody s_w_fault, defScope s_w_fault, []⟩
def d_w_told : DX := ⟨fun K => ga K "_law_told", "_law_told", "_law_told", defArgs s_w_told, defBody s_w_told, defScope s_w_told, []⟩
def d_w_tried : DX := ⟨fun K => ga K "_law_tried", "_law_tried", "_law_tried", defArgs s_w_tried, defBody s_w_tried, defScope s_w_tried, []⟩
def d_w_refusals : DX := ⟨fun K => ga K "_law_refusals", "_law_refusals", "_law_refusals", defArgs s_w_refusals, defBody s_w_refusals, defScope s_w_refusals, []⟩
def d_w_run_right : DX := ⟨fun K => ga K "_law_run_right", "_law_run_right", "_law_run_right", defArgs s_w_run_right, defBody s_w_run_right, defScope s_w_run_right, []⟩
def d_law : DX := ⟨fun K => ga K "law", "law", "law", defArgs s_law, defBody s_law, defScope s_law, []⟩
def d_Turns_contains : DX := ⟨fun K => ma K (ga K "Turns") "__contains__", "__contains__", "Turns.__contains__", defArgs s_Turns_contains, defBody s_Turns_contains, defScope s_Turns_contains, []⟩
def d_Turns_period_of : DX := ⟨fun K => ma K (ga K "Turns") "period_of", "period_of", "Turns.period_of", defArgs s_Turns_period_of, defBody s_Turns_period_of, defScope s_Turns_period_of, []⟩
def d_Turns_rank : DX := ⟨fun K => ma K (ga K "Turns") "rank", "rank", "Turns.rank", defArgs s_Turns_rank, defBody s_Turns_rank, defScope s_Turns_rank, []⟩
def d_Turns_eq : DX := ⟨fun K => ma K (ga K "Turns") "__eq__", "__eq__", "Turns.__eq__", defArgs s_Turns_eq, defBody s_Turns_eq, defScope s_Turns_eq, []⟩
def d_Numbers_contains : DX := ⟨fun K => ma K (ga K "Numbers") "__contains__", "__contains__", "Numbers.__contains__", defArgs s_Numbers_contains, defBody s_Numbers_contains, defScope s_Numbers_contains, []⟩
def d_Plan_takes : DX := ⟨fun K => ma K (ga K "Plan") "takes", "takes", "Plan.takes", defArgs s_Plan_takes, defBody s_Plan_takes, defScope s_Plan_takes, []⟩
def d_Plan_is_run : DX := ⟨fun K => ma K (ga K "Plan") "is_run", "is_run", "Plan.is_run", defArgs s_Plan_is_run, defBody s_Plan_is_run, defScope s_Plan_is_run, []⟩
def d_Plan_fault : DX := ⟨fun K => ma K (ga K "Plan") "fault", "fault", "Plan.fault", defArgs s_Plan_fault, defBody s_Plan_fault, defScope s_Plan_fault, []⟩
def d_Plan_row_of : DX := ⟨fun K => ma K (ga K "Plan") "row_of", "row_of", "Plan.row_of", defArgs s_Plan_row_of, defBody s_Plan_row_of, defScope s_Plan_row_of, []⟩
def d_Turns_init : DX := ⟨fun K => ma K (ga K "Turns") "__init__", "__init__", "Turns.__init__", defArgs s_Turns_init, defBody s_Turns_init, defScope s_Turns_init, []⟩
def d_Row_init : DX := ⟨fun K => ma K (ga K "Row") "__init__", "__init__", "Row.__init__", defArgs s_Row_init, defBody s_Row_init, defScope s_Row_init, [.adr (dflAt ("Row", some "__init__") 0)]⟩
def d_Numbers_init : DX := ⟨fun K => ma K (ga K "Numbers") "__init__", "__init__", "Numbers.__init__", defArgs s_Numbers_init, defBody s_Numbers_init, defScope s_Numbers_init, [.adr (dflAt ("Numbers", some "__init__") 0)]⟩
def d_Plan_init : DX := ⟨fun K => ma K (ga K "Plan") "__init__", "__init__", "Plan.__init__", defArgs s_Plan_init, defBody s_Plan_init, defScope s_Plan_init, []⟩
def d_Numbers_every : DX := ⟨sAd "Numbers" "every", "every", "Numbers.every", defArgs s_Numbers_every, defBody s_Numbers_every, defScope s_Numbers_every, []⟩
def x_BadName : XD := ⟨"BadName", "BadName.__init__", "name", defArgs s_BadName_init, defBody s_BadName_init, defScope s_BadName_init⟩
def x_TwiceNamed : XD := ⟨"TwiceNamed", "TwiceNamed.__init__", "name", defArgs s_TwiceNamed_init, defBody s_TwiceNamed_init, defScope s_TwiceNamed_init⟩
def x_BadArrow : XD := ⟨"BadArrow", "BadArrow.__init__", "index", defArgs s_BadArrow_init, defBody s_BadArrow_init, defScope s_BadArrow_init⟩
def x_NoStation : XD := ⟨"NoStation", "NoStation.__init__", "name", defArgs s_NoStation_init, defBody s_NoStation_init, defScope s_NoStation_init⟩
def fa0 : List He.Fa := [.glo "is_whole",
  .glo "is_name",
  .glo "reduced",
  .glo "normal_steps",
  .glo "step_key",
  .glo "is_part",
  .glo "is_covered",
  .glo "tidy_classes",
  .glo "is_arrow",
  .glo "_law_bag",
  .glo "_law_draw",
  .glo "_law_ident",
  .glo "_law_kinds",
  .glo "_law_normal",
  .glo "_law_plan",
  .glo "_law_members",
  .glo "_law_is_member",
  .glo "_law_run",
  .glo "_law_fault",
  .glo "_law_told",
  .glo "_law_tried",
  .glo "_law_refusals",
  .glo "_law_run_right",
  .glo "law",
  .glo "Turns",
  .glo "Row",
  .glo "Numbers",
  .glo "Plan",
  .glo "BadName",
  .glo "TwiceNamed"]
def fa1 : List He.Fa := [.glo "BadArrow",
  .glo "NoStation",
  .glo "TurnError",
  .free "len",
  .free "isinstance",
  .free "int",
  .free "str",
  .free "bool",
  .free "list",
  .free "tuple",
  .free "all",
  .free "any",
  .free "min",
  .free "max",
  .free "abs",
  .free "sum",
  .free "set",
  .free "sorted",
  .free "enumerate",
  .free "range",
  .free "dict",
  .free "zip",
  .free "super",
  .str "LETTERS" LET,
  .str "DIGITS" DIG,
  .int "LONGEST_NAME" 12,
  .cls "Turns",
  .noat "Turns" "pairs",
  .noat "Turns" "names",
  .noat "Turns" "periods"]
def fa2 : List He.Fa := [.noat "Turns" "ranks",
  .mkr "Turns",
  .cls "Row",
  .noat "Row" "turns",
  .noat "Row" "steps",
  .noat "Row" "key",
  .mkr "Row",
  .cls "Numbers",
  .noat "Numbers" "classes",
  .noat "Numbers" "singles",
  .mkr "Numbers",
  .cls "Plan",
  .noat "Plan" "turns",
  .noat "Plan" "stations",
  .noat "Plan" "arrows",
  .noat "Plan" "begin",
  .noat "Plan" "end",
  .mkr "Plan",
  .meth "Turns" "__contains__",
  .meth "Turns" "period_of",
  .meth "Turns" "rank",
  .meth "Turns" "__eq__",
  .meth "Numbers" "__contains__",
  .meth "Plan" "takes",
  .meth "Plan" "is_run",
  .meth "Plan" "fault",
  .meth "Plan" "row_of",
  .exm "BadName" "BadName" true,
  .exm "TwiceNamed" "BadName" false,
  .exm "TwiceNamed" "TwiceNamed" true]
def fa3 : List He.Fa := [.exm "BadArrow" "BadName" false,
  .exm "BadArrow" "TwiceNamed" false,
  .exm "BadArrow" "BadArrow" true,
  .exm "NoStation" "BadName" false,
  .exm "NoStation" "TwiceNamed" false,
  .exm "NoStation" "BadArrow" false,
  .exm "NoStation" "NoStation" true]
def fa : List He.Fa := fa0 ++ fa1 ++ fa2 ++ fa3
def fn0 : List DX := [d_is_whole,
  d_is_name,
  d_reduced,
  d_normal_steps,
  d_step_key,
  d_is_part,
  d_is_covered,
  d_tidy_classes,
  d_is_arrow,
  d_w_bag,
  d_w_draw,
  d_w_ident,
  d_w_kinds,
  d_w_normal,
  d_w_plan,
  d_w_members,
  d_w_is_member,
  d_w_run,
  d_w_fault,
  d_w_told,
  d_w_tried,
  d_w_refusals,
  d_w_run_right,
  d_law,
  d_Turns_contains,
  d_Turns_period_of,
  d_Turns_rank,
  d_Turns_eq,
  d_Numbers_contains,
  d_Plan_takes]
def fn1 : List DX := [d_Plan_is_run,
  d_Plan_fault,
  d_Plan_row_of,
  d_Turns_init,
  d_Row_init,
  d_Numbers_init,
  d_Plan_init,
  d_Numbers_every]
def fn : List DX := fn0 ++ fn1
def ex0 : List XD := [x_BadName,
  x_TwiceNamed,
  x_BadArrow,
  x_NoStation]
def ex : List XD := ex0
def cs0 : List (PySem.W.Frag → Bool) := [insB "Turns",
  insB "Numbers",
  ccB "Turns" "MOST" (.int 8),
  stB "Numbers" "every",
  exkB "BadName" "TurnError",
  exkB "TwiceNamed" "TurnError",
  exkB "BadArrow" "TurnError",
  exkB "NoStation" "TurnError",
  fun K => decide (PySem.W.kitOne K (.type "list") (.ref (ga K "Numbers")) = some false),
  fun K => eqO (PySem.W.findIn K (.ref (ga K "Turns")) "__ne__") (some (some (.builtin "object.__ne__"))),
  fun K => decide (PySem.W.mroIn K (ga K "Turns") (.type "object") = some true)]
def cs : List (PySem.W.Frag → Bool) := cs0
def kn0 : List Str := ["BadArrow",
  "BadName",
  "NoStation",
  "Numbers",
  "Plan",
  "Row",
  "TurnError",
  "Turns",
  "TwiceNamed",
  "__contains__",
  "__eq__",
  "__init__",
  "_law_bag",
  "_law_draw",
  "_law_fault",
  "_law_ident",
  "_law_is_member",
  "_law_kinds",
  "_law_members",
  "_law_normal",
  "_law_plan",
  "_law_refusals",
  "_law_run",
  "_law_run_right",
  "_law_told",
  "_law_tried",
  "every",
  "fault",
  "is_arrow",
  "is_covered"]
def kn1 : List Str := ["is_name",
  "is_part",
  "is_run",
  "is_whole",
  "law",
  "normal_steps",
  "period_of",
  "rank",
  "reduced",
  "row_of",
  "step_key",
  "takes",
  "tidy_classes"]
def kn : List Str := kn0 ++ kn1
def loose0 : List Str := ["_wall",
  "__name__",
  "common_divisor",
  "common_multiple",
  "combination",
  "inverse",
  "common_class",
  "TurnError",
  "BadName",
  "TwiceNamed",
  "BadPeriod",
  "NoTurns",
  "TooMany",
  "NoTurn",
  "OtherTurns",
  "BadText",
  "BadPart",
  "NoStation",
  "BadArrow",
  "LETTERS",
  "DIGITS",
  "LONGEST_NAME",
  "is_name",
  "reduced",
  "normal_steps",
  "step_key",
  "read_step",
  "Row",
  "is_whole",
  "is_part"]
def loose1 : List Str := ["tidy_classes",
  "refined",
  "is_covered",
  "bare_number",
  "Numbers",
  "Turns",
  "is_arrow",
  "Plan",
  "_law_bag",
  "_law_draw",
  "_law_ident",
  "_law_kinds",
  "_law_steps",
  "_law_normal",
  "_law_plan",
  "_law_members",
  "_law_is_member",
  "_law_run",
  "_law_fault",
  "_law_told",
  "_law_tried",
  "_law_refusals",
  "_law_run_right"]
def loose : List Str := loose0 ++ loose1
abbrev RW : PySem.W.OpenRow := PySem.W.OpenLaw.row PySem.Challenge.rw_turnrings_k81_plans_made_and_their_runs
abbrev qv : Program := PySem.W.view RW.prog [59]
abbrev PR : Program := (PySem.Challenge.rw_turnrings_k81_plans_made_and_their_runs).prog
abbrev fileS : Str := PR.main.file
abbrev hk : PySem.W.Hook := hookX kn fileS fa fn ex cs 5
def ob (s : PySem.W.SharedT) : AlX := obsXG kn fileS fa fn ex cs 5 (HandSHeadRun.getT s)
theorem ob_eq (s : PySem.W.SharedT) : ob s = hk.obs s.abs := obsXG_eq (HandSHeadRun.getT_eq s)
theorem xb_BadName : ∃ (ar : Arg) (prm : Str) (body : List Stmt), XBody s_BadName_init "BadName.__init__" "name" ar prm body :=
  ⟨_, "name", _, { bd := rfl, sh := ⟨_, _, _, _, _, _, _, _, _, _, _, _, rfl, fun L f cda cc env e => by subst e; exact ⟨⟨_, rfl⟩, rfl, rfl, rfl, rfl⟩⟩, hr := rfl, se := rfl, ks := by decide +kernel, kc := by decide +kernel, ka := by decide +kernel, kp := by decide +kernel, ki := rfl, co := rfl, ge := rfl, ce := by decide +kernel, pr := by decide +kernel, bi := fun _ _ _ _ _ _ _ _ _ => rfl }⟩
theorem xb_TwiceNamed : ∃ (ar : Arg) (prm : Str) (body : List Stmt), XBody s_TwiceNamed_init "TwiceNamed.__init__" "name" ar prm body :=
  ⟨_, "name", _, { bd := rfl, sh := ⟨_, _, _, _, _, _, _, _, _, _, _, _, rfl, fun L f cda cc env e => by subst e; exact ⟨⟨_, rfl⟩, rfl, rfl, rfl, rfl⟩⟩, hr := rfl, se := rfl, ks := by decide +kernel, kc := by decide +kernel, ka := by decide +kernel, kp := by decide +kernel, ki := rfl, co := rfl, ge := rfl, ce := by decide +kernel, pr := by decide +kernel, bi := fun _ _ _ _ _ _ _ _ _ => rfl }⟩
theorem xb_BadArrow : ∃ (ar : Arg) (prm : Str) (body : List Stmt), XBody s_BadArrow_init "BadArrow.__init__" "index" ar prm body :=
  ⟨_, "index", _, { bd := rfl, sh := ⟨_, _, _, _, _, _, _, _, _, _, _, _, rfl, fun L f cda cc env e => by subst e; exact ⟨⟨_, rfl⟩, rfl, rfl, rfl, rfl⟩⟩, hr := rfl, se := rfl, ks := by decide +kernel, kc := by decide +kernel, ka := by decide +kernel, kp := by decide +kernel, ki := rfl, co := rfl, ge := rfl, ce := by decide +kernel, pr := by decide +kernel, bi := fun _ _ _ _ _ _ _ _ _ => rfl }⟩
theorem xb_NoStation : ∃ (ar : Arg) (prm : Str) (body : List Stmt), XBody s_NoStation_init "NoStation.__init__" "name" ar prm body :=
  ⟨_, "name", _, { bd := rfl, sh := ⟨_, _, _, _, _, _, _, _, _, _, _, _, rfl, fun L f cda cc env e => by subst e; exact ⟨⟨_, rfl⟩, rfl, rfl, rfl, rfl⟩⟩, hr := rfl, se := rfl, ks := by decide +kernel, kc := by decide +kernel, ka := by decide +kernel, kp := by decide +kernel, ki := rfl, co := rfl, ge := rfl, ce := by decide +kernel, pr := by decide +kernel, bi := fun _ _ _ _ _ _ _ _ _ => rfl }⟩
theorem head_run (w : World) : HandSHeadRun.RunEq RW qv hk ob 20000 loose w := by
  intro os
  kernel_rfl
theorem facts {w : World} {K : PySem.W.Frag} {h : Heap} {mg : Str → Option Value} {f : Addr} (X : K.In h) (G : h.Ns mainGlobals mg) (hfa : mg ("law" : Str) = some (.ref f)) (c : SaysX fileS fa fn ex cs K) :
    ∃ fd : FuncData, (∀ (s : Shared) (v : Value), BindsTo s fd ⟨[v], []⟩ [("_law_script", v)]) ∧ ∀ base : Heap, K.In base → base.Ns mainGlobals mg → FnOk PR w K mg base (L2.CX PR w) 10 f fd P_law (sp_law K) := by
  have B : Bt mg := ⟨free_ok X G (c.fact (f := .free "len") 33), free_ok X G (c.fact (f := .free "isinstance") 34), free_ok X G (c.fact (f := .free "int") 35), free_ok X G (c.fact (f := .free "str") 36), free_ok X G (c.fact (f := .free "bool") 37), free_ok X G (c.fact (f := .free "list") 38), free_ok X G (c.fact (f := .free "tuple") 39), free_ok X G (c.fact (f := .free "all") 40), free_ok X G (c.fact (f := .free "any") 41), free_ok X G (c.fact (f := .free "min") 42), free_ok X G (c.fact (f := .free "max") 43), free_ok X G (c.fact (f := .free "abs") 44), free_ok X G (c.fact (f := .free "sum") 45), free_ok X G (c.fact (f := .free "set") 46), free_ok X G (c.fact (f := .free "sorted") 47), free_ok X G (c.fact (f := .free "enumerate") 48), free_ok X G (c.fact (f := .free "range") 49), free_ok X G (c.fact (f := .free "dict") 50), free_ok X G (c.fact (f := .free "zip") 51)⟩
  have sg : mg "super" = none := free_ok X G (c.fact (f := .free "super") 52)
  have gs : Gs mg := ⟨str_ok X G (c.fact (f := .str "LETTERS" LET) 53), str_ok X G (c.fact (f := .str "DIGITS" DIG) 54), int_ok X G (c.fact (f := .int "LONGEST_NAME" 12) 55)⟩
  obtain ⟨fd_is_whole, D_is_whole⟩ := c.def_ (d := d_is_whole) 0
  have F_is_whole : FnF K mg "is_whole" s_is_whole [] := ⟨⟨_, _, glo_ok X G (c.fact (f := .glo "is_whole") 0), D_is_whole⟩⟩
  obtain ⟨fd_is_name, D_is_name⟩ := c.def_ (d := d_is_name) 1
  have F_is_name : FnF K mg "is_name" s_is_name [] := ⟨⟨_, _, glo_ok X G (c.fact (f := .glo "is_name") 1), D_is_name⟩⟩
  obtain ⟨fd_reduced, D_reduced⟩ := c.def_ (d := d_reduced) 2
  have F_reduced : FnF K mg "reduced" s_reduced [] := ⟨⟨_, _, glo_ok X G (c.fact (f := .glo "reduced") 2), D_reduced⟩⟩
  obtain ⟨fd_normal_steps, D_normal_steps⟩ := c.def_ (d := d_normal_steps) 3
  have F_normal_steps : FnF K mg "normal_steps" s_normal_steps [] := ⟨⟨_, _, glo_ok X G (c.fact (f := .glo "normal_steps") 3), D_normal_steps⟩⟩
  obtain ⟨fd_step_key, D_step_key⟩ := c.def_ (d := d_step_key) 4
  have F_step_key : FnF K mg "step_key" s_step_key [] := ⟨⟨_, _, glo_ok X G (c.fact (f := .glo "step_key") 4), D_step_key⟩⟩
  obtain ⟨fd_is_part, D_is_part⟩ := c.def_ (d := d_is_part) 5
  have F_is_part : FnF K mg "is_part" s_is_part [] := ⟨⟨_, _, glo_ok X G (c.fact (f := .glo "is_part") 5), D_is_part⟩⟩
  obtain ⟨fd_is_covered, D_is_covered⟩ := c.def_ (d := d_is_covered) 6
  have F_is_covered : FnF K mg "is_covered" s_is_covered [] := ⟨⟨_, _, glo_ok X G (c.fact (f := .glo "is_covered") 6), D_is_covered⟩⟩
  obtain ⟨fd_tidy_classes, D_tidy_classes⟩ := c.def_ (d := d_tidy_classes) 7
  have F_tidy_classes : FnF K mg "tidy_classes" s_tidy_classes [] := ⟨⟨_, _, glo_ok X G (c.fact (f := .glo "tidy_classes") 7), D_tidy_classes⟩⟩
  obtain ⟨fd_is_arrow, D_is_arrow⟩ := c.def_ (d := d_is_arrow) 8
  have F_is_arrow : FnF K mg "is_arrow" s_is_arrow [] := ⟨⟨_, _, glo_ok X G (c.fact (f := .glo "is_arrow") 8), D_is_arrow⟩⟩
  obtain ⟨fd_w_bag, D_w_bag⟩ := c.def_ (d := d_w_bag) 9
  have F_w_bag : FnF K mg "_law_bag" s_w_bag [] := ⟨⟨_, _, glo_ok X G (c.fact (f := .glo "_law_bag") 9), D_w_bag⟩⟩
  obtain ⟨fd_w_draw, D_w_draw⟩ := c.def_ (d := d_w_draw) 10
  have F_w_draw : FnF K mg "_law_draw" s_w_draw [] := ⟨⟨_, _, glo_ok X G (c.fact (f := .glo "_law_draw") 10), D_w_draw⟩⟩
  obtain ⟨fd_w_ident, D_w_ident⟩ := c.def_ (d := d_w_ident) 11
  have F_w_ident : FnF K mg "_law_ident" s_w_ident [] := ⟨⟨_, _, glo_ok X G (c.fact (f := .glo "_law_ident") 11), D_w_ident⟩⟩
  obtain ⟨fd_w_kinds, D_w_kinds⟩ := c.def_ (d := d_w_kinds) 12
  have F_w_kinds : FnF K mg "_law_kinds" s_w_kinds [] := ⟨⟨_, _, glo_ok X G (c.fact (f := .glo "_law_kinds") 12), D_w_kinds⟩⟩
  obtain ⟨fd_w_normal, D_w_normal⟩ := c.def_ (d := d_w_normal) 13
  have F_w_normal : FnF K mg "_law_normal" s_w_normal [] := ⟨⟨_, _, glo_ok X G (c.fact (f := .glo "_law_normal") 13), D_w_normal⟩⟩
  obtain ⟨fd_w_plan, D_w_plan⟩ := c.def_ (d := d_w_plan) 14
  have F_w_plan : FnF K mg "_law_plan" s_w_plan [] := ⟨⟨_, _, glo_ok X G (c.fact (f := .glo "_law_plan") 14), D_w_plan⟩⟩
  obtain ⟨fd_w_members, D_w_members⟩ := c.def_ (d := d_w_members) 15
  have F_w_members : FnF K mg "_law_members" s_w_members [] := ⟨⟨_, _, glo_ok X G (c.fact (f := .glo "_law_members") 15), D_w_members⟩⟩
  obtain ⟨fd_w_is_member, D_w_is_member⟩ := c.def_ (d := d_w_is_member) 16
  have F_w_is_member : FnF K mg "_law_is_member" s_w_is_member [] := ⟨⟨_, _, glo_ok X G (c.fact (f := .glo "_law_is_member") 16), D_w_is_member⟩⟩
  obtain ⟨fd_w_run, D_w_run⟩ := c.def_ (d := d_w_run) 17
  have F_w_run : FnF K mg "_law_run" s_w_run [] := ⟨⟨_, _, glo_ok X G (c.fact (f := .glo "_law_run") 17), D_w_run⟩⟩
  obtain ⟨fd_w_fault, D_w_fault⟩ := c.def_ (d := d_w_fault) 18
  have F_w_fault : FnF K mg "_law_fault" s_w_fault [] := ⟨⟨_, _, glo_ok X G (c.fact (f := .glo "_law_fault") 18), D_w_fault⟩⟩
  obtain ⟨fd_w_told, D_w_told⟩ := c.def_ (d := d_w_told) 19
  have F_w_told : FnF K mg "_law_told" s_w_told [] := ⟨⟨_, _, glo_ok X G (c.fact (f := .glo "_law_told") 19), D_w_told⟩⟩
  obtain ⟨fd_w_tried, D_w_tried⟩ := c.def_ (d := d_w_tried) 20
  have F_w_tried : FnF K mg "_law_tried" s_w_tried [] := ⟨⟨_, _, glo_ok X G (c.fact (f := .glo "_law_tried") 20), D_w_tried⟩⟩
  obtain ⟨fd_w_refusals, D_w_refusals⟩ := c.def_ (d := d_w_refusals) 21
  have F_w_refusals : FnF K mg "_law_refusals" s_w_refusals [] := ⟨⟨_, _, glo_ok X G (c.fact (f := .glo "_law_refusals") 21), D_w_refusals⟩⟩
  obtain ⟨fd_w_run_right, D_w_run_right⟩ := c.def_ (d := d_w_run_right) 22
  have F_w_run_right : FnF K mg "_law_run_right" s_w_run_right [] := ⟨⟨_, _, glo_ok X G (c.fact (f := .glo "_law_run_right") 22), D_w_run_right⟩⟩
  obtain ⟨fd_law, D_law⟩ := c.def_ (d := d_law) 23
  have C_Turns : KlF K mg "Turns" (ga K "Turns") ["pairs", "names", "periods", "ranks"] := ⟨cls_ok (c.fact (f := .cls "Turns") 56), glo_ok X G (c.fact (f := .glo "Turns") 24), fun q hq => by
    simp only [List.mem_cons, List.not_mem_nil, or_false] at hq
    rcases hq with rfl | rfl | rfl | rfl
    · exact noat_ok (c.fact (f := .noat "Turns" "pairs") 57)
    · exact noat_ok (c.fact (f := .noat "Turns" "names") 58)
    · exact noat_ok (c.fact (f := .noat "Turns" "periods") 59)
    · exact noat_ok (c.fact (f := .noat "Turns" "ranks") 60)
    ⟩
  have C_Row : KlF K mg "Row" (ga K "Row") ["turns", "steps", "key"] := ⟨cls_ok (c.fact (f := .cls "Row") 62), glo_ok X G (c.fact (f := .glo "Row") 25), fun q hq => by
    simp only [List.mem_cons, List.not_mem_nil, or_false] at hq
    rcases hq with rfl | rfl | rfl
    · exact noat_ok (c.fact (f := .noat "Row" "turns") 63)
    · exact noat_ok (c.fact (f := .noat "Row" "steps") 64)
    · exact noat_ok (c.fact (f := .noat "Row" "key") 65)
    ⟩
  have C_Numbers : KlF K mg "Numbers" (ga K "Numbers") ["classes", "singles"] := ⟨cls_ok (c.fact (f := .cls "Numbers") 67), glo_ok X G (c.fact (f := .glo "Numbers") 26), fun q hq => by
    simp only [List.mem_cons, List.not_mem_nil, or_false] at hq
    rcases hq with rfl | rfl
    · exact noat_ok (c.fact (f := .noat "Numbers" "classes") 68)
    · exact noat_ok (c.fact (f := .noat "Numbers" "singles") 69)
    ⟩
  have C_Plan : KlF K mg "Plan" (ga K "Plan") ["turns", "stations", "arrows", "begin", "end"] := ⟨cls_ok (c.fact (f := .cls "Plan") 71), glo_ok X G (c.fact (f := .glo "Plan") 27), fun q hq => by
    simp only [List.mem_cons, List.not_mem_nil, or_false] at hq
    rcases hq with rfl | rfl | rfl | rfl | rfl
    · exact noat_ok (c.fact (f := .noat "Plan" "turns") 72)
    · exact noat_ok (c.fact (f := .noat "Plan" "stations") 73)
    · exact noat_ok (c.fact (f := .noat "Plan" "arrows") 74)
    · exact noat_ok (c.fact (f := .noat "Plan" "begin") 75)
    · exact noat_ok (c.fact (f := .noat "Plan" "end") 76)
    ⟩
  obtain ⟨fd_Turns_contains, D_Turns_contains⟩ := c.def_ (d := d_Turns_contains) 24
  have F_Turns_contains : MtF K (ga K "Turns") "__contains__" "Turns.__contains__" s_Turns_contains [] := ⟨⟨_, _, meth_ok (c.fact (f := .meth "Turns" "__contains__") 78), D_Turns_contains⟩⟩
  obtain ⟨fd_Turns_period_of, D_Turns_period_of⟩ := c.def_ (d := d_Turns_period_of) 25
  have F_Turns_period_of : MtF K (ga K "Turns") "period_of" "Turns.period_of" s_Turns_period_of [] := ⟨⟨_, _, meth_ok (c.fact (f := .meth "Turns" "period_of") 79), D_Turns_period_of⟩⟩
  obtain ⟨fd_Turns_rank, D_Turns_rank⟩ := c.def_ (d := d_Turns_rank) 26
  have F_Turns_rank : MtF K (ga K "Turns") "rank" "Turns.rank" s_Turns_rank [] := ⟨⟨_, _, meth_ok (c.fact (f := .meth "Turns" "rank") 80), D_Turns_rank⟩⟩
  obtain ⟨fd_Turns_eq, D_Turns_eq⟩ := c.def_ (d := d_Turns_eq) 27
  have F_Turns_eq : MtF K (ga K "Turns") "__eq__" "Turns.__eq__" s_Turns_eq [] := ⟨⟨_, _, meth_ok (c.fact (f := .meth "Turns" "__eq__") 81), D_Turns_eq⟩⟩
  obtain ⟨fd_Numbers_contains, D_Numbers_contains⟩ := c.def_ (d := d_Numbers_contains) 28
  have F_Numbers_contains : MtF K (ga K "Numbers") "__contains__" "Numbers.__contains__" s_Numbers_contains [] := ⟨⟨_, _, meth_ok (c.fact (f := .meth "Numbers" "__contains__") 82), D_Numbers_contains⟩⟩
  obtain ⟨fd_Plan_takes, D_Plan_takes⟩ := c.def_ (d := d_Plan_takes) 29
  have F_Plan_takes : MtF K (ga K "Plan") "takes" "Plan.takes" s_Plan_takes [] := ⟨⟨_, _, meth_ok (c.fact (f := .meth "Plan" "takes") 83), D_Plan_takes⟩⟩
  obtain ⟨fd_Plan_is_run, D_Plan_is_run⟩ := c.def_ (d := d_Plan_is_run) 30
  have F_Plan_is_run : MtF K (ga K "Plan") "is_run" "Plan.is_run" s_Plan_is_run [] := ⟨⟨_, _, meth_ok (c.fact (f := .meth "Plan" "is_run") 84), D_Plan_is_run⟩⟩
  obtain ⟨fd_Plan_fault, D_Plan_fault⟩ := c.def_ (d := d_Plan_fault) 31
  have F_Plan_fault : MtF K (ga K "Plan") "fault" "Plan.fault" s_Plan_fault [] := ⟨⟨_, _, meth_ok (c.fact (f := .meth "Plan" "fault") 85), D_Plan_fault⟩⟩
  obtain ⟨fd_Plan_row_of, D_Plan_row_of⟩ := c.def_ (d := d_Plan_row_of) 32
  have F_Plan_row_of : MtF K (ga K "Plan") "row_of" "Plan.row_of" s_Plan_row_of [] := ⟨⟨_, _, meth_ok (c.fact (f := .meth "Plan" "row_of") 86), D_Plan_row_of⟩⟩
  obtain ⟨fd_Turns_init, D_Turns_init⟩ := c.def_ (d := d_Turns_init) 33
  have F_Turns_init : MkF K mg "Turns" (ga K "Turns") "Turns.__init__" s_Turns_init [] := ⟨C_Turns.mg, ⟨_, _, mkr_ok (c.fact (f := .mkr "Turns") 61), D_Turns_init⟩⟩
  obtain ⟨fd_Row_init, D_Row_init⟩ := c.def_ (d := d_Row_init) 34
  have F_Row_init : MkF K mg "Row" (ga K "Row") "Row.__init__" s_Row_init [.ref (dflAt ("Row", some "__init__") 0 K)] := ⟨C_Row.mg, ⟨_, _, mkr_ok (c.fact (f := .mkr "Row") 66), D_Row_init⟩⟩
  obtain ⟨fd_Numbers_init, D_Numbers_init⟩ := c.def_ (d := d_Numbers_init) 35
  have F_Numbers_init : MkF K mg "Numbers" (ga K "Numbers") "Numbers.__init__" s_Numbers_init [.ref (dflAt ("Numbers", some "__init__") 0 K)] := ⟨C_Numbers.mg, ⟨_, _, mkr_ok (c.fact (f := .mkr "Numbers") 70), D_Numbers_init⟩⟩
  obtain ⟨fd_Plan_init, D_Plan_init⟩ := c.def_ (d := d_Plan_init) 36
  have F_Plan_init : MkF K mg "Plan" (ga K "Plan") "Plan.__init__" s_Plan_init [] := ⟨C_Plan.mg, ⟨_, _, mkr_ok (c.fact (f := .mkr "Plan") 77), D_Plan_init⟩⟩
  have IT : InsF K (ga K "Turns") := insB_ok (c.test 0)
  have IN : InsF K (ga K "Numbers") := insB_ok (c.test 1)
  have T_MOST : CcF K (ga K "Turns") "MOST" (.int 8) := ccB_ok (c.test 2)
  have F_every : StF K (ga K "Numbers") "every" "Numbers.every" s_Numbers_every := stB_ok (c.test (f := stB "Numbers" "every") 3) (c.def_ (d := d_Numbers_every) 37)
  have i_BadName : XIs K mg (ga K "BadName") (ga K "TurnError") := exkB_ok (c.test (f := exkB "BadName" "TurnError") 4)
  have xt_BadName := c.exc (d := x_BadName) 0
  have X_BadName : XTxt PR K mg "BadName" "BadName.__init__" "name" s_BadName_init (ga K "BadName") := XD.txt xt_BadName.1 xt_BadName.2 (glo_ok X G (c.fact (f := .glo "BadName") 28)) sg (by decide +kernel) xb_BadName
  have i_TwiceNamed : XIs K mg (ga K "TwiceNamed") (ga K "TurnError") := exkB_ok (c.test (f := exkB "TwiceNamed" "TurnError") 5)
  have xt_TwiceNamed := c.exc (d := x_TwiceNamed) 1
  have X_TwiceNamed : XTxt PR K mg "TwiceNamed" "TwiceNamed.__init__" "name" s_TwiceNamed_init (ga K "TwiceNamed") := XD.txt xt_TwiceNamed.1 xt_TwiceNamed.2 (glo_ok X G (c.fact (f := .glo "TwiceNamed") 29)) sg (by decide +kernel) xb_TwiceNamed
  have i_BadArrow : XIs K mg (ga K "BadArrow") (ga K "TurnError") := exkB_ok (c.test (f := exkB "BadArrow" "TurnError") 6)
  have xt_BadArrow := c.exc (d := x_BadArrow) 2
  have X_BadArrow : XTxt PR K mg "BadArrow" "BadArrow.__init__" "index" s_BadArrow_init (ga K "BadArrow") := XD.txt xt_BadArrow.1 xt_BadArrow.2 (glo_ok X G (c.fact (f := .glo "BadArrow") 30)) sg (by decide +kernel) xb_BadArrow
  have i_NoStation : XIs K mg (ga K "NoStation") (ga K "TurnError") := exkB_ok (c.test (f := exkB "NoStation" "TurnError") 7)
  have xt_NoStation := c.exc (d := x_NoStation) 3
  have X_NoStation : XTxt PR K mg "NoStation" "NoStation.__init__" "name" s_NoStation_init (ga K "NoStation") := XD.txt xt_NoStation.1 xt_NoStation.2 (glo_ok X G (c.fact (f := .glo "NoStation") 31)) sg (by decide +kernel) xb_NoStation
  have kl : PySem.W.kitOne K (.type "list") (.ref (ga K "Numbers")) = some false := of_decide_eq_true (c.test (f := fun K => decide (PySem.W.kitOne K (.type "list") (.ref (ga K "Numbers")) = some false)) 8)
  have hnT : PySem.W.findIn K (.ref (ga K "Turns")) "__ne__" = some (some (.builtin "object.__ne__")) := eqO_ok (c.test (f := fun K => eqO (PySem.W.findIn K (.ref (ga K "Turns")) "__ne__") (some (some (.builtin "object.__ne__")))) 9)
  have hmT : PySem.W.mroIn K (ga K "Turns") (.type "object") = some true := of_decide_eq_true (c.test (f := fun K => decide (PySem.W.mroIn K (ga K "Turns") (.type "object") = some true)) 10)
  have ET : ExT K (ga K "BadName") (ga K "TwiceNamed") (ga K "BadArrow") (ga K "NoStation") := ⟨exm_ok (c.fact (f := .exm "BadName" "BadName" true) 87), exm_ok (c.fact (f := .exm "TwiceNamed" "BadName" false) 88), exm_ok (c.fact (f := .exm "TwiceNamed" "TwiceNamed" true) 89), exm_ok (c.fact (f := .exm "BadArrow" "BadName" false) 90), exm_ok (c.fact (f := .exm "BadArrow" "TwiceNamed" false) 91), exm_ok (c.fact (f := .exm "BadArrow" "BadArrow" true) 92), exm_ok (c.fact (f := .exm "NoStation" "BadName" false) 93), exm_ok (c.fact (f := .exm "NoStation" "TwiceNamed" false) 94), exm_ok (c.fact (f := .exm "NoStation" "BadArrow" false) 95), exm_ok (c.fact (f := .exm "NoStation" "NoStation" true) 96)⟩
  have gT := C_Turns.mg
  have gR := C_Row.mg
  have gN := C_Numbers.mg
  have gP := C_Plan.mg
  have gE : mg "TurnError" = some (.ref (ga K "TurnError")) := glo_ok X G (c.fact (f := .glo "TurnError") 32)
  obtain rfl : f = ga K "law" := by
    have e := hfa.symm.trans (glo_ok X G (c.fact (f := .glo "law") 23))
    cases e
    rfl
  have b := FunD.bindsA (ps := P_law) D_law fun _ _ _ _ _ _ us hl => match us, hl with | [_], _ => rfl
  refine ⟨fd_law, fun s v => b s [v] rfl, fun base _ _ => ?_⟩
  have c_is_whole := ok_is_whole (P := PR) (w := w) (base := base) B F_is_whole
  have c_is_name := ok_is_name (P := PR) (w := w) (base := base) B gs F_is_name
  have m_in := ok_Turns_in (P := PR) (w := w) (base := base) B C_Turns F_Turns_contains
  have m_period := ok_Turns_period (P := PR) (w := w) (base := base) B C_Turns m_in F_Turns_period_of
  have m_rank := ok_Turns_rank (P := PR) (w := w) (base := base) B C_Turns m_in F_Turns_rank
  have k_Turns := ok_Turns_init (P := PR) (w := w) (base := base) B C_Turns T_MOST c_is_name c_is_whole F_Turns_init
  have c_reduced := ok_reduced (P := PR) (w := w) (base := base) m_period F_reduced
  have c_normal_steps := ok_normal_steps (P := PR) (w := w) (base := base) c_reduced F_normal_steps
  have c_step_key := ok_step_key (P := PR) (w := w) (base := base) B m_period m_rank F_step_key
  have k_Row := ok_Row_init (P := PR) (w := w) (base := base) B C_Turns C_Row m_in c_normal_steps c_step_key F_Row_init
  have c_is_part := ok_is_part (P := PR) (w := w) (base := base) B c_is_whole F_is_part
  have c_is_covered := ok_is_covered (P := PR) (w := w) (base := base) B F_is_covered
  have c_tidy := ok_tidy (P := PR) (w := w) (base := base) B F_tidy_classes
  have k_Numbers := ok_Numbers_init (P := PR) (w := w) (base := base) B C_Numbers c_is_part c_is_covered c_tidy F_Numbers_init
  have m_Num_in := ok_Num_in (P := PR) (w := w) (base := base) B C_Numbers c_is_whole c_is_covered F_Numbers_contains
  have s_every := ok_every (P := PR) (w := w) (base := base) C_Numbers k_Numbers F_every
  have c_is_arrow := ok_is_arrow (P := PR) (w := w) (base := base) B gN IN m_in F_is_arrow
  have k_Plan := ok_Plan_init (P := PR) (w := w) (base := base) B C_Plan c_is_name c_is_arrow X_BadName X_TwiceNamed X_BadArrow X_NoStation F_Plan_init
  have m_takes := ok_takes (P := PR) (w := w) (base := base) (CT := ga K "Turns") B C_Plan m_Num_in F_Plan_takes
  have m_fault := ok_fault (P := PR) (w := w) (base := base) B C_Plan m_takes F_Plan_fault
  have m_is_run := ok_is_run (P := PR) (w := w) (base := base) B C_Plan m_fault F_Plan_is_run
  have m_row_of := ok_row_of (P := PR) (w := w) (base := base) B C_Plan m_fault k_Row X_BadArrow F_Plan_row_of
  have c_bag := ok_bag (P := PR) (w := w) (base := base) B F_w_bag
  have c_draw := ok_draw (P := PR) (w := w) (base := base) B F_w_draw
  have c_ident := ok_ident (P := PR) (w := w) (base := base) B c_draw F_w_ident
  have c_kinds := ok_kinds (P := PR) (w := w) (base := base) B c_draw c_ident F_w_kinds
  have c_normal := ok_wnormal (P := PR) (w := w) (base := base) B F_w_normal
  have c_plan := ok_wplan (P := PR) (w := w) (base := base) B c_draw c_ident F_w_plan
  have c_members := ok_members (P := PR) (w := w) (base := base) B F_w_members
  have c_is_member := ok_is_member (P := PR) (w := w) (base := base) B F_w_is_member
  have c_run := ok_wrun (P := PR) (w := w) (base := base) B c_draw c_members F_w_run
  have c_fault := ok_wfault (P := PR) (w := w) (base := base) B c_is_member F_w_fault
  have c_told := ok_told (P := PR) (w := w) (base := base) B C_Row m_row_of X_BadArrow ET.aa F_w_told
  have c_tried := ok_tried (P := PR) (w := w) (base := base) B k_Plan X_BadName X_TwiceNamed X_BadArrow X_NoStation ET gE i_BadName i_TwiceNamed i_BadArrow i_NoStation F_w_tried
  have c_refusals := ok_refusals (P := PR) (w := w) (base := base) B C_Turns gN kl c_draw c_tried s_every F_w_refusals
  have c_run_right := ok_run_right (P := PR) (w := w) (base := base) B C_Plan c_fault c_normal c_told m_is_run F_w_run_right
  have m_Turns_eq := ok_Turns_eq (P := PR) (w := w) (base := base) B C_Turns gT IT F_Turns_eq
  exact ok_law B C_Turns C_Plan gT gP gN c_bag c_draw c_kinds c_plan c_run c_run_right c_refusals k_Turns k_Plan k_Numbers m_Turns_eq m_is_run hmT hnT D_law
end TR

/-! part E81 -/
set_option maxHeartbeats 0
open PySem PySem.W PySem.Calls PyProof.Rows
theorem PySem.Challenge.cw_turnrings_k81_plans_made_and_their_runs_holds : PySem.Challenge.rw_turnrings_k81_plans_made_and_their_runs.Holds := by
  w_on; o_law
  refine HandSHeadRun.head_any (r := OpenLaw.row PySem.Challenge.rw_turnrings_k81_plans_made_and_their_runs) (q := TR.qv) (H := TR.hk) (ob := TR.ob) (M := 20000) (loose := TR.loose) (d := HandSHeadRun.topDef (OpenLaw.row PySem.Challenge.rw_turnrings_k81_plans_made_and_their_runs).prog 59) (kwd := []) TR.ob_eq
    (by kernel_rfl) (fun s => by kernel_rfl) TR.head_run (by kernel_rfl) (by kernel_rfl) (by kernel_rfl) (by rfl) (by first | assumption | decide +kernel) (by decide +kernel) ⟨rfl, rfl, rfl, rfl, rfl, by decide +kernel⟩ ?hw ?hc
  case hw => w_witness2
  case hc =>
    refine LamX.walk_ofTsE (l := PySem.Challenge.rw_turnrings_k81_plans_made_and_their_runs) (n := 63) (k := 10) (CX := fun w => L2.CX TR.PR w) (x := "_law_script") rfl (by decide) (by kernel_rfl) ⟨rfl, by decide, by decide⟩ ?F (fun w H s e s' z => by
      obtain ⟨_, _, _, _, _, _, _, _, _, _, _, _, z⟩ := z
      exact z)
    intro w mg fa h Y G hmg0
    obtain ⟨K, KX, c⟩ := Y
    have hmg : mg ("law" : PySem.Str) = some (.ref fa) := by
      have e : (HandSHeadRun.topDef (OpenLaw.row PySem.Challenge.rw_turnrings_k81_plans_made_and_their_runs).prog 59).name = ("law" : PySem.Str) := by kernel_rfl
      rw [← e]
      exact hmg0
    obtain ⟨fd, hb, hF⟩ := TR.facts (w := w) KX G hmg c
    refine ⟨K, KX, fd, [], TR.sp_law K, ?_, ?_, ?_, hb, ?_, ?_⟩
    · intro p hp
      cases hp
    · intro p hp
      cases hp
    · intro p hp
      cases hp
    · intro H a ns hl _ _ hS
      exact ⟨a, ns, rfl, hS, fun H' s => L2.Same.seq s hS, by omega, fun _ _ => rfl⟩
    · intro base KB GB _
      exact hF base KB GB

