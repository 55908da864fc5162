import PyProof.Rows.All
import Wide.All
import OpenK.AllK
import Wide.FinOn
import HandS.ForExc
import HandS.ForMost
import HandS.Wide
import HandS.Flow
import HandS.NoneIn
import HandS.IsInst
import HandS.Conv
import HandS.Strs
import HandS.TupSets
import HandS.Defaults
import HandS.Walk
import HandS.ClsMeth
import HandS.ExcInit
import KE.KExcSuper
import KE.KStateDown
import HandS.HeadHook1
import HandS.HeadHook2
import HandS.Property
import HandS.Head2
import HandS.Head0
import HandS.Head1
import KE.GoesMore
import PyProof.EnumMake
import HandS.SetFor
import HandS.TupAny
import HandS.Star
import KE.KMinKey
import PyProof.WalkInts
import HandS.SortKw
import KE.Datum
import PyProof.InstNe
import HandS.OwnEq
import HandS.DictComp
import HandS.Style
import HandS.HeadWalk
import HandS.HeadEnd
import PySem.Challenge.RW_turnrings_k84_plans_beyond_the_map
set_option Elab.async false
set_option linter.all false
set_option maxRecDepth 100000
set_option maxHeartbeats 4000000
/-! part Gk -/
/-! The ground of these proofs: what stands still (F) below what is (H), typed readings of values, calls by name. -/
namespace G
open PySem PySem.Spec PyProof.Rows L2

/-! ### heaps that grow -/
theorem Same.new {H : Hp} {p : Addr} {o : HO} (h : H p = none) : Same H (upd H p o) := fun a u e => by
  rw [upd_ne (ne_of_none e h)]
  exact e
theorem Same.at {H H' : Hp} (s : Same H H') {a : Addr} {o : HO} (h : H a = some o) : H' a = some o := s a o h
theorem look_new {H : Hp} {a p : Addr} {o u : HO} (h : H a = some u) (n : H p = none) : upd H p o a = some u := by
  rw [upd_ne (ne_of_none h n)]
  exact h
theorem look_mut {H : Hp} {a p : Addr} {o u : HO} (h : H a = some u) (n : a ≠ p) : upd H p o a = some u := by
  rw [upd_ne n]
  exact h
/-- a part that stands still grows with the heap: what is new in it was free -/
structure Grow (F H F' H' : Hp) : Prop where
  ff : Same F F'
  sub : Same F' H'
  fresh : ∀ b o, F' b = some o → F b = some o ∨ H b = none
theorem Grow.refl {F H : Hp} (s : Same F H) : Grow F H F H := ⟨Same.refl F, s, fun _ _ h => .inl h⟩
theorem Grow.trans {F H F1 H1 F2 H2 : Hp} (a : Grow F H F1 H1) (k : Same H H1) (b : Grow F1 H1 F2 H2) : Grow F H F2 H2 :=
  ⟨a.ff.trans b.ff, b.sub, fun p o e => by
    rcases b.fresh p o e with h | h
    · exact a.fresh p o h
    · exact .inr (k.free h)⟩
theorem Grow.add {F H : Hp} {p : Addr} {o : HO} (s : Same F H) (h : H p = none) : Grow F H (upd F p o) (upd H p o) := by
  refine ⟨Same.new (s.free h), fun b u e => ?_, fun b u e => ?_⟩
  · by_cases q : b = p
    · subst q; rw [upd_same] at e ⊢; exact e
    · rw [upd_ne q] at e ⊢; exact s b u e
  · by_cases q : b = p
    · subst q; exact .inr h
    · rw [upd_ne q] at e; exact .inl e
theorem Grow.tmp {F H H' : Hp} (s : Same F H) (k : Same H H') : Grow F H F H' := ⟨Same.refl F, s.trans k, fun _ _ h => .inl h⟩
/-- what was free and is there now may stand still from here on -/
theorem Grow.fix {F H F1 H1 : Hp} {p : Addr} {o : HO} (g : Grow F H F1 H1) (n : H p = none) (m : F1 p = none) (e : H1 p = some o) : Grow F H (upd F1 p o) H1 := by
  refine ⟨g.ff.trans (Same.new m), fun b u q => ?_, fun b u q => ?_⟩
  · by_cases z : b = p
    · subst z; rw [upd_same] at q; rw [e]; exact q
    · rw [upd_ne z] at q; exact g.sub b u q
  · by_cases z : b = p
    · subst z; exact .inr n
    · rw [upd_ne z] at q; exact g.fresh b u q
theorem Grow.none {F H F1 H1 : Hp} {p : Addr} (g : Grow F H F1 H1) (m : F p = none) (n : H p ≠ none) : F1 p = none := by
  cases q : F1 p with
  | none => rfl
  | some o =>
    rcases g.fresh p o q with h | h
    · rw [m] at h; cases h
    · exact absurd h n

/-! ### typed readings -/
structure Rp (α : Type) where
  rel : α → V → Hp → Prop
  mono : ∀ {d : α} {v : V} {F F' : Hp}, Same F F' → rel d v F → rel d v F'
def Rp.int : Rp Int := ⟨fun i v _ => v = .int i, fun _ h => h⟩
def Rp.str : Rp Str := ⟨fun i v _ => v = .str i, fun _ h => h⟩
def Rp.bl : Rp Bool := ⟨fun i v _ => v = .bl i, fun _ h => h⟩
def Rp.val : Rp V := ⟨fun i v _ => v = i, fun _ h => h⟩
theorem pd_mono {α β : Type} {r r' : α → β → Prop} (f : ∀ a b, r a b → r' a b) : ∀ {xs : List α} {ys : List β}, Paired r xs ys → Paired r' xs ys
  | _, _, .nil => .nil
  | _, _, .cons h t => .cons (f _ _ h) (pd_mono f t)
theorem pd_len {α β : Type} {r : α → β → Prop} : ∀ {xs : List α} {ys : List β}, Paired r xs ys → ys.length = xs.length
  | _, _, .nil => rfl
  | _, _, .cons _ t => congrArg Nat.succ (pd_len t)
theorem pd_get {α β : Type} {r : α → β → Prop} : ∀ {xs : List α} {ys : List β} {i : Nat} {y : β}, Paired r xs ys → ys[i]? = some y → ∃ x, xs[i]? = some x ∧ r x y
  | _, _, i, y, .nil, h => by simp at h
  | _, _, 0, y, .cons h t, e => by simp at e; subst e; exact ⟨_, rfl, h⟩
  | _, _, i + 1, y, .cons h t, e => by
    obtain ⟨x, h1, h2⟩ := pd_get (i := i) t (by simpa using e)
    exact ⟨x, by simpa using h1, h2⟩
theorem pd_get' {α β : Type} {r : α → β → Prop} : ∀ {xs : List α} {ys : List β} {i : Nat} {x : α}, Paired r xs ys → xs[i]? = some x → ∃ y, ys[i]? = some y ∧ r x y
  | _, _, i, y, .nil, h => by simp at h
  | _, _, 0, y, .cons h t, e => by simp at e; subst e; exact ⟨_, rfl, h⟩
  | _, _, i + 1, y, .cons h t, e => by
    obtain ⟨x, h1, h2⟩ := pd_get' (i := i) t (by simpa using e)
    exact ⟨x, by simpa using h1, h2⟩
theorem pd_snoc {α β : Type} {r : α → β → Prop} : ∀ {xs : List α} {ys : List β} {x : α} {y : β}, Paired r xs ys → r x y → Paired r (xs ++ [x]) (ys ++ [y])
  | _, _, _, _, .nil, h => .cons h .nil
  | _, _, _, _, .cons h t, h' => .cons h (pd_snoc t h')
theorem pd_app {α β : Type} {r : α → β → Prop} : ∀ {xs xs' : List α} {ys ys' : List β}, Paired r xs ys → Paired r xs' ys' → Paired r (xs ++ xs') (ys ++ ys')
  | _, _, _, _, .nil, h => h
  | _, _, _, _, .cons h t, h' => .cons h (pd_app t h')
theorem pd_map {α β γ : Type} {r : α → β → Prop} {f : γ → α} : ∀ {xs : List γ} {ys : List β}, Paired (fun a b => r (f a) b) xs ys → Paired r (xs.map f) ys
  | _, _, .nil => .nil
  | _, _, .cons h t => .cons h (pd_map t)
theorem pd_eq {β : Type} {f : α → β} : ∀ {xs : List α} {ys : List β}, Paired (fun a b => b = f a) xs ys → ys = xs.map f
  | _, _, .nil => rfl
  | _, _, .cons h t => by rw [h, pd_eq t]; rfl
theorem pd_of_map {α β : Type} {f : α → β} : ∀ (xs : List α), Paired (fun a b => b = f a) xs (xs.map f)
  | [] => .nil
  | x :: xs => .cons rfl (pd_of_map xs)
def Rp.pair {α β : Type} (A : Rp α) (B : Rp β) : Rp (α × β) := ⟨fun d v F => ∃ a x y, v = .ref a ∧ F a = some (.tup [x, y]) ∧ A.rel d.1 x F ∧ B.rel d.2 y F,
  fun s ⟨a, x, y, e, h, p, q⟩ => ⟨a, x, y, e, s _ _ h, A.mono s p, B.mono s q⟩⟩
def Rp.lst {α : Type} (A : Rp α) : Rp (List α) := ⟨fun d v F => ∃ a xs, v = .ref a ∧ F a = some (.lst xs) ∧ Paired (fun d x => A.rel d x F) d xs,
  fun s ⟨a, xs, e, h, p⟩ => ⟨a, xs, e, s _ _ h, pd_mono (fun _ _ => A.mono s) p⟩⟩
def Rp.tup {α : Type} (A : Rp α) : Rp (List α) := ⟨fun d v F => ∃ a xs, v = .ref a ∧ F a = some (.tup xs) ∧ Paired (fun d x => A.rel d x F) d xs,
  fun s ⟨a, xs, e, h, p⟩ => ⟨a, xs, e, s _ _ h, pd_mono (fun _ _ => A.mono s) p⟩⟩

/-! ### calls by name -/
/-- a def of the module (x its name), of which K holds the text st -/
structure FnF (K : PySem.W.Frag) (mg : Str → Option Value) (x : Str) (st : Stmt) (dvs : List V) : Prop where
  ex : ∃ (f : Addr) (fd : FuncData), mg x = some (.ref f) ∧ FunD K x x (defArgs st) (defBody st) (defScope st) dvs [] f fd
/-- a method m of the class at C -/
structure MtF (K : PySem.W.Frag) (C : Addr) (m qual : Str) (st : Stmt) (dvs : List V) : Prop where
  ex : ∃ (f : Addr) (fd : FuncData), Meth K C m f ∧ FunD K m qual (defArgs st) (defBody st) (defScope st) dvs [] f fd
structure Cal (P : Program) (w : World) (K : PySem.W.Frag) (mg : Str → Option Value) (base : Heap) (k : Nat) (x : Str) (sp : Sp) : Prop where
  ex : ∃ (f : Addr) (fd : FuncData) (ps : List Str), FnOk P w K mg base (L2.CX P w) k f fd ps sp ∧ mg x = some (.ref f) ∧ PySem.W.keepIn K (.ref f) = true ∧ Binds K fd ps []
structure Met (P : Program) (w : World) (K : PySem.W.Frag) (mg : Str → Option Value) (base : Heap) (k : Nat) (C : Addr) (m : Str) (sp : Sp) : Prop where
  cl : Cls K C
  ex : ∃ (f : Addr) (fd : FuncData) (ps : List Str), FnOk P w K mg base (L2.CX P w) k f fd ps sp ∧ Meth K C m f ∧ Binds K fd ps []
structure Mak (P : Program) (w : World) (K : PySem.W.Frag) (mg : Str → Option Value) (base : Heap) (k : Nat) (x : Str) (C : Addr) (sp : Sp) : Prop where
  ex : ∃ (f : Addr) (fd : FuncData) (ps : List Str), FnOk P w K mg base (L2.CX P w) k f fd ps sp ∧ Mk K C f ∧ mg x = some (.ref C) ∧ Binds K fd ps []
section
variable {P : Program} {w : World} {K : PySem.W.Frag} {mg : Str → Option Value} {base : Heap}
/-- how the arguments of a def bind, every one given -/
def BindsAll (x qual : Str) (st : Stmt) (ps : List Str) : Prop := ∀ (dV kV doc pm : Value) (an : Option Addr) (cdv ct : Value) (us : List Value), us.length = ps.length → (dV = .none ∨ ∃ T, dV = .ref T) →
  bindArgs (PySem.W.fnOf x qual (defArgs st) (defBody st) (defScope st) dV kV doc pm an cdv ct) ⟨us, []⟩ = pure (ps.zip us)
/-- .. of a def without defaults -/
def BindsNo (x qual : Str) (st : Stmt) (ps : List Str) : Prop := ∀ (kV doc pm : Value) (an : Option Addr) (cdv ct : Value) (us : List Value), us.length = ps.length →
  bindArgs (PySem.W.fnOf x qual (defArgs st) (defBody st) (defScope st) .none kV doc pm an cdv ct) ⟨us, []⟩ = pure (ps.zip us)
abbrev BodyOk (P : Program) (w : World) (K : PySem.W.Frag) (mg : Str → Option Value) (base : Heap) (N : List Str) (qual : Str) (st : Stmt) (k : Nat) (sp : Sp) : Prop :=
  ∀ (f : Addr) (cdv : Value) (A : Around) (outer : List Env) (s : Shared) (H : Hp) (vs : List V) (Q : VK) (E : XK), Room k (A.deeper (envOfC qual (defScope st) s.heap.objs.size f cdv)) → sp vs H Q E →
      ∃ t, PSs (cxOf (L2.CX P w) P w K mg base N qual (defScope st) f cdv A outer s H E) (defBody st) t ∧ t { nx := fun _ H' => Q .non H', rt := Q } (start N vs) H
theorem FnF.cal {x : Str} {st : Stmt} {N ps : List Str} {k : Nat} {sp : Sp} (F : FnF K mg x st []) (S : FnScope N ps (defScope st)) (b : BindsNo x x st ps) (len : ∀ vs H Q E, sp vs H Q E → vs.length = ps.length)
    (body : BodyOk P w K mg base N x st k sp) : Cal P w K mg base (k + 1) x sp := by
  obtain ⟨f, fd, hm, F⟩ := F.ex
  exact ⟨f, fd, ps, F.ok S len (body f), hm, F.kp, F.bindsN b⟩
theorem MtF.met {C : Addr} {m qual : Str} {st : Stmt} {N ps : List Str} {k : Nat} {sp : Sp} (F : MtF K C m qual st []) (cl : Cls K C) (S : FnScope N ps (defScope st)) (b : BindsNo m qual st ps) (len : ∀ vs H Q E, sp vs H Q E → vs.length = ps.length)
    (body : BodyOk P w K mg base N qual st k sp) : Met P w K mg base (k + 1) C m sp := by
  obtain ⟨f, fd, hm, F⟩ := F.ex
  exact ⟨cl, f, fd, ps, F.ok S len (body f), hm, F.bindsN b⟩
end
section
variable {X : Cx} {k j : Nat} {x m : Str} {C : Addr} {sp : Sp} {e o : Expr} {es : List Expr} {ta : TE} {t : TA} {p pos apos : Pos} {E : XK}
theorem pe_c (c : Cal X.prog X.w X.K X.mg X.base k x sp) (hr : Room j X.A) (hk : k ≤ j) (ha : PA X (e :: es) t) (hx : Passes (L2.CX X.prog X.w) X E) (hg : Gl X x := by rfl) (hdb : (x == ("__debug__" : Str)) = false := by decide)
    (he : starEach (e :: es) X.env = (false, eval e X.env) :: starEach es X.env := by rfl) (hpl : (backTo pos (starEach es X.env)).any (·.1) = false := by rfl) : PE X (.Call (.Name x p) (e :: es) [] pos) (tCall sp [] E t) := by
  obtain ⟨f, fd, ps, F, hm, kp, b⟩ := c.ex
  exact pe_call F (hr.mono hk) hg hm kp b .nil hx ha hdb he hpl
theorem pe_c0 (c : Cal X.prog X.w X.K X.mg X.base k x sp) (hr : Room j X.A) (hk : k ≤ j) (hx : Passes (L2.CX X.prog X.w) X E) (hg : Gl X x := by rfl) (hdb : (x == ("__debug__" : Str)) = false := by decide) : PE X (.Call (.Name x p) [] [] pos) (tCall sp [] E tNil) := by
  obtain ⟨f, fd, ps, F, hm, kp, b⟩ := c.ex
  exact pe_call0 F (hr.mono hk) hg hm kp b .nil hx hdb
theorem pe_k (c : Mak X.prog X.w X.K X.mg X.base k x C sp) (hr : Room j X.A) (hk : k + 1 ≤ j) (ha : PA X (e :: es) t) (hx : Passes (L2.CX X.prog X.w) X E) (hg : Gl X x := by rfl) (hdb : (x == ("__debug__" : Str)) = false := by decide)
    (he : starEach (e :: es) X.env = (false, eval e X.env) :: starEach es X.env := by rfl) (hpl : (backTo pos (starEach es X.env)).any (·.1) = false := by rfl) : PE X (.Call (.Name x p) (e :: es) [] pos) (tMake C sp [] E t) := by
  obtain ⟨f, fd, ps, F, M, hm, b⟩ := c.ex
  exact pe_make M F (hr.mono hk) hg hm b .nil hx ha hdb he hpl
theorem pe_m {pl : Sem Bool} (c : Met X.prog X.w X.K X.mg X.base k C m sp) (hr : Room j X.A) (hk : k ≤ j) (ho : PE X o ta) (ha : PA X (e :: es) t) (hx : Passes (L2.CX X.prog X.w) X E)
    (hst : starEach (e :: es) X.env = (false, eval e X.env) :: starEach es X.env := by rfl) (hpl : (backTo pos (starEach es X.env)).any (·.1) = false := by rfl)
    (ht : eval (.Call (.Attribute o m apos) (e :: es) [] pos) X.env = (do
      let u ← eval o X.env
      standAt apos.atName
      let (g, us) ← holding [u] (getMethod u m pl)
      callWith pos g us (backTo pos (starEach (e :: es) X.env)) (backToKw pos (keywordEach [] X.env))) := by rfl) : PE X (.Call (.Attribute o m apos) (e :: es) [] pos) (tMeth C m sp [] E ta t) := by
  obtain ⟨f, fd, ps, F, hm, b⟩ := c.ex
  exact pe_meth ho c.cl hm F (hr.mono hk) b .nil hx ha hst hpl ht
theorem pe_m0 {pl : Sem Bool} (c : Met X.prog X.w X.K X.mg X.base k C m sp) (hr : Room j X.A) (hk : k ≤ j) (ho : PE X o ta) (hx : Passes (L2.CX X.prog X.w) X E)
    (ht : eval (.Call (.Attribute o m apos) [] [] pos) X.env = (do
      let u ← eval o X.env
      standAt apos.atName
      let (g, us) ← holding [u] (getMethod u m pl)
      callWith pos g us (backTo pos (starEach [] X.env)) (backToKw pos (keywordEach [] X.env))) := by rfl) : PE X (.Call (.Attribute o m apos) [] [] pos) (tMeth C m sp [] E ta tNil) := by
  obtain ⟨f, fd, ps, F, hm, b⟩ := c.ex
  exact pe_meth0 ho c.cl hm F (hr.mono hk) b .nil hx ht
/-- x in o, x not in o: o's class says __contains__ -/
def rInO (C : Addr) (sp : Sp) (E : XK) (neg : Bool) : R2 := fun x y H Q => ∃ a dx fs, y = .ref a ∧ H a = some (.ins C dx fs) ∧ sp [y, x] H (fun v H' => ∃ b, v = .bl b ∧ Q (.bl (if neg then !b else b)) H') E
theorem op_inO (c : Met X.prog X.w X.K X.mg X.base k C "__contains__" sp) (hr : Room j X.A) (hk : k ≤ j) (hx : Passes (L2.CX X.prog X.w) X E) : OpR X (compareOp .In) (rInO C sp E false) := by
  obtain ⟨f, fd, ps, F, hm, b⟩ := c.ex
  intro pins s σ H x y u v Q I rx ry h
  obtain ⟨a, dx, fs, rfl, ha, q⟩ := h
  cases ry
  obtain ⟨mA, J, _⟩ := ins_get I.hok ha
  obtain ⟨od, J, _⟩ := J.look
  obtain ⟨m, hF⟩ := I.fr
  refine PySem.W.in_K hF I.ok.mod.kin J hm.at_ hm.fn ?_
  refine thn (run_fn (us := [.ref a, u]) (vs := [.ref a, x]) F (hr.mono hk) b .nil hx I (.cons rfl (.cons rx .nil)) q) fun r s' hq => ?_
  obtain ⟨z, H', I', rz, bb, rfl, q'⟩ := hq
  cases rz
  exact wpAny_truthy_bool ⟨.bl bb, H', I', rfl, q'⟩
theorem op_niO (c : Met X.prog X.w X.K X.mg X.base k C "__contains__" sp) (hr : Room j X.A) (hk : k ≤ j) (hx : Passes (L2.CX X.prog X.w) X E) : OpR X (compareOp .NotIn) (rInO C sp E true) := by
  obtain ⟨f, fd, ps, F, hm, b⟩ := c.ex
  intro pins s σ H x y u v Q I rx ry h
  obtain ⟨a, dx, fs, rfl, ha, q⟩ := h
  cases ry
  obtain ⟨mA, J, _⟩ := ins_get I.hok ha
  obtain ⟨od, J, _⟩ := J.look
  obtain ⟨m, hF⟩ := I.fr
  refine PySem.W.notIn_K hF I.ok.mod.kin J hm.at_ hm.fn ?_
  refine thn (run_fn (us := [.ref a, u]) (vs := [.ref a, x]) F (hr.mono hk) b .nil hx I (.cons rfl (.cons rx .nil)) q) fun r s' hq => ?_
  obtain ⟨z, H', I', rz, bb, rfl, q'⟩ := hq
  cases rz
  exact wpAny_truthy_bool ⟨.bl (!bb), H', I', rfl, q'⟩
/-- a test by an own __bool__ -/
def tTrO (C : Addr) (sp : Sp) (E : XK) (te : TE) : TT := fun σ H Q => te σ H fun x H' => ∃ a dx fs, x = .ref a ∧ H' a = some (.ins C dx fs) ∧ sp [x] H' (fun v H2 => ∃ b, v = .bl b ∧ Q b H2) E
theorem pt_trO {te : TE} (c : Met X.prog X.w X.K X.mg X.base k C "__bool__" sp) (hr : Room j X.A) (hk : k ≤ j) (ha : PE X e te) (hx : Passes (L2.CX X.prog X.w) X E)
    (he : ∀ whole, isTrue e X.env whole = (do let v ← whole; standAt e.pos; holding [v] (truthy v)) := by intro _; rfl) : PT X e (tTrO C sp E te) := by
  obtain ⟨f, fd, ps, F, hm, b⟩ := c.ex
  refine ⟨fun pins s σ H Q I h => ?_⟩
  rw [he]
  refine wpAny_bind (thn (ha.run pins s σ H _ I h) fun u s1 hu => wpAny_bind (wpAny_standAt (wpAny_holding ?_)))
  obtain ⟨x, H1, I1, rx, a, dx, fs, rfl, ea, q⟩ := hu
  cases rx
  obtain ⟨mA, J, _⟩ := ins_get I1.hok ea
  obtain ⟨od, J, _⟩ := J.look
  obtain ⟨m, hF⟩ := I1.fr
  refine PySem.W.truthy_K hF I1.ok.mod.kin J hm.at_ hm.fn ?_
  refine thn (run_fn (us := [.ref a]) (vs := [.ref a]) F (hr.mono hk) b .nil hx I1 (.cons rfl .nil) q) fun r s' hq => ?_
  obtain ⟨z, H', I', rz, bb, rfl, q'⟩ := hq
  cases rz
  first
    | exact ⟨bb, rfl, H', I', q'⟩
    | exact ⟨H', I', q'⟩
end

/-! ### the rules with the written part named -/
section
variable {X : Cx} {k : Nat} {K : PySem.W.Frag} {w : World} {P : Program}
theorem pe_gs {x : Str} {z : Str} {pos : Pos} (h : ∃ t, X.mg x = some (.str z t)) (hg : Gl X x := by rfl) (hdb : (x == ("__debug__" : Str)) = false := by decide) : PE X (.Name x pos) (tC (.str z)) := by
  obtain ⟨t, h⟩ := h
  exact pe_glob hg h ⟨t, rfl⟩ hdb
theorem pe_gi {x : Str} {z : Int} {pos : Pos} (h : ∃ t, X.mg x = some (.int z t)) (hg : Gl X x := by rfl) (hdb : (x == ("__debug__" : Str)) = false := by decide) : PE X (.Name x pos) (tC (.int z)) := by
  obtain ⟨t, h⟩ := h
  exact pe_glob hg h ⟨t, rfl⟩ hdb
theorem pe_gr {x : Str} {a : Addr} {pos : Pos} (h : X.mg x = some (.ref a)) (hg : Gl X x := by rfl) (hdb : (x == ("__debug__" : Str)) = false := by decide) : PE X (.Name x pos) (tC (.ref a)) := pe_glob hg h rfl hdb
theorem pe_ty {x : Str} {n : String} {pos : Pos} (h : X.mg x = none) (hv : bootBuiltins x = some (.type n) := by decide +kernel) (hg : Gl X x := by rfl) (hn : x ≠ "__name__" := by decide) (hdb : (x == ("__debug__" : Str)) = false := by decide) : PE X (.Name x pos) (tC (.ty n)) :=
  pe_bltn hg h hv rfl hn hdb
abbrev rAddU : R2 := fun x y H Q => (∃ i j, x = .int i ∧ y = .int j ∧ Q (.int (i + j)) H) ∨ (∃ i j, x = .str i ∧ y = .str j ∧ i.length + j.length ≤ sizeLine ∧ Q (.str (i ++ j)) H) ∨ rCat x y H Q
theorem op_addU : OpR X (binaryOp .Add) rAddU := OpR.or op_add (OpR.or op_add_str op_cat)
abbrev rMulU : R2 := fun x y H Q => rI CMul (fun i j => .int (i * j)) x y H Q ∨ rI CMulW (fun i j => .int (i * j)) x y H Q
theorem op_mulU : OpR X (binaryOp .Mult) rMulU := OpR.or op_mul op_mulW
abbrev rFdivU : R2 := fun x y H Q => rI CDiv (fun i j => .int (i / j)) x y H Q ∨ rI CDivW (fun i j => .int (i / j)) x y H Q
theorem op_fdivU : OpR X (binaryOp .FloorDiv) rFdivU := OpR.or op_fdiv op_fdivW
abbrev rEqU (K : PySem.W.Frag) : R2 := fun x y H Q => rEq x y H Q ∨ rEqD K x y H Q
abbrev rNeU (K : PySem.W.Frag) : R2 := fun x y H Q => rNe x y H Q ∨ rNeD K x y H Q
theorem op_eqU (hr : Room k X.A) (hK : X.K = K := by rfl) : OpR X (compareOp .Eq) (rEqU K) := by subst hK; exact OpR.or op_eq (op_eqD hr.units)
theorem op_neU (hr : Room k X.A) (hK : X.K = K := by rfl) : OpR X (compareOp .NotEq) (rNeU K) := by subst hK; exact OpR.or op_ne (op_neD hr.units)
abbrev rSign (neg : Bool) : R2 := fun x y H Q => ∃ (c : Nat) (z : Str), x = .str ⟨#[c]⟩ ∧ y = .str z ∧ Q (.bl (if neg then !decide (c ∈ z.cps.toList) else decide (c ∈ z.cps.toList))) H
theorem op_inU (hK : X.K = K := by rfl) : OpR X (compareOp .In) (fun x y H Q => rSign false x y H Q ∨ rIn K false x y H Q) := by subst hK; exact OpR.or op_in_sign op_in_seq
theorem op_niU (hK : X.K = K := by rfl) : OpR X (compareOp .NotIn) (fun x y H Q => rSign true x y H Q ∨ rIn K true x y H Q) := by subst hK; exact OpR.or op_notIn_sign op_notIn_seq
def rLenU (K : PySem.W.Frag) : List V → Hp → VK → Prop := fun xs H Q => (∃ p ys, xs = [.ref p] ∧ (SqL K H p ys ∨ SqT K H p ys) ∧ Q (.int ys.length) H) ∨ (∃ z, xs = [.str z] ∧ z.length ≤ sizeLine ∧ Q (.int z.length) H) ∨ ∃ a kvs, xs = [V.ref a] ∧ H a = some (.dK kvs) ∧ Q (.int kvs.length) H
theorem call_lenU (hK : X.K = K := by rfl) : CallR X (.builtin "len") (rLenU K) := by subst hK; exact CallR.or call_len_seq (CallR.or call_len_str call_lenD)
theorem k_any (hc : X.calm = true := by rfl) (hK : X.K = K := by rfl) : CallR X (.builtin "any") (rAny K) := by subst hK; exact cr_any hc
theorem k_all (hc : X.calm = true := by rfl) (hK : X.K = K := by rfl) : CallR X (.builtin "all") (rAll K) := by subst hK; exact cr_all hc
theorem k_sum (hc : X.calm = true := by rfl) (hK : X.K = K := by rfl) : CallR X (.builtin "sum") (rSum K) := by subst hK; exact cr_sum hc
theorem k_isi (hK : X.K = K := by rfl) : CallR X (.builtin "isinstance") (rIsi K) := by subst hK; exact call_isi
theorem k_isiT (hK : X.K = K := by rfl) : CallR X (.builtin "isinstance") (rIsiT K) := by subst hK; exact call_isiT
theorem k_ix (hK : X.K = K := by rfl) : IxR X (rIx K) := by subst hK; exact ix_seq
def rTupOf (K : PySem.W.Frag) : List V → Hp → VK → Prop := fun xs H Q => ∃ p ys, xs = [.ref p] ∧ ((SqL K H p ys ∧ ∀ l, H l = none → Q (.ref l) (upd H l (.tup ys))) ∨ (SqT K H p ys ∧ Q (.ref p) H))
theorem k_tuple (hK : X.K = K := by rfl) : CallR X (.type "tuple") (rTupOf K) := by subst hK; exact call_tuple_of
def rLstOf (K : PySem.W.Frag) : List V → Hp → VK → Prop := fun xs H Q => ∃ p ys, xs = [.ref p] ∧ (SqL K H p ys ∨ SqT K H p ys) ∧ ∀ l, H l = none → Q (.ref l) (upd H l (.lst ys))
theorem k_list (hK : X.K = K := by rfl) : CallR X (.type "list") (rLstOf K) := by subst hK; exact call_list_of
theorem k_sl_list (hK : X.K = K := by rfl) : SlR X (rSlL K) := by subst hK; exact sl_list
theorem k_sl_tup (hK : X.K = K := by rfl) : SlR X (rSlT K) := by subst hK; exact sl_tup
theorem k_fld {e : Expr} {f : Str} {te : TE} {pos : Pos} (he : PE X e te) (hb : attributeBase e f X.env (eval e X.env) = eval e X.env := by rfl) (hK : X.K = K := by rfl) : PE X (.Attribute e f pos) (tFld K te f) := by subst hK; exact pe_fld he hb
theorem k_tup {es : List Expr} {t : TGs} {n kk : Nat} {pos : Pos} (hc : X.calm = true) (h : PGs X es t) (hn : (assignEach es X.env).length = n := by rfl) (hst : (assignEach es X.env).findIdx? (·.1) = none := by rfl) (hK : X.K = K := by rfl) : PG X (.Tuple es kk pos) (gTup K n t) := by subst hK; exact pg_tup hc h hn hst
theorem k_unl {es : List Expr} {t : TGs} {n kk : Nat} {pos : Pos} (hc : X.calm = true) (h : PGs X es t) (hn : (assignEach es X.env).length = n := by rfl) (hst : (assignEach es X.env).findIdx? (·.1) = none := by rfl) (hK : X.K = K := by rfl) : PG X (.Tuple es kk pos) (gUnl K n t) := by subst hK; exact pg_unl hc h hn hst
theorem k_il {tg l : Expr} {tl : TE} (hl : PE X l tl) (hK : X.K = K := by rfl) : PI X tg l (iList K tl) := by subst hK; exact pi_list hl
theorem k_it {tg l : Expr} {tl : TE} (hl : PE X l tl) (hK : X.K = K := by rfl) : PI X tg l (iTup K tl) := by subst hK; exact pi_tup hl
end

/-! ### constants of a class, constructors -/
/-- the class at C has the constant v under f -/
def CcF (K : PySem.W.Frag) (C : Addr) (f : Str) (v : V) : Prop := ∃ mc u, ClX.CRead K C mc ∧ ClX.CVal K C mc f v u
theorem PE.weak {X : Cx} {e : Expr} {t t' : TE} (h : PE X e t) (f : ∀ σ H Q, t' σ H Q → t σ H Q) : PE X e t' := ⟨fun pins s σ H Q I q => h.run pins s σ H Q I (f σ H Q q)⟩
theorem pe_cc {X : Cx} {K : PySem.W.Frag} {x f : Str} {C : Addr} {n : V} {p pos : Pos} (g : X.mg x = some (.ref C)) (h : CcF K C f n) (hg : Gl X x := by rfl) (hdb : (x == ("__debug__" : Str)) = false := by decide)
    (hb : attributeBase (.Name x p) f X.env (eval (.Name x p) X.env) = eval (.Name x p) X.env := by rfl) (hK : X.K = K := by rfl) : PE X (.Attribute (.Name x p) f pos) (tC n) := by
  subst hK
  obtain ⟨mc, u, r, k⟩ := h
  exact PE.weak (ClX.pe_cval (pe_gr g hg hdb) hb) fun σ H Q q => ⟨C, mc, n, u, rfl, r, k, q⟩
/-- the class x at C, its __init__ of the text st -/
structure MkF (K : PySem.W.Frag) (mg : Str → Option Value) (x : Str) (C : Addr) (qual : Str) (st : Stmt) (dvs : List V) : Prop where
  mg : mg x = some (.ref C)
  ex : ∃ (f : Addr) (fd : FuncData), Mk K C f ∧ FunD K "__init__" qual (defArgs st) (defBody st) (defScope st) dvs [] f fd
theorem MkF.mak {P : Program} {w : World} {K : PySem.W.Frag} {mg : Str → Option Value} {base : Heap} {x qual : Str} {C : Addr} {st : Stmt} {N ps : List Str} {k : Nat} {sp : Sp} (F : MkF K mg x C qual st []) (S : FnScope N ps (defScope st)) (b : BindsNo "__init__" qual st ps)
    (len : ∀ vs H Q E, sp vs H Q E → vs.length = ps.length) (body : BodyOk P w K mg base N qual st k sp) : Mak P w K mg base (k + 1) x C sp := by
  obtain ⟨f, fd, hm, D⟩ := F.ex
  exact ⟨f, fd, ps, D.ok S len (body f), hm, F.mg, D.bindsN b⟩
/-- .. with defaults, all arguments given -/
theorem MkF.makD {P : Program} {w : World} {K : PySem.W.Frag} {mg : Str → Option Value} {base : Heap} {x qual : Str} {C : Addr} {st : Stmt} {N ps : List Str} {k : Nat} {sp : Sp} {dvs : List V} (F : MkF K mg x C qual st dvs) (S : FnScope N ps (defScope st)) (hd : dvs ≠ [])
    (b : ∀ (T : Addr) (kV doc pm : Value) (an : Option Addr) (cdv ct : Value) (us its : List Value), us.length = ps.length → its.length = dvs.length →
      ∃ k, bindArgs (PySem.W.fnOf "__init__" qual (defArgs st) (defBody st) (defScope st) (.ref T) kV doc pm an cdv ct) ⟨us, []⟩ = seqItems? (.ref T) >>= k ∧ k (some its.toArray) = pure (ps.zip (us ++ its.drop dvs.length)))
    (len : ∀ vs H Q E, sp vs H Q E → vs.length = ps.length) (body : BodyOk P w K mg base N qual st k sp) : Mak P w K mg base (k + 1) x C sp := by
  obtain ⟨f, fd, hm, D⟩ := F.ex
  obtain ⟨ds, r, hb⟩ := D.binds1 (ps := ps) ps.length dvs.length hd (by simp) b
  rw [List.drop_length] at r
  cases r
  exact ⟨f, fd, ps, D.ok S len (body f), hm, F.mg, hb⟩
/-- the heap in which __init__ begins: x new with its own dict dx -/
structure New (C : Addr) (F H0 H : Hp) (x dx : Addr) : Prop where
  sub : Same F H0
  nx : H0 x = none
  nd : H0 dx = none
  ne : dx ≠ x
  eq : H = upd (upd H0 dx (.own x)) x (.ins C dx [])

/-! ### what a pure step leaves -/
/-- from (F, H) to (F', H'): nothing that was is changed, what stands still has grown by new things alone -/
structure Pu (F H F' H' : Hp) : Prop where
  same : Same H H'
  grow : Grow F H F' H'
theorem Pu.refl {F H : Hp} (s : Same F H) : Pu F H F H := ⟨Same.refl H, Grow.refl s⟩
theorem Pu.trans {F H F1 H1 F2 H2 : Hp} (a : Pu F H F1 H1) (b : Pu F1 H1 F2 H2) : Pu F H F2 H2 := ⟨a.same.trans b.same, a.grow.trans a.same b.grow⟩
theorem Pu.add {F H F1 H1 : Hp} {p : Addr} {o : HO} (a : Pu F H F1 H1) (n : H1 p = none) : Pu F H (upd F1 p o) (upd H1 p o) := a.trans ⟨Same.new n, Grow.add a.grow.sub n⟩
theorem Pu.tmp {F H F1 H1 : Hp} {p : Addr} {o : HO} (a : Pu F H F1 H1) (n : H1 p = none) : Pu F H F1 (upd H1 p o) := a.trans ⟨Same.new n, Grow.tmp a.grow.sub (Same.new n)⟩
theorem Pu.sub {F H F1 H1 : Hp} (a : Pu F H F1 H1) : Same F1 H1 := a.grow.sub
theorem Pu.ff {F H F1 H1 : Hp} (a : Pu F H F1 H1) : Same F F1 := a.grow.ff
/-- a local list (or dict) at l, new since H, changes -/
theorem Pu.mut {F H F1 H1 : Hp} {l : Addr} {o : HO} (a : Pu F H F1 H1) (n : H l = none) (m : F1 l = none) : Pu F H F1 (upd H1 l o) :=
  ⟨fun b u e => by rw [upd_ne (ne_of_none e n)]; exact a.same b u e, a.grow.ff, fun b u e => by rw [upd_ne (ne_of_none e m)]; exact a.grow.sub b u e, a.grow.fresh⟩
/-- .. and stands still from here on -/
theorem Pu.fix {F H F1 H1 : Hp} {l : Addr} {o : HO} (a : Pu F H F1 H1) (n : H l = none) (m : F1 l = none) (e : H1 l = some o) : Pu F H (upd F1 l o) H1 := ⟨a.same, a.grow.fix n m e⟩
theorem Pu.none {F H F1 H1 : Hp} {p : Addr} (a : Pu F H F1 H1) (m : F p = none) (n : H p ≠ none) : F1 p = none := a.grow.none m n
theorem ne_none {H : Hp} {p : Addr} {o : HO} (h : H p = some o) : H p ≠ none := fun e => by rw [h] at e; cases e

theorem New.pu {C : Addr} {F H0 H : Hp} {x dx : Addr} (n : New C F H0 H x dx) : Pu F H0 F H := by
  rw [n.eq]
  exact ((Pu.refl n.sub).tmp n.nd).tmp (by rw [upd_ne n.ne.symm]; exact n.nx)
theorem New.at {C : Addr} {F H0 H : Hp} {x dx : Addr} (n : New C F H0 H x dx) : H x = some (.ins C dx []) := by rw [n.eq, upd_same]
theorem New.fx {C : Addr} {F H0 H : Hp} {x dx : Addr} (n : New C F H0 H x dx) : F x = none := n.sub.free n.nx

/-! ### a comprehension -/
section
variable {J : It} {n : Nat} {G : Hp → Prop} {Y : Nat → Hp → V → Hp → Prop} {β : Type}
theorem go_lcI (w : Walk J n G Y) {g : TG} {tt : TT} {te : TE} {vs : List Nat} {σ : L2.St} {H1 : Hp} {D : Addr} {Qd : Hp → Prop} (A : Rp β) (acc : Nat → List β) (Iv : Nat → Hp → Hp → Prop) (hn : n ≤ 100000)
    (h0 : acc 0 = []) (i0 : ∃ F, Iv 0 F (upd H1 D (.lst [])) ∧ F D = none) (hG : ∀ i F H, i ≤ n → Iv i F H → G H)
    (hD : ∀ i F H l l', Iv i F H → F D = none → H D = some (.lst l) → Iv i F (upd H D (.lst l')))
    (hs : ∀ i x F H l H' (N : Hp → Prop), i < n → Iv i F H → F D = none → H D = some (.lst l) → Y i H x H' →
      (∀ y H4 F4 d, Iv (i + 1) F4 H4 → Same F F4 → F4 D = none → H4 D = some (.lst l) → A.rel d y F4 → acc (i + 1) = acc i ++ [d] → ∃ acc, H4 D = some (.lst acc) ∧ acc.length < sizeLine ∧ N (upd H4 D (.lst (acc ++ [y])))) →
      (∀ H3 F3, Iv (i + 1) F3 H3 → Same F F3 → F3 D = none → H3 D = some (.lst l) → acc (i + 1) = acc i → N H3) →
      g x (wipe σ vs) H' fun σ2 H2 => wipe σ2 vs = wipe σ vs ∧ tt σ2 H2 fun b H3 =>
      if b = true then te σ2 H3 fun y H4 => ∃ acc, H4 D = some (.lst acc) ∧ acc.length < sizeLine ∧ N (upd H4 D (.lst (acc ++ [y]))) else N H3)
    (hd : ∀ F H ys, Iv n F H → F D = none → H D = some (.lst ys) → Paired (fun d x => A.rel d x F) (acc n) ys → Qd H) :
    ∃ W : Nat → Nat → Hp → Prop, (∃ m, W 0 m (upd H1 D (.lst []))) ∧ ∀ i m H, W i m H →
      (J.stop i H ∧ Qd H) ∨ (J.go i H ∧ ∃ Nx : Hp → Prop, (∀ H', Nx H' → ∃ m', m' < m ∧ W (i + 1) m' H') ∧ ∀ x H', J.yld i H x H' → g x (wipe σ vs) H' fun σ2 H2 => wipe σ2 vs = wipe σ vs ∧ tt σ2 H2 fun b H3 =>
        if b = true then te σ2 H3 fun y H4 => ∃ acc, H4 D = some (.lst acc) ∧ acc.length < sizeLine ∧ Nx (upd H4 D (.lst (acc ++ [y]))) else Nx H3) := by
  have line : ∀ i, i ≤ 100000 → i < sizeLine := fun i h => Nat.lt_of_le_of_lt h (by rw [sizeLine_eq]; decide)
  refine lc_it w (fun i H => ∃ F ys, Iv i F H ∧ F D = none ∧ H D = some (.lst ys) ∧ ys.length ≤ i ∧ Paired (fun d x => A.rel d x F) (acc i) ys) ?_ (fun i H hi ⟨F, ys, p, _⟩ => hG i F H hi p) (fun i x H H' hi ⟨F, ys, p, fD, hH, hl, pd⟩ y => ?_) (fun H ⟨F, ys, p, fD, hH, hl, pd⟩ => hd F H ys p fD hH pd)
  · obtain ⟨F, i0, f0⟩ := i0
    exact ⟨F, [], i0, f0, upd_same, Nat.le_refl 0, by rw [h0]; exact .nil⟩
  · refine hs i x F H ys H' _ hi p fD hH y (fun y H4 F4 d iv s4 f4 h4 r4 e4 => ?_) (fun H3 F3 iv s3 f3 h3 e3 => ?_)
    · refine ⟨ys, h4, line _ (by omega), F4, ys ++ [y], hD _ _ _ _ _ iv f4 h4, f4, upd_same, by simp; omega, ?_⟩
      rw [e4]
      exact pd_snoc (pd_mono (fun _ _ => A.mono s4) pd) r4
    · exact ⟨F3, ys, iv, f3, h3, by omega, by rw [e3]; exact pd_mono (fun _ _ => A.mono s3) pd⟩
/-- .. whose tests and elements only make new things -/
theorem go_lc (w : Walk J n G Y) {g : TG} {tt : TT} {te : TE} {vs : List Nat} {σ : L2.St} {F1 H1 : Hp} {D : Addr} {Qd : Hp → Prop} (A : Rp β) (acc : Nat → List β) (hn : n ≤ 100000)
    (sF : Same F1 H1) (nD : H1 D = none) (h0 : acc 0 = []) (hG : ∀ F H, Pu F1 H1 F H → G H)
    (hs : ∀ i x F H l H' (N : Hp → Prop), i < n → Pu F1 H1 F H → F D = none → H D = some (.lst l) → Y i H x H' →
      (∀ y H4 F4 d, Pu F H F4 H4 → A.rel d y F4 → acc (i + 1) = acc i ++ [d] → ∃ acc, H4 D = some (.lst acc) ∧ acc.length < sizeLine ∧ N (upd H4 D (.lst (acc ++ [y])))) →
      (∀ H3 F3, Pu F H F3 H3 → acc (i + 1) = acc i → N H3) →
      g x (wipe σ vs) H' fun σ2 H2 => wipe σ2 vs = wipe σ vs ∧ tt σ2 H2 fun b H3 =>
      if b = true then te σ2 H3 fun y H4 => ∃ acc, H4 D = some (.lst acc) ∧ acc.length < sizeLine ∧ N (upd H4 D (.lst (acc ++ [y]))) else N H3)
    (hd : ∀ F H ys, Pu F1 H1 F H → F D = none → H D = some (.lst ys) → Paired (fun d x => A.rel d x F) (acc n) ys → Qd H) :
    ∃ W : Nat → Nat → Hp → Prop, (∃ m, W 0 m (upd H1 D (.lst []))) ∧ ∀ i m H, W i m H →
      (J.stop i H ∧ Qd H) ∨ (J.go i H ∧ ∃ Nx : Hp → Prop, (∀ H', Nx H' → ∃ m', m' < m ∧ W (i + 1) m' H') ∧ ∀ x H', J.yld i H x H' → g x (wipe σ vs) H' fun σ2 H2 => wipe σ2 vs = wipe σ vs ∧ tt σ2 H2 fun b H3 =>
        if b = true then te σ2 H3 fun y H4 => ∃ acc, H4 D = some (.lst acc) ∧ acc.length < sizeLine ∧ Nx (upd H4 D (.lst (acc ++ [y]))) else Nx H3) := by
  refine go_lcI w A acc (fun _ F H => Pu F1 H1 F H) hn h0 ⟨F1, (Pu.refl sF).tmp nD, sF.free nD⟩ (fun i F H _ p => hG F H p) (fun i F H l l' p fD _ => p.mut nD fD)
    (fun i x F H l H' N hi p fD hH y kt kf => ?_) hd
  refine hs i x F H l H' N hi p fD hH y (fun y H4 F4 d q r e => kt y H4 F4 d (p.trans q) q.ff (q.none fD (ne_none hH)) (q.same _ _ hH) r e) (fun H3 F3 q e => kf H3 F3 (p.trans q) q.ff (q.none fD (ne_none hH)) (q.same _ _ hH) e)
end
theorem sz {n : Nat} (h : n ≤ 100000) : n ≤ sizeLine := Nat.le_trans h (by rw [sizeLine_eq]; decide)
theorem szl {n : Nat} (h : n ≤ 100000) : n < sizeLine := Nat.lt_of_le_of_lt h (by rw [sizeLine_eq]; decide)
theorem pair_at {α β : Type} {A : Rp α} {B : Rp β} {F : Hp} {ds : List (α × β)} {vs : List V} {i : Nat} {x : V} (h : Paired (fun d x => (Rp.pair A B).rel d x F) ds vs) (e : vs[i]? = some x) :
    ∃ d a y z, ds[i]? = some d ∧ x = .ref a ∧ F a = some (.tup [y, z]) ∧ A.rel d.1 y F ∧ B.rel d.2 z F := by
  obtain ⟨d, h1, a, y, z, h2⟩ := pd_get h e
  exact ⟨d, a, y, z, h1, h2⟩
theorem take_snoc {α : Type} {l : List α} {i : Nat} {d : α} (h : l[i]? = some d) : l.take (i + 1) = l.take i ++ [d] := by
  rw [List.take_add_one, h]; rfl
theorem take_all {α : Type} (l : List α) : l.take l.length = l := List.take_of_length_le (Nat.le_refl _)
/-! ### things of one's own, not yet standing still -/
theorem putF_len (f : Str) (x : V) : ∀ fs : List (Str × V), (putF f x fs).length ≤ fs.length + 1
  | [] => Nat.le_refl 1
  | (g, y) :: r => by
    unfold putF
    split
    · simp
    · have := putF_len f x r
      simp; omega
theorem putF_lt {f : Str} {x : V} {fs : List (Str × V)} {n : Nat} (h : fs.length = n) (hn : n < 900 := by decide) : fs.length < 1000 := by omega
theorem putF_new {f : Str} {x : V} : ∀ {fs : List (Str × V)} (ks : List Str), ks.contains f = false → fs.map (·.1) = ks → putF f x fs = fs ++ [(f, x)]
  | [], _, _, _ => rfl
  | (g, y) :: r, ks, h, e => by
    subst e
    have h' : ¬ (f = g) ∧ ¬ f ∈ r.map (·.1) := by
      constructor
      · intro e; subst e; simp at h
      · intro e; simp at h; obtain ⟨z, hz⟩ : ∃ z, (f, z) ∈ r := by simpa using e
        exact h.2 z hz
    have := putF_new (f := f) (x := x) (fs := r) _ (by simpa using h'.2) rfl
    unfold putF
    rw [if_neg (fun e => h'.1 (by first | exact e | exact e.symm)), this]
    rfl
structure Own (F0 H0 F H : Hp) (ls : List (Addr × HO)) : Prop where
  pu : Pu F0 H0 F H
  al : ∀ (i : Nat) (p : Addr) (o : HO), ls[i]? = some (p, o) → H0 p = none ∧ F p = none ∧ H p = some o
  nd : (ls.map (·.1)).Nodup
section
variable {F0 H0 F H F' H' : Hp} {ls : List (Addr × HO)} {p : Addr} {o o' : HO}
theorem Own.nil (a : Pu F0 H0 F H) : Own F0 H0 F H [] := ⟨a, fun _ _ _ h => by simp at h, List.nodup_nil⟩
theorem Own.at (w : Own F0 H0 F H ls) (i : Nat) (e : ls[i]? = some (p, o) := by rfl) : H p = some o := (w.al i p o e).2.2
theorem Own.drop {F0 H0 F H : Hp} {ls : List (Addr × HO)} {e : Addr × HO} (w : Own F0 H0 F H (e :: ls)) : Own F0 H0 F H ls := ⟨w.pu, fun i q u h => w.al (i + 1) q u (by simpa using h), (List.nodup_cons.mp w.nd).2⟩
theorem Own.nf (w : Own F0 H0 F H ls) (i : Nat) (e : ls[i]? = some (p, o) := by rfl) : F p = none := (w.al i p o e).2.1
theorem Own.sub (w : Own F0 H0 F H ls) : Same F H := w.pu.sub
theorem Own.ff (w : Own F0 H0 F H ls) : Same F0 F := w.pu.ff
theorem Own.step (w : Own F0 H0 F H ls) (q : Pu F H F' H') : Own F0 H0 F' H' ls :=
  ⟨w.pu.trans q, fun i p o e => ⟨(w.al i p o e).1, q.none (w.al i p o e).2.1 (ne_none (w.al i p o e).2.2), q.same _ _ (w.al i p o e).2.2⟩, w.nd⟩
theorem Own.tmp (w : Own F0 H0 F H ls) (s : Same H H') : Own F0 H0 F H' ls := w.step ⟨s, Grow.tmp w.sub s⟩
theorem Own.fresh (w : Own F0 H0 F H ls) (n : H p = none) : p ∉ ls.map (·.1) := fun h => by
  obtain ⟨e, he, rfl⟩ := List.mem_map.mp h
  obtain ⟨i, hi⟩ := List.getElem?_of_mem he
  rw [(w.al i _ _ hi).2.2] at n
  cases n
theorem Own.lc (w : Own F0 H0 F H ls) (n : H p = none) (q : Pu F H F' H') (f : F' p = none) (h : H' p = some o) : Own F0 H0 F' H' ((p, o) :: ls) := by
  refine ⟨(w.step q).pu, fun i b u e => ?_, List.nodup_cons.mpr ⟨w.fresh n, w.nd⟩⟩
  cases i with
  | zero => simp at e; obtain ⟨rfl, rfl⟩ := e; exact ⟨w.pu.same.free n, f, h⟩
  | succ i => exact (w.step q).al i b u (by simpa using e)
theorem Own.new (w : Own F0 H0 F H ls) (n : H p = none) : Own F0 H0 F (upd H p o) ((p, o) :: ls) :=
  w.lc n ((Pu.refl w.sub).tmp n) (w.sub.free n) upd_same
theorem Own.add (w : Own F0 H0 F H ls) (n : H p = none) : Own F0 H0 (upd F p o) (upd H p o) ls := w.step ((Pu.refl w.sub).add n)
theorem Own.ne (w : Own F0 H0 F H ls) {i j : Nat} {q : Addr} {u : HO} (e : ls[i]? = some (p, o)) (f : ls[j]? = some (q, u)) (n : i ≠ j) : p ≠ q := fun h => by
  subst h
  have h1 : (ls.map (·.1))[i]? = some p := by rw [List.getElem?_map, e]; rfl
  have h2 : (ls.map (·.1))[j]? = some p := by rw [List.getElem?_map, f]; rfl
  exact n ((List.getElem?_inj (List.getElem?_eq_some_iff.mp h1).1 w.nd).mp (h1.trans h2.symm))
theorem Own.mut (w : Own F0 H0 F H ls) (i : Nat) (e : ls[i]? = some (p, o) := by rfl) : Own F0 H0 F (upd H p o') (ls.set i (p, o')) := by
  obtain ⟨a0, a1, a2⟩ := w.al i p o e
  have hi := (List.getElem?_eq_some_iff.mp e).1
  refine ⟨w.pu.mut a0 a1, fun j b u h => ?_, ?_⟩
  · by_cases q : i = j
    · subst q
      rw [List.getElem?_set_self hi] at h
      cases h
      exact ⟨a0, a1, upd_same⟩
    · rw [List.getElem?_set_ne q] at h
      obtain ⟨b0, b1, b2⟩ := w.al j b u h
      exact ⟨b0, b1, by rw [upd_ne (w.ne h e (Ne.symm q))]; exact b2⟩
  · have : (ls.set i (p, o')).map (·.1) = ls.map (·.1) := by
      rw [List.map_set]
      refine List.ext_getElem? fun j => ?_
      by_cases q : i = j
      · subst q
        rw [List.getElem?_set_self (by simpa using hi), List.getElem?_map, e]
        rfl
      · rw [List.getElem?_set_ne q]
    rw [this]
    exact w.nd
theorem Own.fix (w : Own F0 H0 F H ls) (i : Nat) (e : ls[i]? = some (p, o) := by rfl) : Own F0 H0 (upd F p o) H (ls.eraseIdx i) := by
  obtain ⟨a0, a1, a2⟩ := w.al i p o e
  refine ⟨w.pu.fix a0 a1 a2, fun j b u h => ?_, ?_⟩
  · rw [List.getElem?_eraseIdx] at h
    split at h
    · obtain ⟨b0, b1, b2⟩ := w.al j b u h
      exact ⟨b0, by rw [upd_ne (w.ne h e (by omega))]; exact b1, b2⟩
    · obtain ⟨b0, b1, b2⟩ := w.al (j + 1) b u h
      exact ⟨b0, by rw [upd_ne (w.ne h e (by omega))]; exact b1, b2⟩
  · exact List.Sublist.nodup (List.Sublist.map _ (List.eraseIdx_sublist ls i)) w.nd
theorem Own.ext (w : Own F0 H0 F H ls) (i : Nat) (e : ls[i]? = some (p, o) := by rfl) : Same F (upd F p o) := Same.new (w.nf i e)
end
theorem New.own {C : Addr} {F H0 H : Hp} {x dx : Addr} (n : New C F H0 H x dx) : Own F H0 F H [(x, .ins C dx [])] :=
  ⟨n.pu, fun i p o e => by
    cases i with
    | zero => simp at e; obtain ⟨rfl, rfl⟩ := e; exact ⟨n.nx, n.fx, n.at⟩
    | succ i => simp at e, by simp⟩
/-- self.f = v of a thing of one's own: a new field -/
theorem st_fld {K : PySem.W.Frag} {F0 H0 F H : Hp} {ls : List (Addr × HO)} {x C dx : Addr} {fs : List (Str × V)} {f : Str} {v : V} {Q : Hp → Prop} (w : Own F0 H0 F H ls) (cl : Cls K C) (na : NoAttr K C f) (i : Nat) (ks : List Str) (e : ls[i]? = some (x, .ins C dx fs)) (hk : fs.map (·.1) = ks) (hn : ks.contains f = false)
    (hl : ks.length < 1000) (k : Own F0 H0 F (upd H x (.ins C dx (fs ++ [(f, v)]))) (ls.set i (x, .ins C dx (fs ++ [(f, v)]))) → Q (upd H x (.ins C dx (fs ++ [(f, v)])))) :
    ∃ a C' dx' fs', V.ref x = .ref a ∧ H a = some (.ins C' dx' fs') ∧ Cls K C' ∧ NoAttr K C' f ∧ fs'.length < 1000 ∧ Q (upd H a (.ins C' dx' (putF f v fs'))) := by
  have q := k (w.mut i e)
  rw [← putF_new ks hn hk] at q
  exact ⟨x, C, dx, fs, rfl, w.at i e, cl, na, by rw [← hk] at hl; simpa using hl, q⟩
/-- branches that join again: R is where they meet -/
theorem sj {ta tb : TS} {D : Ends} {σ : L2.St} {H : Hp} (R : L2.St → Hp → Prop) (h : ∀ σ2 H2, R σ2 H2 → tb D σ2 H2) (g : (∀ σ2 H2, R σ2 H2 → tb D σ2 H2) → tSeq ta tb D σ H) : tSeq ta tb D σ H := g h
theorem atI_last {α : Type} {xs : List α} {v : α} (h : xs.getLast? = some v) (e : -1 = i := by rfl) : atI xs i = some v := by
  subst e
  have hl : xs.length ≠ 0 := by intro q; rw [List.length_eq_zero_iff] at q; rw [q] at h; cases h
  rw [List.getLast?_eq_getElem?] at h
  unfold atI ixN
  rw [if_neg (by omega), if_pos (by omega)]
  simpa [show (-1 + (xs.length : Int)).toNat = xs.length - 1 by omega] using h
theorem pd_last {α β : Type} {r : α → β → Prop} {xs : List α} {ys : List β} {x : α} (h : Paired r xs ys) (e : xs.getLast? = some x) : ∃ y, ys.getLast? = some y ∧ r x y := by
  rw [List.getLast?_eq_getElem?] at e ⊢
  obtain ⟨y, h1, h2⟩ := pd_get' h e
  exact ⟨y, by rw [pd_len h]; exact h1, h2⟩
theorem pd_dropLast {α β : Type} {r : α → β → Prop} : ∀ {xs : List α} {ys : List β}, Paired r xs ys → Paired r xs.dropLast ys.dropLast
  | _, _, .nil => .nil
  | _, _, .cons h .nil => .nil
  | _, _, .cons h (.cons h2 t) => .cons h (pd_dropLast (.cons h2 t))
end G

/-! part A0 -/
namespace TR
open PySem PySem.Spec PyProof.Rows L2 G
/-- what isinstance asks of an own class -/
structure InsF (K : PySem.W.Frag) (C : Addr) : Prop where
  cl : Cls K C
  h1 : PySem.W.findIn K (.ref C) "__class__" = some (some (.builtin "object.__class__"))
  h2 : PySem.W.specialIn K (.builtin "object.__class__") "__get__" = some (some (.builtin "getset_descriptor.__get__"))
  h3 : PySem.W.takesIn K (.builtin "object.__class__") = some true
  h4 : PySem.W.mroIn K C (.type "object") = some true
theorem InsF.ty {K : PySem.W.Frag} {C : Addr} {H : Hp} {a dx : Addr} {fs : List (Str × V)} (h : InsF K C) (e : H a = some (.ins C dx fs)) : TyX K H (.ref a) (.ref C) := TyX.base (TyOf.ins e h.cl h.h1 h.h2 h.h3 h.h4)
theorem kit_self {K : PySem.W.Frag} {C : Addr} : PySem.W.kitOne K (.ref C) (.ref C) = some true := by
  unfold PySem.W.kitOne
  rw [if_pos (by simp)]
end TR

/-! part Exc1 -/
/-! An own exception, its class's class over ValueError, whose __init__ says super().__init__('..') and then self.f = p. -/
namespace G
open PySem PySem.Spec PySem.W PySem.Calls PyProof.Rows L2
/-- the text of such an __init__ -/
structure XBody (st : Stmt) (qual fld : Str) (ar : Arg) (prm : Str) (body : List Stmt) : Prop where
  bd : defBody st = body
  sh : ∃ (txt : Str) (k : Nat) (p0 p1 p2 p3 p4 p5 p6 p7 p8 p9 : Pos), body = [.Expr (.Call (.Attribute (.Call (.Name "super" p0) [] [] p1) "__init__" p2) [.Constant (.str txt) k p3] [] p4) p5, .Assign [.Attribute (.Name "self" p6) fld p7] (.Name prm p8) p9] ∧
    ∀ (L f cda cc : Addr) (env : Env), env = ksEnv qual (defScope st) L f (.ref cda) cc → (∃ pl : Sem Bool, eval (.Call (.Attribute (.Call (.Name "super" p0) [] [] p1) "__init__" p2) [.Constant (.str txt) k p3] [] p4) env = (do
        let o ← attributeBase (.Call (.Name "super" p0) [] [] p1) "__init__" env (eval (.Call (.Name "super" p0) [] [] p1) env)
        standAt p2.atName
        let (g, us) ← holding [o] (getMethod o "__init__" pl)
        callWith p4 g us (backTo p4 (starEach [.Constant (.str txt) k p3] env)) [])) ∧
      swapsWith (.Call (.Attribute (.Call (.Name "super" p0) [] [] p1) "__init__" p2) [.Constant (.str txt) k p3] [] p4) none p5.line env = pure false ∧
      swapsWith (.Name prm p8) (some (.Attribute (.Name "self" p6) fld p7)) p9.line env = pure false ∧ interactive env = false ∧
      starEach [.Constant (.str txt) k p3] env = (false, eval (.Constant (.str txt) k p3) env) :: starEach [] env
  hr : ((defArgs st).posonlyargs ++ (defArgs st).args).head? = some ar
  se : ar.arg = "self"
  ks : (defScope st).names.lookup ("super" : Str) = some .globalImplicit
  kc : (defScope st).names.lookup ("__class__" : Str) = some .free
  ka : (defScope st).names.lookup ("self" : Str) = some .local
  kp : (defScope st).names.lookup prm = some .local
  ki : (defScope st).kind = .function
  co : (defScope st).isCoroutine = false
  ge : (defScope st).isGenerator = false
  ce : ∀ x ∈ (defScope st).names, x.2 ≠ .cell
  pr : prm ≠ "self" ∧ (prm == ("__debug__" : Str)) = false
  bi : ∀ (kV doc pm cdv ct : Value) (an : Option Addr) (cc : Addr) (a v : Value), bindArgs (ksFn "__init__" qual (defArgs st) (defBody st) (defScope st) .none kV doc pm an cdv ct cc) ⟨[a, v], []⟩ = pure [(("self" : Str), a), (prm, v)]
/-- what K says of the class x at C and of its __init__ -/
structure XTxt (P : Program) (K : Frag) (mg : Str → Option Value) (x qual fld : Str) (st : Stmt) (C : Addr) : Prop where
  gC : mg x = some (.ref C)
  oc : OexC K C
  ga : findIn K (.ref C) "__getattribute__" = some (some (.builtin "BaseException.__getattribute__"))
  gg : findIn K (.ref C) "__getattr__" = some none
  hd : hasDictIn K C = true
  nof : findIn K (.ref C) fld = some none
  sv : subIn K (.ref C) (.type "ValueError") = some true
  mr : mroIn K C (.ref C) = some true
  op : nsIn K cStatics "thirdparty.any" = some none
  su : ks_superIn K C C "__init__" = some (some (.builtin "ValueError.__init__"))
  sg : mg "super" = none
  top : (P.main.scope.names.lookup ("super" : Str)).isSome = false
  bd : ∃ (ar : Arg) (prm : Str) (body : List Stmt), XBody st qual fld ar prm body
  fn : ∃ (fI cc cda : Addr) (oc : Value) (od : Option Addr) (kV doc pm ct : Value) (an : Option Addr) (osl : Array (Option Value)) (ccl cl : Value) (cdd cld : Option Addr) (vs : Array Value) (ccs csl : Array (Option Value)) (file : Str) (tf : Tok),
    findIn K (.ref C) "__init__" = some (some (.ref fI)) ∧ typeIn K (.ref fI) = some (.type "function") ∧
    K.lookup fI = some ⟨oc, od, .func (ksFn "__init__" qual (defArgs st) (defBody st) (defScope st) .none kV doc pm an (.ref cda) ct cc), osl⟩ ∧ codeIn K (.ref cda) qual = true ∧
    K.lookup cc = some ⟨cl, cld, .cell (some (.ref C)), csl⟩ ∧ K.lookup cda = some ⟨ccl, cdd, .fields vs, ccs⟩ ∧ vs[2]? = some (.str file tf) ∧ ((P.main.file : Str) == file) = true
section
variable {prog : Program} {w : World} {A : Around} {E : Value → Shared → Prop} {R : Result → Shared → Prop} {s : Shared} {K : Frag} {mg mb : Str → Option Value} {x qual fld : Str} {st : Stmt} {C : Addr}
/-- the built-in __init__, bound to the exception, called -/
theorem call_mw {h : Heap} {g : Array GenState} {d : Drawn} {t : Nat} {os : OsState} {nm q : Str} {N e u t0 : Addr} {bs bm : List Value} {hdct : Bool} {sn : List Str} {sub : List Value} {ab : Bool} {col : Option Bool} {dd : Option Addr} {k0 k1 k2 k3 k5 : Option Value} {rest : List Value} {Q : Value → Shared → Prop}
    (hC : h.get? C = some (excClassObj nm q C N bs bm hdct sn sub ab col dd k0 k1 k2 k3 k5 "ValueError.__new__")) (he : h.get? e = some (PySem.HandSPX.excO C t0)) (hu : h.get? u = some (kxs_mw "ValueError.__init__" e)) (hz : rest.length ≤ sizeLine)
    (go : ∀ h' t1, (∀ b o, b ≠ e → h.get? b = some o → h'.get? b = some o) → h'.get? e = some (PySem.HandSPX.excO C t1) → Q .none ⟨h', g, d, t, os⟩) : wpAny (model prog w) A (call (.ref u) rest) Q E ⟨h, g, d, t, os⟩ := by
  refine wpAny_call (codeAny_of_tree ?_); show wpAny _ A.in1 (callAny (.ref u) ⟨rest, []⟩) _ _ _
  simp only [callAny]; refine wpAny_bind (wpAny_load hu ?_)
  have z : (Value.type "method-wrapper" == Value.type "method" || Value.type "method-wrapper" == Value.type "builtin_function_or_method" || Value.type "method-wrapper" == Value.type "method-wrapper") = true := by decide
  simp only [kxs_mw, z, if_true]; refine KFB.if_so (by decide) ?_
  refine wpAny_bind (check_bound_init F.excBase_ValueError.toExcCallFacts hC he rfl ?_)
  refine wpAny_bind (wpAny_pure (wpAny_pure ⟨plainId_quiet F.excBase_ValueError.init.plain _, codeAny_builtin F.excBase_ValueError.initEntry ?_⟩))
  exact exc_init_tree (cls := .ref C) (t0 := t0) (dv := none) (c2 := .none) (c3 := .none) (b4 := .bool false) he hz fun h' k e' _ => go h' _ k e'
theorem ldX {M : Model} {env : Env} {m : Str → Option Value} {y : Str} {pos : Pos} {v : Value} {Q : Value → Shared → Prop} (hn : s.heap.Ns env.locals m) (hv : m y = some v) (h : Q v s) (hk : env.scope.kind = .function) (hl : env.kindOf y = some .local) (hd : (y == ("__debug__" : Str)) = false) :
    wpAny M A (eval (.Name y pos) env) Q E s := wpAny_Name (wpAny_loadName_local hk hl hn hv h) hd
/-- what __init__ leaves of a new exception at e -/
structure XEnd (h h' : Heap) (e C dx t1 : Addr) (fld : Str) (v : Value) : Prop where
  keep : ∀ b o, b ≠ e → h.get? b = some o → h'.get? b = some o
  obj : h'.get? e = some { cls := .ref C, dict := some dx, data := .fields #[.ref t1, .none, .none, .none, .bool false, .none] }
  big : h.objs.size ≤ dx
  ne : dx ≠ e
  ns : h'.Ns1 dx (fun y => if y = fld then some v else none)
theorem keep_but {h h' : Heap} {e : Addr} (X : K.In h) (he : K.lookup e = none) (k : ∀ b o, b ≠ e → h.get? b = some o → h'.get? b = some o) : K.In h' := fun a o z => k a o (fun y => by rw [y, he] at z; cases z) (X a o z)
theorem x_init (T : XTxt prog K mg x qual fld st C) {e t0 fI : Addr} {v : Value} (hfI : findIn K (.ref C) "__init__" = some (some (.ref fI))) (X : K.In s.heap) (G : s.heap.Ns mainGlobals mg) (Bl : s.heap.Ns builtinsNs mb) (hb : mb "super" = bootBuiltins "super") (lim : s.heap.NoLimit)
    (he : s.heap.get? e = some (PySem.HandSPX.excO C t0)) (hne : K.lookup e = none) (room : A.depth < recursionLimit)
    (go : ∀ h' tk dx t1, XEnd s.heap h' e C dx t1 fld v → R (.ok (.ret .none)) { s with heap := h', toks := tk }) : codeAny (model prog w) A (.call (.ref fI) ⟨[.ref e, v], []⟩) R s := by
  obtain ⟨fI', cc, cda, oc, od, kV, doc, pm, ct, an, osl, ccl, cl, cdd, cld, vs, ccs, csl, file, tf, iC, tI, lf, hcd, lcc, lcd, hvs, hfile⟩ := T.fn
  obtain rfl : fI' = fI := by rw [iC] at hfI; cases hfI; rfl
  obtain ⟨ar, prm, body, Bd⟩ := T.bd
  obtain ⟨txt, kk, p0, p1, p2, p3, p4, p5, p6, p7, p8, p9, hbody, hev⟩ := Bd.sh
  obtain ⟨⟨pl, ev⟩, sw1, sw2, nint, hst⟩ := hev s.heap.objs.size fI' cda cc _ rfl
  obtain ⟨nm, q, N, bs, bm, sn, sub, ab, col, dd, k0, k1, k2, k3, k5, hC, hbm⟩ := T.oc.cls
  have hcl : clsIn K C = some { name := nm, bases := bs, mro := .ref C :: bm, ns := N, qualname := q, hasDict := true, slotNames := sn, subclasses := sub, abstract := ab, collection := col, hasDel := false } := by unfold clsIn; rw [hC] <;> rfl
  refine ks_codeAny_call_defAt (binds := [(("self" : Str), .ref e), (prm, v)]) room (X _ _ lf) rfl lim (codeRec_of X hcd) rfl (BindsTo.of_eq (Bd.bi ..)) Bd.ce (fun y hy => ?_) (fun h0 hns kp => ?_) Bd.co Bd.ge Bd.ki
  · rcases List.mem_cons.mp hy with rfl | hy
    · exact Bd.ka
    · rw [List.mem_singleton.mp hy]; exact Bd.kp
  show PySem.wpAt _ _ (.func (defBody st) (ksEnv qual (defScope st) s.heap.objs.size fI' (.ref cda) cc)) (execs (defBody st) (ksEnv qual (defScope st) s.heap.objs.size fI' (.ref cda) cc)) _ _ _
  have X0 : K.In h0 := X.keeps kp
  have he0 := kp _ _ he
  have hse : (fun y => ([(("self" : Str), Value.ref e), (prm, v)].reverse).lookup y) "self" = some (.ref e) := by
    show ([(prm, v), (("self" : Str), Value.ref e)]).lookup ("self" : Str) = _
    have n1 : (("self" : Str) == prm) = false := by simpa using Ne.symm Bd.pr.1
    have n2 : (("self" : Str) == ("self" : Str)) = true := by simp
    rw [List.lookup_cons, n1, List.lookup_cons, n2]
  have hpr : (fun y => ([(("self" : Str), Value.ref e), (prm, v)].reverse).lookup y) prm = some v := by
    show ([(prm, v), (("self" : Str), Value.ref e)]).lookup prm = _
    have n1 : (prm == prm) = true := by simp
    rw [List.lookup_cons, n1]
  rw [Bd.bd, hbody]
  refine ks_wpAt_execs_cons (ks_wpAt_Expr_any (ks_wpAt_MethodCall ?_ ev) nint sw1)
  refine ks_wpAt_super_base (env := ksEnv qual (defScope st) s.heap.objs.size fI' (.ref cda) cc) (fd := ksFn "__init__" qual (defArgs st) (defBody st) (defScope st) .none kV doc pm an (.ref cda) ct cc) Bd.ks Bd.kc (by decide +kernel) rfl (X0 _ _ lf) rfl Bd.hr rfl (X0 _ _ lcd) rfl hvs hfile T.top ?_
  refine ks_loadName_global Bd.ki Bd.ks (loadGlobal_builtin (env := ksEnv qual (defScope st) s.heap.objs.size fI' (.ref cda) cc) (G.keeps kp) T.sg (Bl.keeps kp) (hb.trans (by rfl : bootBuiltins "super" = some (.type "super"))) ⟨rfl, ?_⟩)
  refine wpAny_loadName_free Bd.ki Bd.kc rfl ⟨_, X0 _ _ lcc, rfl⟩ ?_
  rw [Bd.se]
  refine wpAny_loadName_local Bd.ki Bd.ka hns hse ?_
  have hC0 := X0 _ _ hC
  refine ks_wpAny_isType_cls hC0 rfl ⟨rfl, ?_⟩
  refine ks_wpAny_call_super hC0 rfl he0 rfl (fun c z => by cases z) (looks_mroIn X0 T.mr) (fun h1 e1 kp1 => ?_)
  have X1 : K.In h1 := X0.keeps kp1
  have I1 : InstAt h1 e (PySem.HandSPX.excO C t0) C none := ⟨kp1 _ _ he0, rfl, rfl, trivial⟩
  have su := T.su
  unfold ks_superIn at su
  rw [hcl] at su
  refine kxs_getMethod kxs_ValueError e1 (looks_opaque X1 T.op) (l₀ := .ref C :: bm) (fun A Q E s k q => wpAny_bind ((looks_clsIn X1 hcl) A _ E s k (wpAny_pure q))) rfl X1 su (I1.type.andThen (looks_subIn X1 T.sv)) (ks_ne X1 I1 hcl) (by decide +kernel) ?_
  have hne1 : ∀ b o, h1.get? b = some o → (h1.push (kxs_mw "ValueError.__init__" e)).get? b = some o := fun b o z => Heap.get?_push_of_some _ z
  have hu1 : (h1.push (kxs_mw "ValueError.__init__" e)).get? h1.objs.size = some (kxs_mw "ValueError.__init__" e) := Heap.get?_push_size _ rfl
  refine kxs_callWith (i := "ValueError.__init__") (x := e) (by rfl) ?_
  refine evalArgs_plain ?_
  refine spliced_more (wpAny_Constant_str (spliced_none ?_)) hst
  refine ⟨hu1, ?_⟩
  refine call_mw (hne1 _ _ (kp1 _ _ hC0)) (hne1 _ _ (kp1 _ _ he0)) hu1 (by show 1 ≤ sizeLine; rw [sizeLine_eq]; decide) fun h2 t1 kp2 he2 => ?_
  -- self.f = p
  have ek : ∀ b o, b ≠ e → h0.get? b = some o → h2.get? b = some o := fun b o hb z => kp2 b o hb (hne1 _ _ (kp1 _ _ z))
  have X2 : K.In h2 := keep_but X0 hne ek
  have nL : s.heap.objs.size ≠ e := Nat.ne_of_gt (Heap.lt_size he)
  have hns2 : h2.Ns s.heap.objs.size (fun y => ([(("self" : Str), Value.ref e), (prm, v)].reverse).lookup y) := by
    obtain ⟨oL, es, ep, hL, r⟩ := hns
    exact ⟨oL, es, ep, ek _ _ nL hL, r⟩
  refine wpAt_of_wpAny ?_
  refine wpAny_execs_cons (plainObj_wpAny_Assign_Attribute ?_ sw2)
  refine ldX hns2 hpr (ldX hns2 hse ?_ Bd.ki Bd.ka (by decide +kernel)) Bd.ki Bd.kp Bd.pr.2
  refine set_plain X2 (ox := PySem.HandSPX.excO C t1) (od := none) ⟨he2, rfl, rfl, trivial⟩ T.oc.sa ?_
  refine PySem.HandSPX.exc_osa X2 he2 hcl (show PySem.HandSPX.refsVE (.ref C :: bm) = true from hbm) rfl T.nof (fun h3 tk3 dx k3 dn dne he3 hns3 => ?_)
  refine wpAny_execs_nil (go h3 _ dx t1 ⟨fun b o hb z => k3 b o hb (ek b o hb (kp _ _ z)), he3, ?_, dne, hns3⟩)
  have z1 : s.heap.objs.size < h2.objs.size := by
    obtain ⟨oL, es, ep, hL, r⟩ := hns2
    exact Heap.lt_size hL
  exact Nat.le_trans (Nat.le_of_lt z1) dn
/-- a new exception at e, its dict at d -/
structure XMade (h h' : Heap) (e C d : Addr) (fld : Str) (v : Value) : Prop where
  keep : ∀ b o, h.get? b = some o → h'.get? b = some o
  new : h.objs.size ≤ e
  obj : ∃ oe vs, h'.get? e = some oe ∧ oe.cls = .ref C ∧ oe.dict = some d ∧ oe.data = .fields vs ∧ vs[1]? = some .none
  big : h.objs.size ≤ d
  ne : d ≠ e
  ns : h'.Ns1 d (fun y => if y = fld then some v else none)
theorem x_made (T : XTxt prog K mg x qual fld st C) {v : Value} (X : K.In s.heap) (G : s.heap.Ns mainGlobals mg) (Bl : s.heap.Ns builtinsNs mb) (hb : mb "super" = bootBuiltins "super") (lim : s.heap.NoLimit) (room : A.depth + 1 < recursionLimit)
    (go : ∀ h' tk e d, XMade s.heap h' e C d fld v → R (.ok (.ret (.ref e))) { s with heap := h', toks := tk }) : codeAny (model prog w) A (.call (.ref C) ⟨[v], []⟩) R s := by
  obtain ⟨fI, cc, cda, oc, od, kV, doc, pm, ct, an, osl, ccl, cl, cdd, cld, vs, ccs, csl, file, tf, iC, tI, _⟩ := id T.fn
  obtain ⟨nm, q, N, bs, bm, sn, sub, ab, col, dd, k0, k1, k2, k3, k5, hC, hbm⟩ := T.oc.cls
  obtain ⟨hp, g, dr, tk, os⟩ := s
  have up : ∀ b o, hp.get? b = some o → ((hp.push (kdv_tup [v])).push (PySem.HandSPX.excO C hp.objs.size)).get? b = some o := fun b o z => Heap.get?_push_of_some _ (Heap.get?_push_of_some _ z)
  have he : ((hp.push (kdv_tup [v])).push (PySem.HandSPX.excO C hp.objs.size)).get? (hp.objs.size + 1) = some (PySem.HandSPX.excO C hp.objs.size) := by heap_get
  have hne : K.lookup (hp.objs.size + 1) = none := by
    cases z : K.lookup (hp.objs.size + 1) with
    | none => rfl
    | some o => exact absurd (Nat.lt_of_succ_lt (Heap.lt_size (show hp.get? (hp.objs.size + 1) = some o from X _ _ z))) (Nat.lt_irrefl _)
  refine PySem.HandSPX.call_own F.excBase_ValueError (fun Y => PySem.HandSPX.refsVE_contains Y bm hbm) (X _ _ hC) (looks_findIn X iC) (fun self => bind_fn X self tI) (by show 1 ≤ sizeLine; rw [sizeLine_eq]; decide) ?_
  refine x_init (s := ⟨(hp.push (kdv_tup [v])).push (PySem.HandSPX.excO C hp.objs.size), g, dr, tk, os⟩) T iC (X.keeps up) (G.keeps up) (Bl.keeps up) hb (lim.keeps up) he hne ?_ fun h' tk' dx t1 D => ?_
  · exact room
  · have old : ∀ b o, hp.get? b = some o → h'.get? b = some o := fun b o z => D.keep b o (Nat.ne_of_lt (Nat.lt_succ_of_lt (Heap.lt_size z))) (up b o z)
    have big := D.big
    rw [Heap.size_push, Heap.size_push] at big
    exact ⟨rfl, go h' tk' (hp.objs.size + 1) dx ⟨old, Nat.le_succ _, ⟨_, _, D.obj, rfl, rfl, rfl, rfl⟩, Nat.le_trans (Nat.le_trans (Nat.le_succ _) (Nat.le_succ _)) big, D.ne, D.ns⟩⟩
end
/-- x(e) -/
def tXMk (C : Addr) (fld : Str) (ta : TA) : L2.St → Hp → XK → Prop := fun σ H Q => ta σ H fun vs H1 => ∃ v, vs = [v] ∧ ∀ d, H1 d = none → Q (.ref C) (some d) (upd H1 d (.xd [(fld, v)]))
section
variable {X : Cx} {C : Addr} {x qual fld : Str} {st : Stmt}
theorem pmk_x {a : Expr} {ta : TA} {p pos : Pos} {k : Nat} (T : XTxt X.prog X.K X.mg x qual fld st C) (hr : Room k X.A) (ha : PA X [a] ta) (hg : Gl X x := by rfl) (hdb : (x == ("__debug__" : Str)) = false := by decide)
    (he : starEach (a :: []) X.env = (false, eval a X.env) :: starEach [] X.env := by rfl) (hpl : (backTo pos (starEach [] X.env)).any (·.1) = false := by rfl) : PMk X (.Call (.Name x p) [a] [] pos) (tXMk C fld ta) := by
  intro pins s σ H Q I h
  refine wpAny_Call_Name_kw (ld_glob I hg T.gC ?_ hdb)
  refine PySem.W.callWith_K (h₀ := X.base) I.ok.mod.kin T.oc.kC (thn (ha.run pos pins s σ H _ I h) fun us s1 hh => ?_) he hpl
  obtain ⟨vs, H1, I1, r1, v, rfl, q1⟩ := hh
  refine ⟨I1.kIn, ?_⟩
  match us, r1 with
  | [v'], .cons rv .nil =>
    have lim := I1.nolimit
    obtain ⟨mb, b1, b2⟩ := I1.mod.blt
    have G1 := I1.mod.glob.keeps I1.bk
    have B1 := b1.keeps I1.bk
    obtain ⟨hp, g, dr, tk, os⟩ := s1
    show wpAny _ _ (call (.ref C) [v']) _ _ _
    refine wpAny_call (x_made T I1.kIn G1 B1 (b2 "super" (by decide)) lim (by have := hr.dp; omega) fun h' tk' e d M => ?_)
    show MkP X pins σ Q (.ref e) ⟨h', g, dr, tk', os⟩
    obtain ⟨oe, fv, hoe, hc, hd, hdat, h1⟩ := M.obj
    obtain ⟨G', g1, g2⟩ := restrict h' fun b => decide (b ≠ e)
    have gk : ∀ b, b ≠ e → G'.get? b = h'.get? b := fun b hb => g1 b (decide_eq_true hb)
    have ge : G'.get? e = none := g2 e (by simp)
    have old : ∀ b o, hp.get? b = some o → G'.get? b = some o := fun b o z => (gk b (Nat.ne_of_lt (Nat.lt_of_lt_of_le (Heap.lt_size z) M.new))).trans (M.keep b o z)
    have ob : ObjOk X.prog X.w (upd H1 d (.xd [(fld, v)])) G' d (.xd [(fld, v)]) :=
      ⟨_, M.ns.at (fun o z => (gk d M.ne).trans z), relO_put (fs := []) rv fun g => True.intro⟩
    have J : Inv X pins σ (upd H1 d (.xd [(fld, v)])) ⟨G', g, dr, tk', os⟩ := I1.laid (t' := tk') old M.big ob
    refine ⟨e, oe, fv, ⟨G', g, dr, tk', os⟩, _, .ref C, some d, rfl, J, fun b o z => ?_, ge, hoe, ⟨hc, hd⟩, hdat, h1, ?_, rfl, I1.bare, raises_own T.oc.exC T.oc.tyC, q1 d (I1.hok.fresh M.big)⟩
    · by_cases hb : b = e
      · subst hb
        exact absurd (ge.symm.trans z) (by simp)
      · exact (gk b hb).symm.trans z
    · rw [upd_ne (Ne.symm M.ne)]
      exact I1.hok.fresh M.new
/-- raise x(e), out of the def -/
theorem ps_x {a : Expr} {ta : TA} {W : WX} {p pos pos2 : Pos} {k : Nat} (hc : X.calm = true) (T : XTxt X.prog X.K X.mg x qual fld st C) (hr : Room k X.A) (tk : Takes X W) (ha : PA X [a] ta) (hg : Gl X x := by rfl) (hdb : (x == ("__debug__" : Str)) = false := by decide)
    (he : starEach (a :: []) X.env = (false, eval a X.env) :: starEach [] X.env := by rfl) (hpl : (backTo pos (starEach [] X.env)).any (·.1) = false := by rfl) :
    PS X (.Raise (some (.Call (.Name x p) [a] [] pos)) none pos2) (fun _ σ H => tXMk C fld ta σ H fun cls d H' => W cls d σ H') := ps_raise hc tk (pmk_x T hr ha hg hdb he hpl)
end
end G

/-! part Stat -/
/-! C.m(..), m a staticmethod of the class C. -/
namespace G
open PySem PySem.Spec PyProof.Rows L2
/-- K's words of a staticmethod m of the class at C: its record at p, its def at g -/
structure SWd (K : PySem.W.Frag) (C : Addr) (mc : Value) (m : Str) (p g : Addr) : Prop where
  at_ : PySem.W.findCls K (.ref C) mc m = some (.get (.builtin "staticmethod.__get__") (.ref p) .none (.ref C))
  rc : ∃ rest, PySem.W.recIn K p "staticmethod" = some (.ref g :: rest)
  kp : PySem.W.keepIn K (.ref g) = true
structure StF (K : PySem.W.Frag) (C : Addr) (m qual : Str) (st : Stmt) : Prop where
  ex : ∃ (mc : Value) (p f : Addr) (fd : FuncData), ClX.CRead K C mc ∧ SWd K C mc m p f ∧ FunD K m qual (defArgs st) (defBody st) (defScope st) [] [] f fd
structure Sta (P : Program) (w : World) (K : PySem.W.Frag) (mg : Str → Option Value) (base : Heap) (k : Nat) (C : Addr) (m : Str) (sp : Sp) : Prop where
  ex : ∃ (mc : Value) (p f : Addr) (fd : FuncData) (ps : List Str), FnOk P w K mg base (L2.CX P w) k f fd ps sp ∧ ClX.CRead K C mc ∧ SWd K C mc m p f ∧ Binds K fd ps []
theorem StF.sta {P : Program} {w : World} {K : PySem.W.Frag} {mg : Str → Option Value} {base : Heap} {C : Addr} {m qual : Str} {st : Stmt} {N ps : List Str} {k : Nat} {sp : Sp} (F : StF K C m qual st) (S : FnScope N ps (defScope st)) (b : BindsNo m qual st ps) (len : ∀ vs H Q E, sp vs H Q E → vs.length = ps.length)
    (body : BodyOk P w K mg base N qual st k sp) : Sta P w K mg base (k + 1) C m sp := by
  obtain ⟨mc, p, f, fd, r, W, D⟩ := F.ex
  exact ⟨mc, p, f, fd, ps, D.ok S len (body f), r, W, D.bindsN b⟩
def tSta (C : Addr) (sp : Sp) (E : XK) (ta : TE) (t : TA) : TE := fun σ H Q => ta σ H fun x H1 => x = .ref C ∧ t σ H1 fun vs H2 => sp vs H2 Q E
section
variable {X : Cx} {k j : Nat} {m : Str} {C : Addr} {sp : Sp} {e o : Expr} {es : List Expr} {ta : TE} {t : TA} {pos apos : Pos} {E : XK} {pl : Sem Bool}
theorem get_st {pins : List (Addr × Obj)} {σ : L2.St} {H : Hp} {s : Shared} {A : Around} {E : Value → Shared → Prop} {mc : Value} {p g : Addr} {Q : Value × List Value → Shared → Prop} (I : Inv X pins σ H s) (r : ClX.CRead X.K C mc) (W : SWd X.K C mc m p g) (q : ∀ s', Inv X pins σ H s' → Q (.ref g, []) s') : wpAny (model X.prog X.w) A (getMethod (.ref C) m pl) Q E s := by
  obtain ⟨rest, hp⟩ := W.rc
  refine PySem.W.method_cls I.kIn r.ga (PySem.W.cls_bind I.kIn r.rd W.at_ ?_)
  exact wpAny_call (PySem.W.sm_get (s := { s with toks := s.toks + 1 }) I.kIn hp (PySem.W.handed_on rfl (q _ (I.tok _))))
theorem pe_st (c : Sta X.prog X.w X.K X.mg X.base k C m sp) (hr : Room j X.A) (hk : k ≤ j) (ho : PE X o ta) (ha : PA X (e :: es) t) (hx : Passes (L2.CX X.prog X.w) X E)
    (hst : starEach (e :: es) X.env = (false, eval e X.env) :: starEach es X.env := by rfl) (hpl : (backTo pos (starEach es X.env)).any (·.1) = false := by rfl)
    (ht : eval (.Call (.Attribute o m apos) (e :: es) [] pos) X.env = (do
      let u ← eval o X.env
      standAt apos.atName
      let (g, us) ← holding [u] (getMethod u m pl)
      callWith pos g us (backTo pos (starEach (e :: es) X.env)) (backToKw pos (keywordEach [] X.env))) := by rfl) : PE X (.Call (.Attribute o m apos) (e :: es) [] pos) (tSta C sp E ta t) := by
  obtain ⟨mc, p, g, fd, ps, F, r, W, b⟩ := c.ex
  refine ⟨fun pins s σ H Q I h => ?_⟩
  refine PySem.W.methodCall_KW (pl := pl) (thn (ho.run pins s σ H _ I h) fun u s1 ⟨x, H1, I1, rx, ex, q⟩ => ?_) ht
  subst ex
  obtain rfl : u = Value.ref C := rx
  refine get_st I1 r W fun s2 I2 => ?_
  refine PySem.W.callWith_K (first := []) (h₀ := X.base) I2.ok.mod.kin W.kp (thn (ha.run pos pins s2 σ H1 _ I2 q) fun us s3 ⟨vs, H2, I3, rv, q2⟩ => ⟨I3.kIn, ?_⟩) hst hpl
  exact run_fn F (hr.mono hk) b .nil hx I3 rv (by rw [List.append_nil]; exact q2)
theorem pe_st0 (c : Sta X.prog X.w X.K X.mg X.base k C m sp) (hr : Room j X.A) (hk : k ≤ j) (ho : PE X o ta) (hx : Passes (L2.CX X.prog X.w) X E)
    (ht : eval (.Call (.Attribute o m apos) [] [] pos) X.env = (do
      let u ← eval o X.env
      standAt apos.atName
      let (g, us) ← holding [u] (getMethod u m pl)
      callWith pos g us (backTo pos (starEach [] X.env)) (backToKw pos (keywordEach [] X.env))) := by rfl) : PE X (.Call (.Attribute o m apos) [] [] pos) (tSta C sp E ta tNil) := by
  obtain ⟨mc, p, g, fd, ps, F, r, W, b⟩ := c.ex
  refine ⟨fun pins s σ H Q I h => ?_⟩
  refine PySem.W.methodCall_KW (pl := pl) (thn (ho.run pins s σ H _ I h) fun u s1 ⟨x, H1, I1, rx, ex, q⟩ => ?_) ht
  subst ex
  obtain rfl : u = Value.ref C := rx
  refine get_st I1 r W fun s2 I2 => ?_
  exact PySem.W.callWith_K0 (first := []) I2.kIn W.kp (run_fn F (hr.mono hk) b .nil hx I2 .nil q)
end
end G

/-! part HX -/
/-! What the head says, by a Hook of one's own: facts, defs wherever they stand, own exceptions, further tests. -/
namespace HX
open PySem PySem.Spec PyProof.Rows L2 G He
def asX (g : Addr → Option Obj) : Nat → List Addr
  | 0 => [mainGlobals, cStatics]
  | n + 1 => growD g (asX g n)
/-- what an object names, of a dict only what stands under these names -/
def refsP (ks : List Str) (o : Obj) : List Addr := match o.data with
  | .dict es _ => es.toList.flatMap fun e => match refV e.val with
    | [] => []
    | a :: r => (match ks.any fun k => e.key.isStr k with
      | true => a :: r
      | false => [])
  | _ => refsD o
def growP (ks : List Str) (g : Addr → Option Obj) (as : List Addr) : List Addr := (as ++ as.flatMap fun a => match g a with
  | some o => refsP ks o
  | none => []).eraseDups
def asP (ks : List Str) (g : Addr → Option Obj) : Nat → List Addr
  | 0 => [mainGlobals, cStatics]
  | n + 1 => growP ks g (asP ks g n)
/-- a def, wherever it stands -/
structure DX where
  ad : PySem.W.Frag → Addr
  name : Str
  qual : Str
  params : Arguments
  body : List Stmt
  scope : Scope
  dfl : List Dv := []
abbrev FnQ : Type := Option (Str × Str × Arguments × FuncBody × Scope × Addr × Addr)
def fnQ (K : PySem.W.Frag) (a : Addr) : FnQ := match K.lookup a with
  | some ⟨_, _, .func fd, _⟩ => some (fd.name, fd.qualname, fd.params, fd.body, fd.scope, fd.globals, fd.builtins)
  | _ => none
def DX.val (d : DX) : FnQ := some (d.name, d.qual, d.params, .stmts d.body, d.scope, mainGlobals, builtinsNs)
def DX.ok (K : PySem.W.Frag) (d : DX) : Bool := PySem.W.keepIn K (.ref (d.ad K)) && (match K.lookup (d.ad K) with
  | some ⟨_, _, .func fd, _⟩ => fd.closure.isEmpty && (PySem.W.codeIn K fd.code d.qual && dflB K fd.defaults (d.dfl.map (Dv.v K)))
  | _ => false)
theorem DX.funD {K : PySem.W.Frag} {d : DX} (e : fnQ K (d.ad K) = d.val) (c : d.ok K = true) : ∃ fd, FunD K d.name d.qual d.params d.body d.scope (d.dfl.map (Dv.v K)) [] (d.ad K) fd := by
  obtain ⟨kp, c2⟩ := ba c
  unfold fnQ at e
  cases q : K.lookup (d.ad K) with
  | none => rw [q] at c2; cases c2
  | some o =>
    obtain ⟨oc, od, dt, osl⟩ := o
    rw [q] at c2 e
    cases dt with
    | func fd =>
      obtain ⟨n1, n2, n3, n4, n5, n6, n7, n8, n9, n10, n11, n12, n13, n14, n15⟩ := fd
      have e2 : (some (n1, n2, n3, n4, n5, n6, n15) : FnQ) = some (d.name, d.qual, d.params, .stmts d.body, d.scope, mainGlobals, builtinsNs) := e
      simp only [Option.some.injEq, Prod.mk.injEq] at e2
      obtain ⟨h1, h2, h3, h4, h5, h6, h8⟩ := e2
      subst h1 h2 h3 h4 h5 h6 h8
      obtain ⟨k0, c3⟩ := ba (show (n7.isEmpty && (PySem.W.codeIn K n13 d.qual && dflB K n8 (d.dfl.map (Dv.v K)))) = true from c2)
      obtain ⟨k1, k3⟩ := ba c3
      have e7 : n7 = [] := List.isEmpty_iff.mp k0
      subst e7
      exact ⟨_, ⟨oc, od, n8, n9, n10, n11, n12, n13, n14, osl, rfl, q, k1, dflB_ok k3, .inl rfl⟩, kp⟩
    | _ => cases c2
/-- an own exception -/
structure XD where
  x : Str
  qual : Str
  fld : Str
  params : Arguments
  body : List Stmt
  scope : Scope
def iAd (x : Str) (K : PySem.W.Frag) : Addr := ma K (ga K x) "__init__"
def XD.val (d : XD) : FnQ := some ("__init__", d.qual, d.params, .stmts d.body, d.scope, mainGlobals, builtinsNs)
def slotsB : List (Option Value) → Bool
  | [_, _, _, _, some (.builtin n), _] => decide (n = "ValueError.__new__")
  | _ => false
theorem slotsB_ok : ∀ {sl : List (Option Value)}, slotsB sl = true → ∃ a0 a1 a2 a3 a5, sl = [a0, a1, a2, a3, some (.builtin "ValueError.__new__"), a5]
  | [a0, a1, a2, a3, some (.builtin n), a5], h => by
    have e : n = "ValueError.__new__" := of_decide_eq_true h
    subst e
    exact ⟨_, _, _, _, _, rfl⟩
def oexB (K : PySem.W.Frag) (C : Addr) : Bool := (match K.lookup C with
  | some ⟨.type t, _, .cls cd, sl⟩ => decide (t = "type") && (!cd.hasDel && (cd.hasDict && ((match cd.mro with
    | .ref C' :: bm => decide (C' = C) && PySem.HandSPX.refsVE bm
    | _ => false) && slotsB sl.toList)))
  | _ => false)
theorem oexB_ok {K : PySem.W.Frag} {C : Addr} (h : oexB K C = true) : ∃ nm q N bs bm sn sub ab col dd k0 k1 k2 k3 k5, K.lookup C = some (excClassObj nm q C N bs bm true sn sub ab col dd k0 k1 k2 k3 k5 "ValueError.__new__") ∧ PySem.HandSPX.refsVE bm = true := by
  unfold oexB at h
  cases q : K.lookup C with
  | none => rw [q] at h; cases h
  | some o =>
    obtain ⟨oc, od, dt, osl⟩ := o
    rw [q] at h
    cases oc with
    | type t =>
      cases dt with
      | cls cd =>
        obtain ⟨nm, bs, mro, N, qn, hd, sn, sb, ab, col, del⟩ := cd
        obtain ⟨h1, h⟩ := ba h
        obtain ⟨h2, h⟩ := ba h
        obtain ⟨h3, h⟩ := ba h
        obtain ⟨h4, h5⟩ := ba h
        cases mro with
        | nil => cases h4
        | cons m bm =>
          cases m with
          | ref C' =>
            obtain ⟨h6, h7⟩ := ba (show (decide (C' = C) && PySem.HandSPX.refsVE bm) = true from h4)
            have e1 : t = "type" := of_decide_eq_true h1
            have e2 : C' = C := of_decide_eq_true h6
            have e3 : hd = true := h3
            have e4 : del = false := by simpa using h2
            subst e1 e2 e3 e4
            obtain ⟨sl⟩ := osl
            obtain ⟨a0, a1, a2, a3, a5, e5⟩ := slotsB_ok h5
            have e6 : sl = [a0, a1, a2, a3, some (.builtin "ValueError.__new__"), a5] := e5
            subst e6
            exact ⟨_, _, _, _, _, _, _, _, _, _, _, _, _, _, _, rfl, h7⟩
          | _ => cases h4
      | _ => cases h
    | _ => cases dt <;> cases h
def eqV (a : Option Value) (b : Value) : Bool := decide (a = some b)
def fileB (file : Str) (vs : Array Value) : Bool := match (vs[2]? : Option Value) with
  | some (.str f _) => file == f
  | _ => false
theorem fileB_ok {file : Str} {vs : Array Value} (h : fileB file vs = true) : ∃ f tf, vs[2]? = some (.str f tf) ∧ (file == f) = true := by
  unfold fileB at h
  split at h
  · rename_i f tf e
    exact ⟨f, tf, e, h⟩
  · cases h
def cellB (C : Addr) : Option Obj → Bool
  | some ⟨_, _, .cell (some (.ref D)), _⟩ => decide (D = C)
  | _ => false
theorem cellB_ok {C : Addr} {o : Option Obj} (h : cellB C o = true) : ∃ cl cld csl, o = some ⟨cl, cld, .cell (some (.ref C)), csl⟩ := by
  cases o with
  | none => cases h
  | some o =>
    obtain ⟨cl, cld, dt, csl⟩ := o
    cases dt with
    | cell v =>
      cases v with
      | none => cases h
      | some v =>
        cases v with
        | ref D =>
          have e : D = C := of_decide_eq_true h
          subst e
          exact ⟨_, _, _, rfl⟩
        | _ => cases h
    | _ => cases h
def closB (K : PySem.W.Frag) (C : Addr) : List (Str × Addr) → Bool
  | [(c, cc)] => decide (c = ("__class__" : Str)) && cellB C (K.lookup cc)
  | _ => false
theorem closB_ok {K : PySem.W.Frag} {C : Addr} {l : List (Str × Addr)} (h : closB K C l = true) : ∃ cc cl cld csl, l = [(("__class__" : Str), cc)] ∧ K.lookup cc = some ⟨cl, cld, .cell (some (.ref C)), csl⟩ := by
  cases l with
  | nil => cases h
  | cons p r =>
    cases r with
    | cons _ _ => cases h
    | nil =>
      obtain ⟨c, cc⟩ := p
      obtain ⟨h1, h2⟩ := ba (show (decide (c = ("__class__" : Str)) && cellB C (K.lookup cc)) = true from h)
      obtain ⟨cl, cld, csl, e⟩ := cellB_ok h2
      have e1 : c = ("__class__" : Str) := of_decide_eq_true h1
      subst e1
      exact ⟨cc, cl, cld, csl, rfl, e⟩
def fldsB (file : Str) : Option Obj → Bool
  | some ⟨_, _, .fields vs, _⟩ => fileB file vs
  | _ => false
theorem fldsB_ok {file : Str} {o : Option Obj} (h : fldsB file o = true) : ∃ ccl cdd vs ccs f tf, o = some ⟨ccl, cdd, .fields vs, ccs⟩ ∧ vs[2]? = some (.str f tf) ∧ (file == f) = true := by
  cases o with
  | none => cases h
  | some o =>
    obtain ⟨cl, cld, dt, csl⟩ := o
    cases dt with
    | fields vs =>
      obtain ⟨f, tf, a, b⟩ := fileB_ok h
      exact ⟨_, _, _, _, f, tf, rfl, a, b⟩
    | _ => cases h
def xfnB (file : Str) (K : PySem.W.Frag) (x qual : Str) : Bool := (match K.lookup (iAd x K) with
  | some ⟨_, _, .func fd, _⟩ => closB K (ga K x) fd.closure && ((match fd.defaults with
    | .none => true
    | _ => false) && (match fd.code with
    | .ref cda => PySem.W.codeIn K (.ref cda) qual && fldsB file (K.lookup cda)
    | _ => false))
  | _ => false)
def XD.ok (file : Str) (K : PySem.W.Frag) (d : XD) : Bool :=
  oexB K (ga K d.x) && (eqO (PySem.W.findIn K (.ref (ga K d.x)) "__setattr__") (some (some (.builtin "object.__setattr__"))) && (decide (PySem.W.subIn K (.ref (ga K d.x)) (.type "BaseException") = some true) &&
  (eqV (PySem.W.typeIn K (.ref (ga K d.x))) (.type "type") && (PySem.W.keepIn K (.ref (ga K d.x)) && (eqO (PySem.W.findIn K (.ref (ga K d.x)) "__getattribute__") (some (some (.builtin "BaseException.__getattribute__"))) &&
  (eqO (PySem.W.findIn K (.ref (ga K d.x)) "__getattr__") (some none) && (PySem.W.hasDictIn K (ga K d.x) && (eqO (PySem.W.findIn K (.ref (ga K d.x)) d.fld) (some none) && (decide (PySem.W.subIn K (.ref (ga K d.x)) (.type "ValueError") = some true) &&
  (decide (PySem.W.mroIn K (ga K d.x) (.ref (ga K d.x)) = some true) && (eqO (PySem.W.nsIn K cStatics "thirdparty.any") (some none) && (eqO (PySem.W.ks_superIn K (ga K d.x) (ga K d.x) "__init__") (some (some (.builtin "ValueError.__init__"))) &&
  (eqO (PySem.W.findIn K (.ref (ga K d.x)) "__init__") (some (some (.ref (iAd d.x K)))) && (eqV (PySem.W.typeIn K (.ref (iAd d.x K))) (.type "function") && xfnB file K d.x d.qual))))))))))))))
theorem eqV_ok {a : Option Value} {b : Value} (h : eqV a b = true) : a = some b := of_decide_eq_true h
/-- the conclusion of XTxt, from what is looked at -/
theorem XD.txt {P : Program} {K : PySem.W.Frag} {mg : Str → Option Value} {x qual fld : Str} {st : Stmt} (e : fnQ K (iAd x K) = (XD.val ⟨x, qual, fld, defArgs st, defBody st, defScope st⟩))
    (c : (XD.mk x qual fld (defArgs st) (defBody st) (defScope st)).ok P.main.file K = true) (g : mg x = some (.ref (ga K x))) (sg : mg "super" = none) (top : (P.main.scope.names.lookup ("super" : Str)).isSome = false)
    (bd : ∃ (ar : Arg) (prm : Str) (body : List Stmt), XBody st qual fld ar prm body) : XTxt P K mg x qual fld st (ga K x) := by
  obtain ⟨c1, c⟩ := ba c
  obtain ⟨c2, c⟩ := ba c
  obtain ⟨c3, c⟩ := ba c
  obtain ⟨c4, c⟩ := ba c
  obtain ⟨c5, c⟩ := ba c
  obtain ⟨c6, c⟩ := ba c
  obtain ⟨c7, c⟩ := ba c
  obtain ⟨c8, c⟩ := ba c
  obtain ⟨c9, c⟩ := ba c
  obtain ⟨c10, c⟩ := ba c
  obtain ⟨c11, c⟩ := ba c
  obtain ⟨c12, c⟩ := ba c
  obtain ⟨c13, c⟩ := ba c
  obtain ⟨c14, c⟩ := ba c
  obtain ⟨c15, c16⟩ := ba c
  refine ⟨g, ⟨oexB_ok c1, eqO_ok c2, of_decide_eq_true c3, eqV_ok c4, c5⟩, eqO_ok c6, eqO_ok c7, c8, eqO_ok c9, of_decide_eq_true c10, of_decide_eq_true c11, eqO_ok c12, eqO_ok c13, sg, top, bd, ?_⟩
  dsimp only at c14 c15 c16
  unfold xfnB at c16
  unfold fnQ at e
  cases q : K.lookup (iAd x K) with
  | none => rw [q] at c16; cases c16
  | some o =>
    obtain ⟨oc, od, dt, osl⟩ := o
    rw [q] at c16 e
    cases dt with
    | func fd =>
      obtain ⟨n1, n2, n3, n4, n5, n6, n7, n8, n9, n10, n11, n12, n13, n14, n15⟩ := fd
      have e2 : (some (n1, n2, n3, n4, n5, n6, n15) : FnQ) = some (("__init__" : Str), qual, defArgs st, FuncBody.stmts (defBody st), defScope st, mainGlobals, builtinsNs) := e
      simp only [Option.some.injEq, Prod.mk.injEq] at e2
      obtain ⟨h1, h2, h3, h4, h5, h6, h8⟩ := e2
      subst h1 h2 h3 h4 h5 h6 h8
      obtain ⟨k1, k2⟩ := ba c16
      obtain ⟨k3, k4⟩ := ba k2
      dsimp only at k1 k3 k4
      obtain ⟨cc, cl, cld, csl, ec, hcc⟩ := closB_ok k1
      subst ec
      cases n8 with
      | none =>
        cases n13 with
        | ref cda =>
          obtain ⟨k7, k8⟩ := ba k4
          obtain ⟨ccl, cdd, vs, ccs, f, tf, hcd, hv, hf⟩ := fldsB_ok k8
          exact ⟨iAd x K, cc, cda, oc, od, n9, n10, n11, n14, n12, osl, ccl, cl, cdd, cld, vs, ccs, csl, f, tf, eqO_ok c14, eqV_ok c15, q, k7, hcc, hcd, hv, hf⟩
        | _ => cases k4
      | _ => cases k3
    | _ => cases c16
/-! ### further tests -/
def insB (x : Str) (K : PySem.W.Frag) : Bool := (Fa.cls x).ok K && (eqO (PySem.W.findIn K (.ref (ga K x)) "__class__") (some (some (.builtin "object.__class__"))) && (eqO (PySem.W.specialIn K (.builtin "object.__class__") "__get__") (some (some (.builtin "getset_descriptor.__get__"))) &&
  (decide (PySem.W.takesIn K (.builtin "object.__class__") = some true) && decide (PySem.W.mroIn K (ga K x) (.type "object") = some true))))
theorem insB_ok {K : PySem.W.Frag} {x : Str} (h : insB x K = true) : TR.InsF K (ga K x) := by
  obtain ⟨h1, h⟩ := ba h
  obtain ⟨h2, h⟩ := ba h
  obtain ⟨h3, h⟩ := ba h
  obtain ⟨h4, h5⟩ := ba h
  exact ⟨cls_ok h1, eqO_ok h2, eqO_ok h3, of_decide_eq_true h4, of_decide_eq_true h5⟩
def rdB (x : Str) (K : PySem.W.Frag) : Bool := PySem.W.readsIn K (ga K x) (.type "type") && eqO (PySem.W.specialIn K (.ref (ga K x)) "__getattribute__") (some (some (.builtin "type.__getattribute__")))
theorem rdB_ok {K : PySem.W.Frag} {x : Str} (h : rdB x K = true) : ClX.CRead K (ga K x) (.type "type") := by
  obtain ⟨h1, h2⟩ := ba h
  exact ⟨h1, eqO_ok h2⟩
/-- x.f is the constant v -/
def ccB (x f : Str) (v : V) (K : PySem.W.Frag) : Bool := rdB x K && (match PySem.W.findCls K (.ref (ga K x)) (.type "type") f with
  | some (.val u) => relB v u
  | _ => false)
theorem ccB_ok {K : PySem.W.Frag} {x f : Str} {v : V} (h : ccB x f v K = true) : CcF K (ga K x) f v := by
  obtain ⟨h1, h2⟩ := ba h
  split at h2
  · rename_i u e
    exact ⟨_, u, rdB_ok h1, e, relB_ok h2⟩
  · cases h2
/-- the def of the staticmethod x.m -/
def sAd (x m : Str) (K : PySem.W.Frag) : Addr := match PySem.W.findIn K (.ref (ga K x)) m with
  | some (some (.ref p)) => (match PySem.W.recIn K p "staticmethod" with
    | some (.ref g :: _) => g
    | _ => 0)
  | _ => 0
def stB (x m : Str) (K : PySem.W.Frag) : Bool := rdB x K && (match PySem.W.findCls K (.ref (ga K x)) (.type "type") m with
  | some (.get (.builtin b) (.ref p) .none (.ref C)) => decide (b = "staticmethod.__get__") && (decide (C = ga K x) && (PySem.W.keepIn K (.ref (sAd x m K)) && (match PySem.W.recIn K p "staticmethod" with
    | some (.ref g :: _) => decide (g = sAd x m K)
    | _ => false)))
  | _ => false)
theorem stB_ok {K : PySem.W.Frag} {x m qual : Str} {st : Stmt} (h : stB x m K = true) (F : ∃ fd, FunD K m qual (defArgs st) (defBody st) (defScope st) [] [] (sAd x m K) fd) : StF K (ga K x) m qual st := by
  obtain ⟨h1, h2⟩ := ba h
  obtain ⟨fd, F⟩ := F
  split at h2
  · rename_i b p C e
    obtain ⟨h3, h4⟩ := ba h2
    obtain ⟨h5, h6⟩ := ba h4
    obtain ⟨h7, h8⟩ := ba h6
    have e3 : b = "staticmethod.__get__" := of_decide_eq_true h3
    have e5 : C = ga K x := of_decide_eq_true h5
    subst e3 e5
    split at h8
    · rename_i g rest e8
      have e9 : g = sAd x m K := of_decide_eq_true h8
      subst e9
      exact ⟨_, p, _, fd, rdB_ok h1, ⟨e, ⟨rest, e8⟩, h7⟩, F⟩
    · cases h8
  · cases h2
/-! ### the Hook -/
abbrev AlX : Type := Bool × List FnQ
section
variable (ks : List Str) (file : Str) (fa : List Fa) (fn : List DX) (ex : List XD) (cs : List (PySem.W.Frag → Bool))
def obsX (K : PySem.W.Frag) : AlX := ((fa.all fun f => f.ok K) && ((fn.all fun d => d.ok K) && ((ex.all fun d => d.ok file K) && cs.all fun c => c K)), (fn.map fun d => fnQ K (d.ad K)) ++ ex.map fun d => fnQ K (iAd d.x K))
def valX : AlX := (true, fn.map DX.val ++ ex.map XD.val)
def SaysX (K : PySem.W.Frag) : Prop := obsX file fa fn ex cs K = valX fn ex
def obsXG (n : Nat) (g : Addr → Option Obj) : AlX := obsX file fa fn ex cs (frG g (asP ks g n))
def hookX (n : Nat) : PySem.W.Hook where
  α := AlX
  obs := fun s => obsXG ks file fa fn ex cs n s.heap.get?
  val := fun _ => valX fn ex
  says := fun _ h => ∃ K : PySem.W.Frag, K.In h ∧ SaysX file fa fn ex cs K
  of := fun _ _ e => ⟨_, frG_in, e⟩
  keeps := fun _ _ _ ⟨K, hK, c⟩ k => ⟨K, PySem.W.Frag.In.keeps hK k, c⟩
end
section
variable {file : Str} {fa : List Fa} {fn : List DX} {ex : List XD} {cs : List (PySem.W.Frag → Bool)}
theorem obsXG_eq {ks : List Str} {n : Nat} {g : Addr → Option Obj} {s : Shared} (h : ∀ a, g a = s.heap.get? a) : obsXG ks file fa fn ex cs n g = (hookX ks file fa fn ex cs n).obs s := by
  have e : g = s.heap.get? := funext h
  rw [e] <;> rfl
variable {K : PySem.W.Frag}
theorem SaysX.b (c : SaysX file fa fn ex cs K) : ((fa.all fun f => f.ok K) && ((fn.all fun d => d.ok K) && ((ex.all fun d => d.ok file K) && cs.all fun c => c K))) = true := congrArg (fun z : AlX => z.1) c
theorem SaysX.fact (c : SaysX file fa fn ex cs K) {f : Fa} (i : Nat) (h : fa[i]? = some f := by rfl) : f.ok K = true := List.all_eq_true.mp (ba c.b).1 f (List.mem_of_getElem? h)
theorem SaysX.test (c : SaysX file fa fn ex cs K) {f : PySem.W.Frag → Bool} (i : Nat) (h : cs[i]? = some f := by rfl) : f K = true := List.all_eq_true.mp (ba (ba (ba c.b).2).2).2 f (List.mem_of_getElem? h)
theorem SaysX.vals (c : SaysX file fa fn ex cs K) : (fn.map fun d => fnQ K (d.ad K)) = fn.map DX.val ∧ (ex.map fun d => fnQ K (iAd d.x K)) = ex.map XD.val :=
  List.append_inj (congrArg (fun z : AlX => z.2) c) (by simp)
theorem SaysX.def_ (c : SaysX file fa fn ex cs K) {d : DX} (i : Nat) (h : fn[i]? = some d := by rfl) : ∃ fd, FunD K d.name d.qual d.params d.body d.scope (d.dfl.map (Dv.v K)) [] (d.ad K) fd := by
  have e2 : (fn.map fun d => fnQ K (d.ad K))[i]? = (fn.map DX.val)[i]? := by rw [c.vals.1]
  rw [List.getElem?_map, List.getElem?_map, h] at e2
  exact DX.funD (Option.some.inj e2) (List.all_eq_true.mp (ba (ba c.b).2).1 d (List.mem_of_getElem? h))
theorem SaysX.exc (c : SaysX file fa fn ex cs K) {d : XD} (i : Nat) (h : ex[i]? = some d := by rfl) : fnQ K (iAd d.x K) = d.val ∧ d.ok file K = true := by
  have e2 : (ex.map fun d => fnQ K (iAd d.x K))[i]? = (ex.map XD.val)[i]? := by rw [c.vals.2]
  rw [List.getElem?_map, List.getElem?_map, h] at e2
  exact ⟨Option.some.inj e2, List.all_eq_true.mp (ba (ba (ba c.b).2).2).1 d (List.mem_of_getElem? h)⟩
end
end HX

/-! part Prp -/
/-! o.f, f a property of the object's class. -/
namespace G
open PySem PySem.Spec PyProof.Rows L2
structure PrpF (K : PySem.W.Frag) (C : Addr) (m qual : Str) (st : Stmt) : Prop where
  ex : ∃ (p f : Addr) (fd : FuncData), PropOf K C m p f ∧ FunD K m qual (defArgs st) (defBody st) (defScope st) [] [] f fd
structure Prp (P : Program) (w : World) (K : PySem.W.Frag) (mg : Str → Option Value) (base : Heap) (k : Nat) (C : Addr) (m : Str) (sp : Sp) : Prop where
  ex : ∃ (p f : Addr) (fd : FuncData) (ps : List Str), FnOk P w K mg base (L2.CX P w) k f fd ps sp ∧ PropOf K C m p f ∧ Binds K fd ps [] ∧ Cls K C
theorem PrpF.prp {P : Program} {w : World} {K : PySem.W.Frag} {mg : Str → Option Value} {base : Heap} {C : Addr} {m qual : Str} {st : Stmt} {N ps : List Str} {k : Nat} {sp : Sp} (F : PrpF K C m qual st) (cl : Cls K C) (S : FnScope N ps (defScope st)) (b : BindsNo m qual st ps) (len : ∀ vs H Q E, sp vs H Q E → vs.length = ps.length)
    (body : BodyOk P w K mg base N qual st k sp) : Prp P w K mg base (k + 1) C m sp := by
  obtain ⟨p, f, fd, r, D⟩ := F.ex
  exact ⟨p, f, fd, ps, D.ok S len (body f), r, D.bindsN b, cl⟩
section
variable {X : Cx} {k j : Nat} {m : Str} {C : Addr} {sp : Sp} {e : Expr} {ta : TE} {pos : Pos} {E : XK}
/-- a if c else b, tested -/
def tIfT (t ta tb : TT) : TT := fun σ H Q => t σ H fun c H1 => if c = true then ta σ H1 Q else tb σ H1 Q
theorem pt_ifE {X : Cx} {c a b : Expr} {pos : Pos} {tA ta tb : TT} (hc : PT X c tA) (ha : PT X a ta) (hb : PT X b tb) : PT X (.IfExp c a b pos) (tIfT tA ta tb) := by
  refine ⟨fun pins s σ H Q I h => ?_⟩
  show wpAny _ _ (do
    if ← isTrue c X.env (eval c X.env) then isTrue a X.env (eval a X.env) else isTrue b X.env (eval b X.env)) _ _ _
  refine wpAny_bind (thn (hc.run pins s σ H _ I h) fun d s1 ⟨H1, I1, q1⟩ => ?_)
  cases d with
  | true => exact ha.run pins s1 σ H1 Q I1 q1
  | false => exact hb.run pins s1 σ H1 Q I1 q1
/-- what is never reached -/
theorem pe_no {X : Cx} {e : Expr} : PE X e (fun _ _ _ => False) := ⟨fun _ _ _ _ _ _ h => h.elim⟩
theorem ps_no {X : Cx} {e : Stmt} : PS X e (fun _ _ _ => False) := ⟨fun _ _ _ _ _ _ h => h.elim⟩
theorem pe_p (c : Prp X.prog X.w X.K X.mg X.base k C m sp) (hr : Room j X.A) (hk : k + 1 ≤ j) (he : PE X e ta) (hx : Passes (L2.CX X.prog X.w) X.nox E) (hab : attributeBase e m X.env (eval e X.env) = eval e X.env := by rfl) : PE X (.Attribute e m pos) (tProp C sp [] E ta) := by
  obtain ⟨p, f, fd, ps, F, hp, hb, cl⟩ := c.ex
  exact pe_prop he cl hp F (hr.mono hk) hb .nil hx hab
end
end G

/-! part HXp -/
/-! What the head says of properties and of defaults that are empty tuples. -/
namespace HX
open PySem PySem.Spec PyProof.Rows L2 G He
/-- the getter of the property x.m -/
def prAd (x m : Str) (K : PySem.W.Frag) : Addr := match PySem.W.findIn K (.ref (ga K x)) m with
  | some (some (.ref p)) => (match PySem.W.recIn K p "property" with
    | some (.ref g :: _) => g
    | _ => 0)
  | _ => 0
def prB (x m : Str) (K : PySem.W.Frag) : Bool := match PySem.W.findIn K (.ref (ga K x)) m with
  | some (some (.ref p)) => eqO (PySem.W.specialIn K (.ref p) "__get__") (some (some (.builtin "property.__get__"))) && (decide (PySem.W.takesIn K (.ref p) = some true) && (match PySem.W.recIn K p "property" with
    | some (.ref g :: _) => decide (g = prAd x m K)
    | _ => false))
  | _ => false
theorem prB_ok {K : PySem.W.Frag} {x m qual : Str} {st : Stmt} (h : prB x m K = true) (F : ∃ fd, FunD K m qual (defArgs st) (defBody st) (defScope st) [] [] (prAd x m K) fd) : PrpF K (ga K x) m qual st := by
  obtain ⟨fd, F⟩ := F
  unfold prB at h
  split at h
  · rename_i p e
    obtain ⟨h1, h⟩ := ba h
    obtain ⟨h2, h3⟩ := ba h
    split at h3
    · rename_i g rest e3
      have e4 : g = prAd x m K := of_decide_eq_true h3
      subst e4
      exact ⟨p, _, fd, ⟨e, eqO_ok h1, of_decide_eq_true h2, ⟨rest, e3⟩⟩, F⟩
    · cases h3
  · cases h
/-- an empty tuple -/
def etB (ad : PySem.W.Frag → Addr) (K : PySem.W.Frag) : Bool := match K.lookup (ad K) with
  | some ⟨.type t, _, .seq its _, _⟩ => decide (t = "tuple") && its.toList.isEmpty
  | _ => false
theorem etB_ok {K : PySem.W.Frag} {ad : PySem.W.Frag → Addr} (h : etB ad K = true) : ∀ H, SqT K H (ad K) [] := fun H => by
  unfold etB at h
  split at h
  · rename_i t od its n sl e
    obtain ⟨h1, h2⟩ := ba h
    have e1 : t = "tuple" := of_decide_eq_true h1
    subst e1
    have e2 := List.isEmpty_iff.mp h2
    refine .inr ⟨_, its, n, e, rfl, rfl, ?_, by rw [e2]; exact .nil⟩
    rw [← Array.length_toList, e2]
    exact Nat.zero_le _
  · cases h
end HX

/-! part HXs -/
/-! The head's run, looked at in parts. -/
namespace HX
open PySem PySem.W PySem.Calls PySem.Spec PyProof.Rows L2 G He HandSHeadRun
/-- what the run ends in, looked at by g -/
def RunG (r : OpenRow) (M : Nat) (w : World) {β : Type} (g : SharedT → β) (v : β) : Prop :=
  ∀ os : OsState, (endF (stepQ (denQ tabQ) r.prog w) M r.prog w os).map g = some v
theorem RunG.ex {r : OpenRow} {M : Nat} {w : World} {β : Type} {g : SharedT → β} {v : β} (h : RunG r M w g v) (os : OsState) : ∃ s, endF (stepQ (denQ tabQ) r.prog w) M r.prog w os = some s ∧ g s = v := Option.map_eq_some_iff.mp (h os)
section
variable {r : OpenRow} {M : Nat} {w : World} {β γ : Type}
theorem RunG.get {g : SharedT → β} {v : β} (h : RunG r M w g v) {os : OsState} {s : SharedT} (e : endF (stepQ (denQ tabQ) r.prog w) M r.prog w os = some s) : g s = v := by
  obtain ⟨t, e1, e2⟩ := h.ex os
  rw [e] at e1
  cases e1
  exact e2
/-- a Bool and a list, each in two parts -/
theorem RunG.and {f g : SharedT → Bool} (h : RunG r M w f true) (k : RunG r M w g true) : RunG r M w (fun s => f s && g s) true := fun os => by
  obtain ⟨s, e, a⟩ := h.ex os
  have b := k.get e
  rw [e]
  show some (f s && g s) = some true
  rw [a, b]
  rfl
theorem RunG.app {f g : SharedT → List β} {x y : List β} (h : RunG r M w f x) (k : RunG r M w g y) : RunG r M w (fun s => f s ++ g s) (x ++ y) := fun os => by
  obtain ⟨s, e, a⟩ := h.ex os
  have b := k.get e
  rw [e]
  show some (f s ++ g s) = some (x ++ y)
  rw [a, b]
theorem RunG.pair {f : SharedT → β} {g : SharedT → γ} {x : β} {y : γ} (h : RunG r M w f x) (k : RunG r M w g y) : RunG r M w (fun s => (f s, g s)) (x, y) := fun os => by
  obtain ⟨s, e, a⟩ := h.ex os
  have b := k.get e
  rw [e]
  show some (f s, g s) = some (x, y)
  rw [a, b]
theorem RunG.cast {f f' : SharedT → β} {x x' : β} (h : RunG r M w f x) (e : ∀ s, f' s = f s) (e2 : x' = x) : RunG r M w f' x' := fun os => by
  rw [e2, show f' = f from funext e]
  exact h os
end
/-- the fragment that is looked at: what stands at these addresses -/
def frS (as : List Addr) (s : SharedT) : PySem.W.Frag := frG (HandSHeadRun.getT s) as
section
variable (as : List Addr) (file : Str) (fa : List Fa) (fn : List DX) (ex : List XD) (cs : List (PySem.W.Frag → Bool))
def obsL (g : Addr → Option Obj) : AlX := obsX file fa fn ex cs (frG g as)
def hookL : PySem.W.Hook where
  α := AlX
  obs := fun s => obsL as file fa fn ex cs s.heap.get?
  val := fun _ => valX fn ex
  says := fun _ h => ∃ K : PySem.W.Frag, K.In h ∧ SaysX file fa fn ex cs K
  of := fun _ _ e => ⟨_, frG_in, e⟩
  keeps := fun _ _ _ ⟨K, hK, c⟩ k => ⟨K, PySem.W.Frag.In.keeps hK k, c⟩
end
theorem obsL_eq {as : List Addr} {file : Str} {fa : List Fa} {fn : List DX} {ex : List XD} {cs : List (PySem.W.Frag → Bool)} {g : Addr → Option Obj} {s : Shared} (h : ∀ a, g a = s.heap.get? a) : obsL as file fa fn ex cs g = (hookL as file fa fn ex cs).obs s := by
  have e : g = s.heap.get? := funext h
  rw [e] <;> rfl
section
variable {r : OpenRow} {q : Program} {loose : List Str} {as : List Addr} {file : Str} {fa fa1 fa2 : List Fa} {fn fn1 fn2 : List DX} {ex : List XD} {cs : List (PySem.W.Frag → Bool)} {M : Nat} {w : World}
/-- the facts in parts -/
theorem runFa (e : fa = fa1 ++ fa2) (h : RunG r M w (fun s => fa1.all fun f => f.ok (frS as s)) true) (k : RunG r M w (fun s => fa2.all fun f => f.ok (frS as s)) true) : RunG r M w (fun s => fa.all fun f => f.ok (frS as s)) true :=
  (h.and k).cast (fun s => by rw [e, List.all_append]) rfl
def lookD (fn : List DX) (K : PySem.W.Frag) : Bool × List FnQ := (fn.all fun d => d.ok K, fn.map fun d => fnQ K (d.ad K))
theorem runFn (e : fn = fn1 ++ fn2) (h : RunG r M w (fun s => lookD fn1 (frS as s)) (true, fn1.map DX.val)) (k : RunG r M w (fun s => lookD fn2 (frS as s)) (true, fn2.map DX.val)) : RunG r M w (fun s => lookD fn (frS as s)) (true, fn.map DX.val) := fun os => by
  obtain ⟨s, e1, a⟩ := h.ex os
  have b := k.get e1
  rw [e1]
  show some (lookD fn (frS as s)) = some (true, fn.map DX.val)
  unfold lookD at a b ⊢
  have a1 := (Prod.mk.inj a).1
  have a2 := (Prod.mk.inj a).2
  have b1 := (Prod.mk.inj b).1
  have b2 := (Prod.mk.inj b).2
  rw [e, List.all_append, List.map_append, List.map_append, a1, a2, b1, b2]
  rfl
/-- the exceptions and the further tests -/
def lookX (file : Str) (ex : List XD) (cs : List (PySem.W.Frag → Bool)) (K : PySem.W.Frag) : Bool × List FnQ := ((ex.all fun d => d.ok file K) && cs.all fun c => c K, ex.map fun d => fnQ K (iAd d.x K))
/-- the run's equation, of parts -/
theorem runEq_of (hl : RunG r M w (fun s => looksF r.prog (boot_heap w.params) s.abs) true) (hs : RunG r M w (fun s => seenQ q loose (importedModules r.prog.main.body) (fun s => xlAt q [] s && recOk r.toRowW.records s) s.abs) (openGood q loose))
    (hf : RunG r M w (fun s => fa.all fun f => f.ok (frS as s)) true) (hd : RunG r M w (fun s => lookD fn (frS as s)) (true, fn.map DX.val)) (hx : RunG r M w (fun s => lookX file ex cs (frS as s)) (true, ex.map XD.val)) :
    HandSHeadRun.RunEq r q (hookL as file fa fn ex cs) (fun s => obsL as file fa fn ex cs (HandSHeadRun.getT s)) M loose w := fun os => by
  obtain ⟨s, e, a1⟩ := hl.ex os
  have a2 := hs.get e
  have a3 := hf.get e
  have a4 := hd.get e
  have a5 := hx.get e
  rw [e]
  show some (looksF r.prog (boot_heap w.params) s.abs, seenQ q loose (importedModules r.prog.main.body) (fun s => xlAt q [] s && recOk r.toRowW.records s) s.abs, obsL as file fa fn ex cs (HandSHeadRun.getT s)) = some (true, openGood q loose, valX fn ex)
  have eo : obsL as file fa fn ex cs (HandSHeadRun.getT s) = valX fn ex := by
    show obsX file fa fn ex cs (frS as s) = valX fn ex
    unfold obsX valX
    unfold lookD at a4
    unfold lookX at a5
    rw [a3, (Prod.mk.inj a4).1, (Prod.mk.inj a4).2, (Prod.mk.inj a5).1, (Prod.mk.inj a5).2]
    rfl
  rw [a1, a2, eo]
/-- .. of two -/
theorem runEq_of2 (h1 : RunG r M w (fun s => (looksF r.prog (boot_heap w.params) s.abs, seenQ q loose (importedModules r.prog.main.body) (fun s => xlAt q [] s && recOk r.toRowW.records s) s.abs)) (true, openGood q loose))
    (h2 : RunG r M w (fun s => obsL as file fa fn ex cs (HandSHeadRun.getT s)) (valX fn ex)) : HandSHeadRun.RunEq r q (hookL as file fa fn ex cs) (fun s => obsL as file fa fn ex cs (HandSHeadRun.getT s)) M loose w := fun os => by
  obtain ⟨s, e, a1⟩ := h1.ex os
  have a2 := h2.get e
  rw [e]
  show some (looksF r.prog (boot_heap w.params) s.abs, seenQ q loose (importedModules r.prog.main.body) (fun s => xlAt q [] s && recOk r.toRowW.records s) s.abs, obsL as file fa fn ex cs (HandSHeadRun.getT s)) = some (true, openGood q loose, valX fn ex)
  rw [(Prod.mk.inj a1).1, (Prod.mk.inj a1).2, a2]
end
end HX

/-! part T0 -/
namespace TR
open PySem PySem.Spec PyProof.Rows L2 G
def top (i : Nat) : Stmt := PySem.Challenge.pw_turnrings_k84_plans_beyond_the_map.main.body.getD i (.Pass ⟨0, 0, 0, 0⟩)
end TR

/-! part R84 -/
set_option maxHeartbeats 0
namespace TR
open PySem PySem.Spec PyProof.Rows L2 G He HX
abbrev r_law : Stmt := top 85
abbrev r_w_bag : Stmt := top 78
abbrev r_w_draw : Stmt := top 79
abbrev r_w_ident : Stmt := top 80
abbrev r_w_kinds : Stmt := top 81
abbrev r_w_steps : Stmt := top 82
abbrev r_w_normal : Stmt := top 83
abbrev r_w_taken_back : Stmt := top 84
abbrev r_is_name : Stmt := top 39
abbrev r_is_whole : Stmt := top 53
abbrev r_Turns_init : Stmt := inClass (top 61) 1
abbrev r_Turns_contains : Stmt := inClass (top 61) 7
abbrev r_is_arrow : Stmt := top 70
abbrev s_BadName_init : Stmt := inClass (top 20) 0
def x_BadName : XD := ⟨"BadName", "BadName.__init__", "name", defArgs s_BadName_init, defBody s_BadName_init, defScope s_BadName_init⟩
abbrev s_TwiceNamed_init : Stmt := inClass (top 21) 0
def x_TwiceNamed : XD := ⟨"TwiceNamed", "TwiceNamed.__init__", "name", defArgs s_TwiceNamed_init, defBody s_TwiceNamed_init, defScope s_TwiceNamed_init⟩
abbrev s_BadArrow_init : Stmt := inClass (top 33) 0
def x_BadArrow : XD := ⟨"BadArrow", "BadArrow.__init__", "index", defArgs s_BadArrow_init, defBody s_BadArrow_init, defScope s_BadArrow_init⟩
abbrev s_NoStation_init : Stmt := inClass (top 32) 0
def x_NoStation : XD := ⟨"NoStation", "NoStation.__init__", "name", defArgs s_NoStation_init, defBody s_NoStation_init, defScope s_NoStation_init⟩
abbrev r_Plan_init : Stmt := inClass (top 71) 0
abbrev r_is_part : Stmt := top 54
abbrev r_is_covered : Stmt := top 57
abbrev r_tidy_classes : Stmt := top 55
abbrev r_Numbers_init : Stmt := inClass (top 59) 0
abbrev r_Numbers_single : Stmt := inClass (top 59) 2
abbrev r_Turns_eq : Stmt := inClass (top 61) 9
abbrev r_is_claim : Stmt := top 63
abbrev r_Ring_init : Stmt := inClass (top 13) 0
abbrev r_Turns_period_of : Stmt := inClass (top 61) 2
abbrev r_RingMap_seat : Stmt := inClass (top 14) 2
abbrev r_RingMap_new_spot : Stmt := inClass (top 14) 1
abbrev r_RingMap_init : Stmt := inClass (top 14) 0
abbrev r_RingMap_add_fact : Stmt := inClass (top 14) 7
abbrev r_RingMap_close_up : Stmt := inClass (top 14) 14
abbrev r_map_of : Stmt := top 15
abbrev r_Book_init : Stmt := inClass (top 66) 0
abbrev r_Book_need_place : Stmt := inClass (top 66) 1
abbrev r_Trace_init : Stmt := inClass (top 72) 0
abbrev r_Numbers_bool : Stmt := inClass (top 59) 7
abbrev r_Plan_met : Stmt := inClass (top 71) 5
abbrev r_Plan_useful : Stmt := inClass (top 71) 6
abbrev r_Ring_place : Stmt := inClass (top 13) 1
abbrev r_RingMap_ring_at : Stmt := inClass (top 14) 15
abbrev r_modulus_at : Stmt := top 5
abbrev r_kept_step : Stmt := top 3
abbrev r_Ring_spot_at : Stmt := inClass (top 13) 2
abbrev r_from_spot : Stmt := top 4
abbrev r_beyond : Stmt := top 2
abbrev r_Numbers_last_until : Stmt := inClass (top 59) 25
abbrev r_Numbers_first_from : Stmt := inClass (top 59) 24
abbrev r_Numbers_nearest : Stmt := inClass (top 59) 26
abbrev r_Numbers_samples : Stmt := inClass (top 59) 10
abbrev r_Trace_arrive : Stmt := inClass (top 72) 1
abbrev r_Trace_follow : Stmt := inClass (top 72) 2
abbrev r_Trace_run_all : Stmt := inClass (top 72) 3
abbrev r_checked_trace : Stmt := top 73
abbrev r_Plan_way_out : Stmt := inClass (top 71) 7
abbrev r_Numbers_contains : Stmt := inClass (top 59) 6
abbrev r_Plan_takes : Stmt := inClass (top 71) 1
abbrev r_Plan_fault : Stmt := inClass (top 71) 3
abbrev r_reduced : Stmt := top 40
abbrev r_normal_steps : Stmt := top 41
abbrev r_Turns_rank : Stmt := inClass (top 61) 3
abbrev r_step_key : Stmt := top 42
abbrev r_Row_init : Stmt := inClass (top 44) 1
abbrev r_Plan_row_of : Stmt := inClass (top 71) 4
abbrev r_RingMap_after : Stmt := inClass (top 14) 16
abbrev r_RingMap_walk : Stmt := inClass (top 14) 17
abbrev r_Book_contains : Stmt := inClass (top 66) 3
abbrev r_bad_run : Stmt := top 74
abbrev r_sure : Stmt := top 75
abbrev r_table : Stmt := top 76
abbrev r_Plan_is_run : Stmt := inClass (top 71) 2
abbrev r_Turns_still : Stmt := inClass (top 61) 6
abbrev r_Row_eq : Stmt := inClass (top 44) 11
def d_law : DX := ⟨fun K => ga K "law", "law", "law", defArgs r_law, defBody r_law, defScope r_law, []⟩
def d_w_bag : DX := ⟨fun K => ga K "_law_bag", "_law_bag", "_law_bag", defArgs r_w_bag, defBody r_w_bag, defScope r_w_bag, []⟩
def d_w_draw : DX := ⟨fun K => ga K "_law_draw", "_law_draw", "_law_draw", defArgs r_w_draw, defBody r_w_draw, defScope r_w_draw, []⟩
def d_w_ident : DX := ⟨fun K => ga K "_law_ident", "_law_ident", "_law_ident", defArgs r_w_ident, defBody r_w_ident, defScope r_w_ident, []⟩
def d_w_kinds : DX := ⟨fun K => ga K "_law_kinds", "_law_kinds", "_law_kinds", defArgs r_w_kinds, defBody r_w_kinds, defScope r_w_kinds, []⟩
def d_w_steps : DX := ⟨fun K => ga K "_law_steps", "_law_steps", "_law_steps", defArgs r_w_steps, defBody r_w_steps, defScope r_w_steps, []⟩
def d_w_normal : DX := ⟨fun K => ga K "_law_normal", "_law_normal", "_law_normal", defArgs r_w_normal, defBody r_w_normal, defScope r_w_normal, []⟩
def d_w_taken_back : DX := ⟨fun K => ga K "_law_taken_back", "_law_taken_back", "_law_taken_back", defArgs r_w_taken_back, defBody r_w_taken_back, defScope r_w_taken_back, []⟩
def d_is_name : DX := ⟨fun K => ga K "is_name", "is_name", "is_name", defArgs r_is_name, defBody r_is_name, defScope r_is_name, []⟩
def d_is_whole : DX := ⟨fun K => ga K "is_whole", "is_whole", "is_whole", defArgs r_is_whole, defBody r_is_whole, defScope r_is_whole, []⟩
def d_Turns_init : DX := ⟨fun K => ma K (ga K "Turns") "__init__", "__init__", "Turns.__init__", defArgs r_Turns_init, defBody r_Turns_init, defScope r_Turns_init, []⟩
def d_Turns_contains : DX := ⟨fun K => ma K (ga K "Turns") "__contains__", "__contains__", "Turns.__contains__", defArgs r_Turns_contains, defBody r_Turns_contains, defScope r_Turns_contains, []⟩
def d_is_arrow : DX := ⟨fun K => ga K "is_arrow", "is_arrow", "is_arrow", defArgs r_is_arrow, defBody r_is_arrow, defScope r_is_arrow, []⟩
def d_Plan_init : DX := ⟨fun K => ma K (ga K "Plan") "__init__", "__init__", "Plan.__init__", defArgs r_Plan_init, defBody r_Plan_init, defScope r_Plan_init, []⟩
def d_is_part : DX := ⟨fun K => ga K "is_part", "is_part", "is_part", defArgs r_is_part, defBody r_is_part, defScope r_is_part, []⟩
def d_is_covered : DX := ⟨fun K => ga K "is_covered", "is_covered", "is_covered", defArgs r_is_covered, defBody r_is_covered, defScope r_is_covered, []⟩
def d_tidy_classes : DX := ⟨fun K => ga K "tidy_classes", "tidy_classes", "tidy_classes", defArgs r_tidy_classes, defBody r_tidy_classes, defScope r_tidy_classes, []⟩
def d_Numbers_init : DX := ⟨fun K => ma K (ga K "Numbers") "__init__", "__init__", "Numbers.__init__", defArgs r_Numbers_init, defBody r_Numbers_init, defScope r_Numbers_init, [.adr (dflAt ("Numbers", some "__init__") 0)]⟩
def d_Numbers_single : DX := ⟨sAd "Numbers" "single", "single", "Numbers.single", defArgs r_Numbers_single, defBody r_Numbers_single, defScope r_Numbers_single, []⟩
def d_Turns_eq : DX := ⟨fun K => ma K (ga K "Turns") "__eq__", "__eq__", "Turns.__eq__", defArgs r_Turns_eq, defBody r_Turns_eq, defScope r_Turns_eq, []⟩
def d_is_claim : DX := ⟨fun K => ga K "is_claim", "is_claim", "is_claim", defArgs r_is_claim, defBody r_is_claim, defScope r_is_claim, []⟩
def d_Ring_init : DX := ⟨fun K => ma K (ga K "Ring") "__init__", "__init__", "Ring.__init__", defArgs r_Ring_init, defBody r_Ring_init, defScope r_Ring_init, []⟩
def d_Turns_period_of : DX := ⟨fun K => ma K (ga K "Turns") "period_of", "period_of", "Turns.period_of", defArgs r_Turns_period_of, defBody r_Turns_period_of, defScope r_Turns_period_of, []⟩
def d_RingMap_seat : DX := ⟨fun K => ma K (ga K "RingMap") "seat", "seat", "RingMap.seat", defArgs r_RingMap_seat, defBody r_RingMap_seat, defScope r_RingMap_seat, []⟩
def d_RingMap_new_spot : DX := ⟨fun K => ma K (ga K "RingMap") "new_spot", "new_spot", "RingMap.new_spot", defArgs r_RingMap_new_spot, defBody r_RingMap_new_spot, defScope r_RingMap_new_spot, []⟩
def d_RingMap_init : DX := ⟨fun K => ma K (ga K "RingMap") "__init__", "__init__", "RingMap.__init__", defArgs r_RingMap_init, defBody r_RingMap_init, defScope r_RingMap_init, [.adr (dflAt ("RingMap", some "__init__") 0)]⟩
def d_RingMap_add_fact : DX := ⟨fun K => ma K (ga K "RingMap") "add_fact", "add_fact", "RingMap.add_fact", defArgs r_RingMap_add_fact, defBody r_RingMap_add_fact, defScope r_RingMap_add_fact, []⟩
def d_RingMap_close_up : DX := ⟨fun K => ma K (ga K "RingMap") "close_up", "close_up", "RingMap.close_up", defArgs r_RingMap_close_up, defBody r_RingMap_close_up, defScope r_RingMap_close_up, []⟩
def d_map_of : DX := ⟨fun K => ga K "map_of", "map_of", "map_of", defArgs r_map_of, defBody r_map_of, defScope r_map_of, []⟩
def d_Book_init : DX := ⟨fun K => ma K (ga K "Book") "__init__", "__init__", "Book.__init__", defArgs r_Book_init, defBody r_Book_init, defScope r_Book_init, [.adr (dflAt ("Book", some "__init__") 0)]⟩
def d_Book_need_place : DX := ⟨fun K => ma K (ga K "Book") "need_place", "need_place", "Book.need_place", defArgs r_Book_need_place, defBody r_Book_need_place, defScope r_Book_need_place, []⟩
def d_Trace_init : DX := ⟨fun K => ma K (ga K "Trace") "__init__", "__init__", "Trace.__init__", defArgs r_Trace_init, defBody r_Trace_init, defScope r_Trace_init, []⟩
def d_Numbers_bool : DX := ⟨fun K => ma K (ga K "Numbers") "__bool__", "__bool__", "Numbers.__bool__", defArgs r_Numbers_bool, defBody r_Numbers_bool, defScope r_Numbers_bool, []⟩
def d_Plan_met : DX := ⟨fun K => ma K (ga K "Plan") "met", "met", "Plan.met", defArgs r_Plan_met, defBody r_Plan_met, defScope r_Plan_met, []⟩
def d_Plan_useful : DX := ⟨fun K => ma K (ga K "Plan") "useful", "useful", "Plan.useful", defArgs r_Plan_useful, defBody r_Plan_useful, defScope r_Plan_useful, []⟩
def d_Ring_place : DX := ⟨fun K => ma K (ga K "Ring") "place", "place", "Ring.place", defArgs r_Ring_place, defBody r_Ring_place, defScope r_Ring_place, []⟩
def d_RingMap_ring_at : DX := ⟨fun K => ma K (ga K "RingMap") "ring_at", "ring_at", "RingMap.ring_at", defArgs r_RingMap_ring_at, defBody r_RingMap_ring_at, defScope r_RingMap_ring_at, []⟩
def d_modulus_at : DX := ⟨fun K => ga K "modulus_at", "modulus_at", "modulus_at", defArgs r_modulus_at, defBody r_modulus_at, defScope r_modulus_at, []⟩
def d_kept_step : DX := ⟨fun K => ga K "kept_step", "kept_step", "kept_step", defArgs r_kept_step, defBody r_kept_step, defScope r_kept_step, []⟩
def d_Ring_spot_at : DX := ⟨fun K => ma K (ga K "Ring") "spot_at", "spot_at", "Ring.spot_at", defArgs r_Ring_spot_at, defBody r_Ring_spot_at, defScope r_Ring_spot_at, []⟩
def d_from_spot : DX := ⟨fun K => ga K "from_spot", "from_spot", "from_spot", defArgs r_from_spot, defBody r_from_spot, defScope r_from_spot, []⟩
def d_beyond : DX := ⟨fun K => ga K "beyond", "beyond", "beyond", defArgs r_beyond, defBody r_beyond, defScope r_beyond, []⟩
def d_Numbers_last_until : DX := ⟨fun K => ma K (ga K "Numbers") "last_until", "last_until", "Numbers.last_until", defArgs r_Numbers_last_until, defBody r_Numbers_last_until, defScope r_Numbers_last_until, []⟩
def d_Numbers_first_from : DX := ⟨fun K => ma K (ga K "Numbers") "first_from", "first_from", "Numbers.first_from", defArgs r_Numbers_first_from, defBody r_Numbers_first_from, defScope r_Numbers_first_from, []⟩
def d_Numbers_nearest : DX := ⟨fun K => ma K (ga K "Numbers") "nearest", "nearest", "Numbers.nearest", defArgs r_Numbers_nearest, defBody r_Numbers_nearest, defScope r_Numbers_nearest, []⟩
def d_Numbers_samples : DX := ⟨fun K => ma K (ga K "Numbers") "samples", "samples", "Numbers.samples", defArgs r_Numbers_samples, defBody r_Numbers_samples, defScope r_Numbers_samples, []⟩
def d_Trace_arrive : DX := ⟨fun K => ma K (ga K "Trace") "arrive", "arrive", "Trace.arrive", defArgs r_Trace_arrive, defBody r_Trace_arrive, defScope r_Trace_arrive, []⟩
def d_Trace_follow : DX := ⟨fun K => ma K (ga K "Trace") "follow", "follow", "Trace.follow", defArgs r_Trace_follow, defBody r_Trace_follow, defScope r_Trace_follow, []⟩
def d_Trace_run_all : DX := ⟨fun K => ma K (ga K "Trace") "run_all", "run_all", "Trace.run_all", defArgs r_Trace_run_all, defBody r_Trace_run_all, defScope r_Trace_run_all, []⟩
def d_checked_trace : DX := ⟨fun K => ga K "checked_trace", "checked_trace", "checked_trace", defArgs r_checked_trace, defBody r_checked_trace, defScope r_checked_trace, []⟩
def d_Plan_way_out : DX := ⟨fun K => ma K (ga K "Plan") "way_out", "way_out", "Plan.way_out", defArgs r_Plan_way_out, defBody r_Plan_way_out, defScope r_Plan_way_out, []⟩
def d_Numbers_contains : DX := ⟨fun K => ma K (ga K "Numbers") "__contains__", "__contains__", "Numbers.__contains__", defArgs r_Numbers_contains, defBody r_Numbers_contains, defScope r_Numbers_contains, []⟩
def d_Plan_takes : DX := ⟨fun K => ma K (ga K "Plan") "takes", "takes", "Plan.takes", defArgs r_Plan_takes, defBody r_Plan_takes, defScope r_Plan_takes, []⟩
def d_Plan_fault : DX := ⟨fun K => ma K (ga K "Plan") "fault", "fault", "Plan.fault", defArgs r_Plan_fault, defBody r_Plan_fault, defScope r_Plan_fault, []⟩
def d_reduced : DX := ⟨fun K => ga K "reduced", "reduced", "reduced", defArgs r_reduced, defBody r_reduced, defScope r_reduced, []⟩
def d_normal_steps : DX := ⟨fun K => ga K "normal_steps", "normal_steps", "normal_steps", defArgs r_normal_steps, defBody r_normal_steps, defScope r_normal_steps, []⟩
def d_Turns_rank : DX := ⟨fun K => ma K (ga K "Turns") "rank", "rank", "Turns.rank", defArgs r_Turns_rank, defBody r_Turns_rank, defScope r_Turns_rank, []⟩
def d_step_key : DX := ⟨fun K => ga K "step_key", "step_key", "step_key", defArgs r_step_key, defBody r_step_key, defScope r_step_key, []⟩
def d_Row_init : DX := ⟨fun K => ma K (ga K "Row") "__init__", "__init__", "Row.__init__", defArgs r_Row_init, defBody r_Row_init, defScope r_Row_init, [.adr (dflAt ("Row", some "__init__") 0)]⟩
def d_Plan_row_of : DX := ⟨fun K => ma K (ga K "Plan") "row_of", "row_of", "Plan.row_of", defArgs r_Plan_row_of, defBody r_Plan_row_of, defScope r_Plan_row_of, []⟩
def d_RingMap_after : DX := ⟨fun K => ma K (ga K "RingMap") "after", "after", "RingMap.after", defArgs r_RingMap_after, defBody r_RingMap_after, defScope r_RingMap_after, []⟩
def d_RingMap_walk : DX := ⟨fun K => ma K (ga K "RingMap") "walk", "walk", "RingMap.walk", defArgs r_RingMap_walk, defBody r_RingMap_walk, defScope r_RingMap_walk, []⟩
def d_Book_contains : DX := ⟨fun K => ma K (ga K "Book") "__contains__", "__contains__", "Book.__contains__", defArgs r_Book_contains, defBody r_Book_contains, defScope r_Book_contains, []⟩
def d_bad_run : DX := ⟨fun K => ga K "bad_run", "bad_run", "bad_run", defArgs r_bad_run, defBody r_bad_run, defScope r_bad_run, []⟩
def d_sure : DX := ⟨fun K => ga K "sure", "sure", "sure", defArgs r_sure, defBody r_sure, defScope r_sure, []⟩
def d_table : DX := ⟨fun K => ga K "table", "table", "table", defArgs r_table, defBody r_table, defScope r_table, []⟩
def d_Plan_is_run : DX := ⟨fun K => ma K (ga K "Plan") "is_run", "is_run", "Plan.is_run", defArgs r_Plan_is_run, defBody r_Plan_is_run, defScope r_Plan_is_run, []⟩
def d_Turns_still : DX := ⟨prAd "Turns" "still", "still", "Turns.still", defArgs r_Turns_still, defBody r_Turns_still, defScope r_Turns_still, []⟩
def d_Row_eq : DX := ⟨fun K => ma K (ga K "Row") "__eq__", "__eq__", "Row.__eq__", defArgs r_Row_eq, defBody r_Row_eq, defScope r_Row_eq, []⟩
def fa0 : List He.Fa := [.free "len",
  .free "isinstance",
  .free "int",
  .free "str",
  .free "bool",
  .free "list",
  .free "tuple",
  .free "all",
  .free "any",
  .free "min",
  .free "max",
  .free "abs",
  .free "sum",
  .free "set",
  .free "sorted",
  .free "enumerate",
  .free "range",
  .free "dict",
  .free "zip",
  .glo "Numbers",
  .glo "_law_bag",
  .glo "_law_draw",
  .glo "_law_ident",
  .glo "_law_kinds",
  .glo "_law_steps",
  .glo "_law_normal",
  .glo "_law_taken_back",
  .cls "Row",
  .glo "Row",
  .noat "Row" "turns",
  .noat "Row" "steps",
  .noat "Row" "key",
  .cls "Turns",
  .glo "Turns",
  .noat "Turns" "pairs",
  .noat "Turns" "names",
  .noat "Turns" "periods",
  .noat "Turns" "ranks",
  .str "LETTERS" "abcdefghijklmnopqrstuvwxyz",
  .str "DIGITS" "0123456789",
  .int "LONGEST_NAME" 12,
  .glo "is_name",
  .glo "is_whole",
  .mkr "Turns",
  .cls "Plan",
  .glo "Plan",
  .noat "Plan" "turns",
  .noat "Plan" "stations",
  .noat "Plan" "arrows",
  .noat "Plan" "begin",
  .noat "Plan" "end",
  .meth "Turns" "__contains__",
  .glo "is_arrow",
  .free "super",
  .glo "BadName",
  .glo "TwiceNamed",
  .glo "BadArrow",
  .glo "NoStation",
  .mkr "Plan",
  .cls "Numbers",
  .noat "Numbers" "classes",
  .noat "Numbers" "singles",
  .glo "is_part",
  .glo "is_covered",
  .glo "tidy_classes",
  .mkr "Numbers",
  .cls "Book",
  .glo "Book",
  .noat "Book" "turns",
  .noat "Book" "places",
  .noat "Book" "facts",
  .noat "Book" "rings",
  .meth "Turns" "__eq__",
  .glo "is_claim",
  .cls "RingMap"]
def fa1 : List He.Fa := [.glo "RingMap",
  .noat "RingMap" "turns",
  .noat "RingMap" "circles",
  .noat "RingMap" "spots",
  .noat "RingMap" "lying",
  .noat "RingMap" "laid",
  .noat "RingMap" "drawn",
  .noat "RingMap" "spot_of",
  .cls "Ring",
  .glo "Ring",
  .noat "Ring" "number",
  .noat "Ring" "turn",
  .noat "Ring" "modulus",
  .noat "Ring" "seats",
  .mkr "Ring",
  .meth "Turns" "period_of",
  .meth "RingMap" "seat",
  .meth "RingMap" "new_spot",
  .mkr "RingMap",
  .meth "RingMap" "add_fact",
  .meth "RingMap" "close_up",
  .glo "map_of",
  .mkr "Book",
  .cls "Trace",
  .glo "Trace",
  .noat "Trace" "rings",
  .noat "Trace" "plan",
  .noat "Trace" "start",
  .noat "Trace" "states",
  .noat "Trace" "runs",
  .noat "Trace" "unlike",
  .meth "Book" "need_place",
  .mkr "Trace",
  .meth "Numbers" "__bool__",
  .meth "Plan" "met",
  .meth "Plan" "useful",
  .meth "Ring" "place",
  .meth "RingMap" "ring_at",
  .glo "modulus_at",
  .glo "kept_step",
  .meth "Ring" "spot_at",
  .glo "from_spot",
  .glo "beyond",
  .meth "Numbers" "last_until",
  .meth "Numbers" "first_from",
  .meth "Numbers" "nearest",
  .meth "Numbers" "samples",
  .meth "Trace" "arrive",
  .meth "Trace" "follow",
  .meth "Trace" "run_all",
  .glo "checked_trace",
  .meth "Plan" "way_out",
  .meth "Numbers" "__contains__",
  .meth "Plan" "takes",
  .meth "Plan" "fault",
  .glo "reduced",
  .glo "normal_steps",
  .meth "Turns" "rank",
  .glo "step_key",
  .mkr "Row",
  .meth "Plan" "row_of",
  .meth "RingMap" "after",
  .meth "RingMap" "walk",
  .meth "Book" "__contains__",
  .glo "bad_run",
  .glo "sure",
  .glo "table",
  .meth "Plan" "is_run",
  .meth "Row" "__eq__",
  .glo "law"]
def fa : List He.Fa := fa0 ++ fa1
def fn0 : List DX := [d_law,
  d_w_bag,
  d_w_draw,
  d_w_ident,
  d_w_kinds,
  d_w_steps,
  d_w_normal,
  d_w_taken_back,
  d_is_name,
  d_is_whole,
  d_Turns_init,
  d_Turns_contains,
  d_is_arrow,
  d_Plan_init,
  d_is_part,
  d_is_covered,
  d_tidy_classes,
  d_Numbers_init,
  d_Numbers_single,
  d_Turns_eq,
  d_is_claim,
  d_Ring_init,
  d_Turns_period_of,
  d_RingMap_seat,
  d_RingMap_new_spot,
  d_RingMap_init,
  d_RingMap_add_fact,
  d_RingMap_close_up,
  d_map_of,
  d_Book_init,
  d_Book_need_place,
  d_Trace_init,
  d_Numbers_bool,
  d_Plan_met,
  d_Plan_useful]
def fn1 : List DX := [d_Ring_place,
  d_RingMap_ring_at,
  d_modulus_at,
  d_kept_step,
  d_Ring_spot_at,
  d_from_spot,
  d_beyond,
  d_Numbers_last_until,
  d_Numbers_first_from,
  d_Numbers_nearest,
  d_Numbers_samples,
  d_Trace_arrive,
  d_Trace_follow,
  d_Trace_run_all,
  d_checked_trace,
  d_Plan_way_out,
  d_Numbers_contains,
  d_Plan_takes,
  d_Plan_fault,
  d_reduced,
  d_normal_steps,
  d_Turns_rank,
  d_step_key,
  d_Row_init,
  d_Plan_row_of,
  d_RingMap_after,
  d_RingMap_walk,
  d_Book_contains,
  d_bad_run,
  d_sure,
  d_table,
  d_Plan_is_run,
  d_Turns_still,
  d_Row_eq]
def fn : List DX := fn0 ++ fn1
def ex0 : List XD := [x_BadName,
  x_TwiceNamed,
  x_BadArrow,
  x_NoStation]
def ex : List XD := ex0
def cs0 : List (PySem.W.Frag → Bool) := [ccB "Turns" "MOST" (.int 8),
  insB "Numbers",
  stB "Numbers" "single",
  etB (dflAt ("Book", some "__init__") 0),
  insB "Row",
  insB "Turns",
  fun K => decide (PySem.W.mroIn K (ga K "Turns") (.type "object") = some true),
  fun K => eqO (PySem.W.findIn K (.ref (ga K "Turns")) "__ne__") (some (some (.builtin "object.__ne__"))),
  etB (dflAt ("Row", some "__init__") 0),
  prB "Turns" "still"]
def cs : List (PySem.W.Frag → Bool) := cs0
def kn0 : List Str := ["BadArrow",
  "BadName",
  "Book",
  "DIGITS",
  "LETTERS",
  "LONGEST_NAME",
  "MOST",
  "NoStation",
  "Numbers",
  "Plan",
  "Ring",
  "RingMap",
  "Row",
  "Trace",
  "Turns",
  "TwiceNamed",
  "__bool__",
  "__contains__",
  "__eq__",
  "__init__",
  "_law_bag",
  "_law_draw",
  "_law_ident",
  "_law_kinds",
  "_law_normal",
  "_law_steps",
  "_law_taken_back",
  "add_fact",
  "after",
  "arrive"]
def kn1 : List Str := ["bad_run",
  "beyond",
  "checked_trace",
  "close_up",
  "fault",
  "first_from",
  "follow",
  "from_spot",
  "is_arrow",
  "is_claim",
  "is_covered",
  "is_name",
  "is_part",
  "is_run",
  "is_whole",
  "kept_step",
  "last_until",
  "law",
  "map_of",
  "met",
  "modulus_at",
  "nearest",
  "need_place",
  "new_spot",
  "normal_steps",
  "period_of",
  "place",
  "rank",
  "reduced",
  "ring_at"]
def kn2 : List Str := ["row_of",
  "run_all",
  "samples",
  "seat",
  "single",
  "spot_at",
  "step_key",
  "still",
  "sure",
  "table",
  "takes",
  "tidy_classes",
  "useful",
  "walk",
  "way_out"]
def kn : List Str := kn0 ++ kn1 ++ kn2
def loose0 : List Str := ["_wall",
  "__name__",
  "beyond",
  "kept_step",
  "from_spot",
  "modulus_at",
  "common_divisor",
  "common_multiple",
  "combination",
  "inverse",
  "common_class",
  "Ring",
  "RingMap",
  "map_of",
  "DrawnMap",
  "TurnError",
  "BadName",
  "TwiceNamed",
  "BadPeriod",
  "NoTurns",
  "TooMany",
  "NoTurn",
  "OtherTurns",
  "BadText",
  "BadPart",
  "NoPlace",
  "OtherPlaces",
  "BadFact",
  "NoStation",
  "BadArrow"]
def loose1 : List Str := ["BadLine",
  "LETTERS",
  "DIGITS",
  "LONGEST_NAME",
  "is_name",
  "reduced",
  "normal_steps",
  "step_key",
  "read_step",
  "Row",
  "join_letter",
  "Tree",
  "facts_of_map",
  "PairMap",
  "common_facts",
  "is_whole",
  "is_part",
  "tidy_classes",
  "refined",
  "is_covered",
  "bare_number",
  "Numbers",
  "Turns",
  "is_claim",
  "same_names",
  "book_lines",
  "Book",
  "is_period",
  "Reader",
  "is_arrow"]
def loose2 : List Str := ["Plan",
  "Trace",
  "checked_trace",
  "bad_run",
  "sure",
  "table",
  "_law_bag",
  "_law_draw",
  "_law_ident",
  "_law_kinds",
  "_law_steps",
  "_law_normal",
  "_law_taken_back"]
def loose : List Str := loose0 ++ loose1 ++ loose2
abbrev RW : PySem.W.OpenRow := PySem.W.OpenLaw.row PySem.Challenge.rw_turnrings_k84_plans_beyond_the_map
abbrev qv : Program := PySem.W.view RW.prog [85]
abbrev PR : Program := (PySem.Challenge.rw_turnrings_k84_plans_beyond_the_map).prog
abbrev fileS : Str := PR.main.file

def asL0 : List Addr := [3,
  2,
  28,
  35,
  40,
  47,
  113,
  263,
  274,
  337,
  358,
  589,
  610,
  638,
  645,
  652,
  659,
  775,
  887,
  894,
  899,
  911,
  1128,
  1204,
  1215,
  1349,
  1419,
  1481,
  1523,
  1534,
  1541,
  1548,
  1553,
  1560,
  1567,
  1574,
  1579,
  1586,
  1593,
  1598,
  1603,
  27,
  34,
  39,
  46,
  112,
  262,
  273,
  336,
  315,
  357,
  588,
  609,
  637,
  644,
  651,
  658,
  774,
  886,
  893,
  898,
  910,
  1127,
  1203,
  1214,
  1348,
  1418,
  1480,
  1522,
  1533,
  1540,
  1547,
  1552,
  1559,
  1566,
  1573,
  1578,
  1585,
  1592,
  1597,
  1602,
  22,
  23,
  24,
  25,
  26,
  29,
  30,
  31,
  32,
  33,
  36,
  37,
  38,
  41,
  42,
  43,
  44,
  45,
  96]
def asL1 : List Addr := [103,
  110,
  133,
  140,
  147,
  178,
  225,
  232,
  239,
  246,
  268,
  269,
  270,
  271,
  272,
  334,
  314,
  355,
  586,
  607,
  634,
  635,
  636,
  639,
  640,
  641,
  642,
  643,
  646,
  647,
  648,
  649,
  650,
  653,
  654,
  655,
  656,
  657,
  678,
  725,
  746,
  881,
  882,
  883,
  884,
  885,
  888,
  889,
  890,
  891,
  892,
  895,
  896,
  897,
  907,
  908,
  909,
  930,
  949,
  980,
  987,
  1008,
  1049,
  1099,
  1104,
  1111,
  1144,
  1151,
  1158,
  1180,
  1187,
  1201,
  1209,
  1210,
  1211,
  1212,
  1213,
  1241,
  1248,
  1263,
  1329,
  1415,
  1416,
  1417,
  1433,
  1440,
  1447,
  1454,
  1459,
  1466,
  1471,
  1478,
  1499,
  1506,
  1513,
  1520,
  1528,
  1529,
  1530,
  1531]
def asL2 : List Addr := [1532,
  1535,
  1536,
  1537,
  1538,
  1539,
  1542,
  1543,
  1544,
  1545,
  1546,
  1549,
  1550,
  1551,
  1554,
  1555,
  1556,
  1557,
  1558,
  1561,
  1562,
  1563,
  1564,
  1565,
  1568,
  1569,
  1570,
  1571,
  1572,
  1575,
  1576,
  1577,
  1580,
  1581,
  1582,
  1583,
  1584,
  1587,
  1588,
  1589,
  1590,
  1591,
  1594,
  1595,
  1596,
  1599,
  1600,
  1601,
  95,
  102,
  109,
  132,
  126,
  139,
  146,
  177,
  224,
  231,
  238,
  245,
  333,
  322,
  354,
  343,
  585,
  574,
  606,
  595,
  677,
  673,
  724,
  745,
  929,
  925,
  947,
  948,
  979,
  986,
  1007,
  1048,
  1098,
  1103,
  1110,
  1143,
  1150,
  1157,
  1179,
  1186,
  1200,
  1240,
  1234,
  1247,
  1262,
  1328,
  1432,
  1439,
  1446,
  1453,
  1458,
  1465]
def asL3 : List Addr := [1470,
  1477,
  1498,
  1505,
  1512,
  1519,
  90,
  91,
  92,
  93,
  94,
  97,
  98,
  99,
  100,
  101,
  104,
  105,
  106,
  107,
  108,
  127,
  128,
  129,
  130,
  131,
  125,
  134,
  135,
  136,
  137,
  138,
  141,
  142,
  143,
  144,
  145,
  172,
  173,
  174,
  175,
  176,
  219,
  220,
  221,
  222,
  223,
  226,
  227,
  228,
  229,
  230,
  233,
  234,
  235,
  236,
  237,
  240,
  241,
  242,
  243,
  244,
  328,
  329,
  330,
  331,
  332,
  349,
  350,
  351,
  352,
  353,
  580,
  581,
  582,
  583,
  584,
  601,
  602,
  603,
  604,
  605,
  674,
  675,
  676,
  672,
  719,
  720,
  721,
  722,
  723,
  740,
  741,
  742,
  743,
  744,
  926,
  927,
  928,
  924]
def asL4 : List Addr := [946,
  974,
  975,
  976,
  977,
  978,
  981,
  982,
  983,
  984,
  985,
  1004,
  1005,
  1006,
  1043,
  1044,
  1045,
  1046,
  1047,
  1095,
  1096,
  1097,
  1100,
  1101,
  1102,
  1105,
  1106,
  1107,
  1108,
  1109,
  1140,
  1141,
  1142,
  1145,
  1146,
  1147,
  1148,
  1149,
  1152,
  1153,
  1154,
  1155,
  1156,
  1178,
  1181,
  1182,
  1183,
  1184,
  1185,
  1195,
  1196,
  1197,
  1198,
  1199,
  1235,
  1236,
  1237,
  1238,
  1239,
  1233,
  1242,
  1243,
  1244,
  1245,
  1246,
  1257,
  1258,
  1259,
  1260,
  1261,
  1325,
  1326,
  1327,
  1427,
  1428,
  1429,
  1430,
  1431,
  1434,
  1435,
  1436,
  1437,
  1438,
  1441,
  1442,
  1443,
  1444,
  1445,
  1448,
  1449,
  1450,
  1451,
  1452,
  1455,
  1456,
  1457,
  1460,
  1461,
  1462,
  1463]
def asL5 : List Addr := [1464,
  1467,
  1468,
  1469,
  1472,
  1473,
  1474,
  1475,
  1476,
  1493,
  1494,
  1495,
  1496,
  1497,
  1500,
  1501,
  1502,
  1503,
  1504,
  1507,
  1508,
  1509,
  1510,
  1511,
  1514,
  1515,
  1516,
  1517,
  1518]
def asL : List Addr := asL0 ++ asL1 ++ asL2 ++ asL3 ++ asL4 ++ asL5
abbrev hk : PySem.W.Hook := hookL asL fileS fa fn ex cs
def ob (s : PySem.W.SharedT) : AlX := obsL asL fileS fa fn ex cs (HandSHeadRun.getT s)
theorem ob_eq (s : PySem.W.SharedT) : ob s = hk.obs s.abs := obsL_eq (HandSHeadRun.getT_eq s)
open PySem.W HandSHeadRun in
theorem run_1 (w : World) : RunG RW 20000 w (fun s => (looksF RW.prog (boot_heap w.params) s.abs, seenQ qv loose (importedModules RW.prog.main.body) (fun s => xlAt qv [] s && recOk RW.toRowW.records s) s.abs)) (true, openGood qv loose) := by
  intro os
  kernel_rfl
theorem run_2 (w : World) : RunG RW 20000 w (fun s => obsL asL fileS fa fn ex cs (HandSHeadRun.getT s)) (valX fn ex) := by
  intro os
  kernel_rfl
theorem head_run (w : World) : HandSHeadRun.RunEq RW qv hk ob 20000 loose w := runEq_of2 (run_1 w) (run_2 w)
end TR

/-! part A1 -/
namespace TR
open PySem PySem.Spec PyProof.Rows L2 G
/-- the built-in names that the module leaves alone -/
structure Bt (mg : Str → Option Value) : Prop where
  len : mg "len" = none
  isinstance : mg "isinstance" = none
  int : mg "int" = none
  str : mg "str" = none
  bool : mg "bool" = none
  list : mg "list" = none
  tuple : mg "tuple" = none
  all : mg "all" = none
  any : mg "any" = none
  min : mg "min" = none
  max : mg "max" = none
  abs : mg "abs" = none
  sum : mg "sum" = none
  set : mg "set" = none
  sorted : mg "sorted" = none
  enumerate : mg "enumerate" = none
  range : mg "range" = none
  dict : mg "dict" = none
  zip : mg "zip" = none
section
variable {P : Program} {w : World} {K : PySem.W.Frag} {mg : Str → Option Value} {base : Heap}
abbrev s_is_whole : Stmt := top 53
abbrev N_is_whole : List Str := ["value"]
abbrev P_is_whole : List Str := ["value"]
theorem sc_is_whole : FnScope N_is_whole P_is_whole (defScope s_is_whole) := ⟨rfl, rfl, rfl, by decide +kernel, rfl, by decide +kernel, by decide +kernel⟩
theorem bn_is_whole : BindsNo "is_whole" "is_whole" s_is_whole P_is_whole := fun _ _ _ _ _ _ us hl => match us, hl with | [_], _ => rfl
def sp_is_whole : Sp := fun vs H Q _ => ∃ i : Int, vs = [.int i] ∧ ∀ H', Same H H' → Q (.bl true) H'
theorem ok_is_whole (B : Bt mg) (F : FnF K mg "is_whole" s_is_whole []) : Cal P w K mg base 1 "is_whole" sp_is_whole := by
  refine F.cal sc_is_whole bn_is_whole (fun vs H Q E h => ?_) (fun f cdv A outer s H vs Q E hr h => ?_)
  · obtain ⟨i, rfl, _⟩ := h
    rfl
  · obtain ⟨i, rfl, k⟩ := h
    refine ⟨_, (pss_one (ps_ret (pe_and (pe_callB (k_isi (K := K)) (by rfl) B.isinstance (by decide +kernel) (pa_cons (pv 0) (pa_cons (pe_ty (n := "int") B.int) pa_nil))) (pe_one (pe_not (pe_callB (k_isi (K := K)) (by rfl) B.isinstance (by decide +kernel) (pa_cons (pv 0) (pa_cons (pe_ty (n := "bool") B.bool) pa_nil)))))))), ?_⟩
    refine ⟨_, rfl, _, _, _, _, _, rfl, ClsV.ty _, TyX.base (TyOf.int _), kit_ty (r := true) (by decide +kernel), ?_⟩
    refine ⟨_, rfl, iteT ?_⟩
    refine ⟨_, rfl, _, _, _, _, _, rfl, ClsV.ty _, TyX.base (TyOf.int _), kit_ty (r := false) (by decide +kernel), ?_⟩
    exact ⟨_, rfl, k _ (Same.refl _)⟩
end
end TR

/-! part A2 -/
namespace TR
open PySem PySem.Spec PyProof.Rows L2 G
def LET : Str := "abcdefghijklmnopqrstuvwxyz"
def DIG : Str := "0123456789"
def isLet (c : Nat) : Bool := decide (c ∈ LET.cps.toList)
def isDig (c : Nat) : Bool := decide (c ∈ DIG.cps.toList)
def hdLet : List Nat → Bool
  | [] => false
  | c :: _ => isLet c
def nameOk (z : Str) : Bool := decide (1 ≤ z.length) && (decide (z.length ≤ 12) && (hdLet z.cps.toList && z.cps.toList.all fun c => isLet c || isDig c))
/-- x is no text -/
def NotStr (K : PySem.W.Frag) (H : Hp) (x : V) : Prop := ∃ t, TyX K H x t ∧ PySem.W.kitOne K t (.type "str") = some false
structure Gs (mg : Str → Option Value) : Prop where
  let_ : ∃ t, mg "LETTERS" = some (.str LET t)
  dig : ∃ t, mg "DIGITS" = some (.str DIG t)
  lng : ∃ t, mg "LONGEST_NAME" = some (.int 12 t)
section
variable {P : Program} {w : World} {K : PySem.W.Frag} {mg : Str → Option Value} {base : Heap}
abbrev s_is_name : Stmt := top 39
abbrev N_is_name : List Str := ["value", "sign"]
abbrev P_is_name : List Str := ["value"]
theorem sc_is_name : FnScope N_is_name P_is_name (defScope s_is_name) := ⟨rfl, rfl, rfl, by decide +kernel, rfl, by decide +kernel, by decide +kernel⟩
theorem bn_is_name : BindsNo "is_name" "is_name" s_is_name P_is_name := fun _ _ _ _ _ _ us hl => match us, hl with | [_], _ => rfl
def sp_is_name (K : PySem.W.Frag) : Sp := fun vs H Q _ => ∃ x : V, vs = [x] ∧ ((∃ z : Str, x = .str z ∧ z.length ≤ 1000 ∧ ∀ H', Same H H' → Q (.bl (nameOk z)) H') ∨ (NotStr K H x ∧ ∀ H', Same H H' → Q (.bl false) H'))
theorem all_take {p : Nat → Bool} {l : List Nat} : ((l.map p).all id) = l.all p := by
  rw [List.all_map]; rfl
theorem ok_is_name (B : Bt mg) (g : Gs mg) (F : FnF K mg "is_name" s_is_name []) : Cal P w K mg base 1 "is_name" (sp_is_name K) := by
  have g_LETTERS := g.let_
  have g_DIGITS := g.dig
  have g_LONGEST_NAME := g.lng
  refine F.cal sc_is_name bn_is_name (fun vs H Q E h => ?_) (fun f cdv A outer s H vs Q E hr h => ?_)
  · obtain ⟨x, rfl, _⟩ := h
    rfl
  · obtain ⟨x, rfl, h⟩ := h
    refine ⟨_, (pss_cons (ps_if (PW.pt (pw_or (pt_not (pt_val (pe_callB (k_isi (K := K)) (by rfl) B.isinstance (by decide +kernel) (pa_cons (pv 0) (pa_cons (pe_ty (n := "str") B.str) pa_nil))))) (pw_or (pt_not (pt_chain op_le op_le pe_int (pe_callB (call_lenU (K := K)) (by rfl) B.len (by decide +kernel) (pa_cons (pv 0) pa_nil)) (pe_gi g_LONGEST_NAME))) (pw_or1 (pt_cmpR (op_niU (K := K)) (pe_ix (k_ix (K := K)) (pv 0) pe_int (fun _ _ => rfl)) (pe_gs g_LETTERS) (by rfl)))))) (pss_one (ps_ret pe_bl)) pss_nil)
    (pss_one (ps_ret (pe_callB (k_all (K := K)) (by rfl) B.all (by decide +kernel) (pa_cons (pe_lc (own := [("sign", 1)]) rfl sc_is_name.nd (pi_str (pv 0)) (blkOk_by (N := N_is_name) (sc := defScope s_is_name) (by decide +kernel)) (fun _ _ _ _ _ => (pg_name (i := 1) sc_is_name.nd rfl (Or.inl rfl))) (fun _ _ _ _ _ => pts_nil) (fun _ _ _ _ _ => (pe_or (pe_cmpR (op_inU (K := K)) (pv 1) (pe_gs g_LETTERS) (by rfl)) (pe_one (pe_cmpR (op_inU (K := K)) (pv 1) (pe_gs g_DIGITS) (by rfl)))))) pa_nil))))), ?_⟩
    rcases h with ⟨z, rfl, hz, k⟩ | ⟨⟨t, ht, hk⟩, k⟩
    · have hz' : z.length ≤ sizeLine := Nat.le_trans hz (by rw [sizeLine_eq]; decide)
      refine ⟨_, rfl, _, _, _, _, _, rfl, ClsV.ty _, TyX.base (TyOf.str _), kit_ty (r := true) (by decide +kernel), ?_⟩
      refine ⟨_, rfl, iteF ?_⟩
      refine ⟨_, rfl, .inr (.inl ⟨_, rfl, hz', 1, z.length, rfl, rfl, _, rfl, ?_⟩)⟩
      by_cases h1 : (1 : Int) ≤ z.length
      · rw [decide_eq_true h1]
        refine iteT ⟨_, _, rfl, rfl, _, rfl, ?_⟩
        by_cases h2 : (z.length : Int) ≤ 12
        · rw [decide_eq_true h2]
          refine iteF ?_
          have hsz : z.length = z.cps.toList.length := by simp [Str.length]
          obtain ⟨c, r, hcr⟩ : ∃ c r, z.cps.toList = c :: r := by
            cases q : z.cps.toList with
            | nil => rw [q] at hsz; simp at hsz; omega
            | cons c r => exact ⟨c, r, rfl⟩
          have hat : atI z.cps.toList ((0 : Nat) : Int) = some c := atI_nat (by rw [hcr]; rfl)
          refine ⟨_, rfl, .inr (.inr ⟨z, 0, c, rfl, rfl, hz', hat, .inl ⟨c, LET, rfl, rfl, _, rfl, ?_⟩⟩)⟩
          by_cases h3 : c ∈ LET.cps.toList
          · rw [decide_eq_true h3]
            refine iteF ?_
            refine ⟨_, rfl, _, rfl, fun D hD => ?_⟩
            refine go_lc (n := z.cps.size) (F1 := H) walk_str Rp.bl (fun i => (z.cps.toList.take i).map fun c => isLet c || isDig c) (by show z.length ≤ _; omega) (Same.refl H) hD rfl (fun _ _ _ => trivial) (fun i x F H1 l H' N hi pu fD hl y kt kf => ?_) (fun F H1 ys pu fD hl pd => ?_)
            · obtain ⟨rfl, d, hd, rfl⟩ := y
              have hd' : z.cps.toList[i]? = some d := by rw [Array.getElem?_toList]; exact hd
              have ht : List.take (i + 1) z.cps.toList = List.take i z.cps.toList ++ [d] := by rw [List.take_add_one, hd']; rfl
              have fin : ∀ b, b = (isLet d || isDig d) → ∃ acc, H' D = some (.lst acc) ∧ acc.length < sizeLine ∧ N (upd H' D (.lst (acc ++ [.bl b]))) := fun b e =>
                kt (.bl b) H' F b (Pu.refl pu.sub) rfl (by rw [ht, List.map_append, e]; rfl)
              refine ⟨rfl, _, rfl, .inl ⟨d, LET, rfl, rfl, _, rfl, ?_⟩⟩
              rw [if_neg Bool.false_ne_true]
              by_cases h4 : d ∈ LET.cps.toList
              · rw [decide_eq_true h4]
                exact iteT (fin true (by simp [isLet, h4]))
              · rw [decide_eq_false h4]
                exact iteF ⟨_, rfl, .inl ⟨d, DIG, rfl, rfl, fin _ (by simp [isLet, isDig, h4])⟩⟩
            · have e := pd_eq (f := V.bl) (by exact pd)
              refine ⟨D, _, rfl, .inl (.inl (by rw [hl, e])), ?_⟩
              have e2 : nameOk z = ((z.cps.toList.take z.cps.size).map (fun c => isLet c || isDig c)).all id := by
                rw [all_take, List.take_of_length_le (by simp)]
                unfold nameOk
                rw [decide_eq_true (show 1 ≤ z.length by omega), decide_eq_true (show z.length ≤ 12 by omega), hcr]
                simp [hdLet, isLet, h3]
              have k2 := k H1 pu.same
              rw [e2] at k2
              exact k2
          · rw [decide_eq_false h3]
            refine iteT ?_
            have e : nameOk z = false := by
              unfold nameOk
              rw [hcr]
              simp [hdLet, isLet, h3]
            rw [← e]
            exact k _ (Same.refl _)
        · rw [decide_eq_false h2]
          refine iteT ?_
          have e : nameOk z = false := by
            unfold nameOk
            rw [decide_eq_false (show ¬ z.length ≤ 12 by omega)]
            simp
          rw [← e]
          exact k _ (Same.refl _)
      · rw [decide_eq_false h1]
        refine iteF ⟨_, rfl, iteT ?_⟩
        have e : nameOk z = false := by
          unfold nameOk
          rw [decide_eq_false (show ¬ 1 ≤ z.length by omega)]
          simp
        rw [← e]
        exact k _ (Same.refl _)
    · refine ⟨_, rfl, _, _, _, _, _, rfl, ClsV.ty _, ht, hk, ?_⟩
      refine ⟨_, rfl, iteT ?_⟩
      exact k _ (Same.refl _)
end
end TR

/-! part A3 -/
namespace TR
open PySem PySem.Spec PyProof.Rows L2 G
abbrev Kinds : Type := List (Str × Int)
def kper (ks : Kinds) : List (Key × V) := ks.map fun p => (Sum.inr p.1, V.int p.2)
def kranks (ks : Kinds) (n : Nat) : List (Key × V) := match ks with
  | [] => []
  | p :: r => (Sum.inr p.1, V.int (n : Nat)) :: kranks r (n + 1)
def rankOf (ks : Kinds) (x : Str) : Option Nat := match ks with
  | [] => none
  | p :: r => if p.1 = x then some 0 else (rankOf r x).map (· + 1)
theorem val_per (x : Str) : ∀ ks : Kinds, valV (kper ks) (Sum.inr x) = (ks.lookup x).map V.int
  | [] => rfl
  | (y, i) :: r => by
    show valV ((Sum.inr y, V.int i) :: kper r) (Sum.inr x) = _
    by_cases e : y = x
    · subst e
      rw [valV_pos rfl]
      simp [List.lookup]
    · rw [valV_neg (fun q => e (Sum.inr.inj q)), val_per x r, List.lookup_cons]
      simp [show (x == y) = false by simp [Ne.symm e]]
theorem val_ranks (x : Str) : ∀ (ks : Kinds) (n : Nat), valV (kranks ks n) (Sum.inr x) = (rankOf ks x).map fun j => V.int ((n + j : Nat) : Int)
  | [], _ => rfl
  | (y, i) :: r, n => by
    show valV ((Sum.inr y, V.int (n : Nat)) :: kranks r (n + 1)) (Sum.inr x) = ((if y = x then some 0 else (rankOf r x).map (· + 1)) : Option Nat).map _
    by_cases e : y = x
    · subst e
      rw [valV_pos rfl, if_pos rfl]
      rfl
    · rw [valV_neg (fun q => e (Sum.inr.inj q)), val_ranks x r (n + 1), if_neg e, Option.map_map]
      congr 1
      funext j
      show V.int _ = V.int _
      congr 2
      show n + 1 + j = n + (j + 1)
      omega
theorem rank_some {x : Str} : ∀ {ks : Kinds} {i : Int}, ks.lookup x = some i → ∃ j, rankOf ks x = some j
  | [], _, h => by simp at h
  | (y, k) :: r, i, h => by
    by_cases e : y = x
    · exact ⟨0, if_pos e⟩
    · rw [List.lookup_cons, show (x == y) = false by simp [Ne.symm e]] at h
      obtain ⟨j, hj⟩ := rank_some (show r.lookup x = some i from h)
      exact ⟨j + 1, by show (if y = x then some 0 else (rankOf r x).map (· + 1)) = _; rw [if_neg e, hj]; rfl⟩
def RKinds : Rp Kinds := Rp.tup (Rp.pair Rp.str Rp.int)
/-- a Turns at v -/
structure TurnsAt (C : Addr) (ks : Kinds) (v : V) (F : Hp) (a dx tp tn td tr : Addr) : Prop where
  ev : v = .ref a
  ob : F a = some (.ins C dx [("pairs", .ref tp), ("names", .ref tn), ("periods", .ref td), ("ranks", .ref tr)])
  pr : RKinds.rel ks (.ref tp) F
  nm : F tn = some (.tup (ks.map fun p => V.str p.1))
  pe : F td = some (.dK (kper ks))
  rk : F tr = some (.dK (kranks ks 0))
def RTurns (C : Addr) : Rp Kinds := ⟨fun ks v F => ∃ a dx tp tn td tr, TurnsAt C ks v F a dx tp tn td tr,
  fun s ⟨a, dx, tp, tn, td, tr, h⟩ => ⟨a, dx, tp, tn, td, tr, h.ev, s _ _ h.ob, RKinds.mono s h.pr, s _ _ h.nm, s _ _ h.pe, s _ _ h.rk⟩⟩
/-- an own class whose instances bear these names -/
structure KlF (K : PySem.W.Frag) (mg : Str → Option Value) (x : Str) (C : Addr) (fs : List Str) : Prop where
  cl : Cls K C
  mg : mg x = some (.ref C)
  no : ∀ f ∈ fs, NoAttr K C f
section
variable {P : Program} {w : World} {K : PySem.W.Frag} {mg : Str → Option Value} {base : Heap} {CT : Addr}
abbrev s_Turns_contains : Stmt := inClass (top 61) 7
abbrev N_Turns_contains : List Str := ["self", "name"]
abbrev P_Turns_contains : List Str := ["self", "name"]
theorem sc_Turns_contains : FnScope N_Turns_contains P_Turns_contains (defScope s_Turns_contains) := ⟨rfl, rfl, rfl, by decide +kernel, rfl, by decide +kernel, by decide +kernel⟩
theorem bn_Turns_contains : BindsNo "__contains__" "Turns.__contains__" s_Turns_contains P_Turns_contains := fun _ _ _ _ _ _ us hl => match us, hl with | [_, _], _ => rfl
/-- x in turns -/
def sp_Turns_in (K : PySem.W.Frag) (C : Addr) : Sp := fun vs H Q _ => ∃ (v x : V) (ks : Kinds), vs = [v, x] ∧ (RTurns C).rel ks v H ∧ ((∃ z, x = .str z ∧ ∀ H', Same H H' → Q (.bl (ks.lookup z).isSome) H') ∨ (NotStr K H x ∧ ∀ H', Same H H' → Q (.bl false) H'))
theorem ok_Turns_in (B : Bt mg) (T : KlF K mg "Turns" CT ["pairs", "names", "periods", "ranks"]) (F : MtF K CT "__contains__" "Turns.__contains__" s_Turns_contains []) : Met P w K mg base 1 CT "__contains__" (sp_Turns_in K CT) := by
  refine F.met T.cl sc_Turns_contains bn_Turns_contains (fun vs H Q E h => ?_) (fun f cdv A outer s H vs Q E hr h => ?_)
  · obtain ⟨v, x, ks, rfl, _⟩ := h
    rfl
  · obtain ⟨v, x, ks, rfl, ⟨a, dx, tp, tn, td, tr, t⟩, h⟩ := h
    refine ⟨_, (pss_one (ps_ret (pe_and (pe_callB (k_isi (K := K)) (by rfl) B.isinstance (by decide +kernel) (pa_cons (pv 1) (pa_cons (pe_ty (n := "str") B.str) pa_nil))) (pe_one (pe_cmp (pc_din (hu_of hr) (pv 1) (k_fld (pv 0) (K := K))) rfl))))), ?_⟩
    rcases h with ⟨z, rfl, k⟩ | ⟨⟨t, ht, hk⟩, k⟩
    · refine ⟨_, rfl, _, _, _, _, _, rfl, ClsV.ty _, TyX.base (TyOf.str _), kit_ty (r := true) (by decide +kernel), ?_⟩
      refine ⟨_, rfl, _, rfl, _, rfl, a, CT, dx, _, _, t.ev, t.ob, T.cl, T.no _ (by decide), rfl, td, _, rfl, DGet.k (k := Sum.inr z) t.pe, ?_⟩
      rw [val_per]
      have e : ((ks.lookup z).map V.int).isSome = (ks.lookup z).isSome := by cases ks.lookup z <;> rfl
      rw [e]
      exact k _ (Same.refl _)
    · refine ⟨_, rfl, _, _, _, _, _, rfl, ClsV.ty _, ht, hk, ?_⟩
      exact ⟨_, rfl, k _ (Same.refl _)⟩
abbrev s_Turns_period_of : Stmt := inClass (top 61) 2
abbrev N_Turns_period_of : List Str := ["self", "name"]
abbrev P_Turns_period_of : List Str := ["self", "name"]
theorem sc_Turns_period_of : FnScope N_Turns_period_of P_Turns_period_of (defScope s_Turns_period_of) := ⟨rfl, rfl, rfl, by decide +kernel, rfl, by decide +kernel, by decide +kernel⟩
theorem bn_Turns_period_of : BindsNo "period_of" "Turns.period_of" s_Turns_period_of P_Turns_period_of := fun _ _ _ _ _ _ us hl => match us, hl with | [_, _], _ => rfl
def sp_Turns_period (C : Addr) : Sp := fun vs H Q _ => ∃ (v : V) (z : Str) (ks : Kinds) (i : Int), vs = [v, .str z] ∧ (RTurns C).rel ks v H ∧ ks.lookup z = some i ∧ ∀ H', Same H H' → Q (.int i) H'
theorem ok_Turns_period (B : Bt mg) (T : KlF K mg "Turns" CT ["pairs", "names", "periods", "ranks"]) (m_in : Met P w K mg base 1 CT "__contains__" (sp_Turns_in K CT)) (F : MtF K CT "period_of" "Turns.period_of" s_Turns_period_of []) : Met P w K mg base 2 CT "period_of" (sp_Turns_period CT) := by
  refine F.met T.cl sc_Turns_period_of bn_Turns_period_of (fun vs H Q E h => ?_) (fun f cdv A outer s H vs Q E hr h => ?_)
  · obtain ⟨v, x, ks, i, rfl, _⟩ := h
    rfl
  · obtain ⟨v, z, ks, i, rfl, r, hi, k⟩ := h
    obtain ⟨a, dx, tp, tn, td, tr, t⟩ := id r
    refine ⟨_, (pss_cons (ps_if (pt_cmpR (op_niO m_in hr (by decide) passL) (pv 1) (pv 0) (by rfl)) (pss_one ps_never) pss_nil)
    (pss_one (ps_ret (pe_dget (hu_of hr) (k_fld (pv 0) (K := K)) (pv 1) (fun _ _ => rfl))))), ?_⟩
    refine ⟨_, rfl, _, rfl, a, dx, _, t.ev, t.ob, v, .str z, ks, rfl, r, .inl ⟨z, rfl, fun H1 s1 => ?_⟩⟩
    rw [hi]
    refine ⟨_, rfl, _, rfl, ?_⟩
    have q : valV (kper ks) (Sum.inr z) = some (.int i) := by rw [val_per, hi]; rfl
    refine ⟨_, rfl, a, CT, dx, _, _, t.ev, s1 _ _ t.ob, T.cl, T.no _ (by decide), rfl, _, rfl, td, _, rfl, q ▸ DGet.k (k := Sum.inr z) (s1 _ _ t.pe), ?_⟩
    exact k _ s1
abbrev s_Turns_rank : Stmt := inClass (top 61) 3
abbrev N_Turns_rank : List Str := ["self", "name"]
abbrev P_Turns_rank : List Str := ["self", "name"]
theorem sc_Turns_rank : FnScope N_Turns_rank P_Turns_rank (defScope s_Turns_rank) := ⟨rfl, rfl, rfl, by decide +kernel, rfl, by decide +kernel, by decide +kernel⟩
theorem bn_Turns_rank : BindsNo "rank" "Turns.rank" s_Turns_rank P_Turns_rank := fun _ _ _ _ _ _ us hl => match us, hl with | [_, _], _ => rfl
def sp_Turns_rank (C : Addr) : Sp := fun vs H Q _ => ∃ (v : V) (z : Str) (ks : Kinds) (j : Nat), vs = [v, .str z] ∧ (RTurns C).rel ks v H ∧ (∃ i, ks.lookup z = some i) ∧ rankOf ks z = some j ∧ ∀ H', Same H H' → Q (.int j) H'
theorem ok_Turns_rank (B : Bt mg) (T : KlF K mg "Turns" CT ["pairs", "names", "periods", "ranks"]) (m_in : Met P w K mg base 1 CT "__contains__" (sp_Turns_in K CT)) (F : MtF K CT "rank" "Turns.rank" s_Turns_rank []) : Met P w K mg base 2 CT "rank" (sp_Turns_rank CT) := by
  refine F.met T.cl sc_Turns_rank bn_Turns_rank (fun vs H Q E h => ?_) (fun f cdv A outer s H vs Q E hr h => ?_)
  · obtain ⟨v, x, ks, i, rfl, _⟩ := h
    rfl
  · obtain ⟨v, z, ks, j, rfl, r, ⟨i, hi⟩, hj, k⟩ := h
    obtain ⟨a, dx, tp, tn, td, tr, t⟩ := id r
    refine ⟨_, (pss_cons (ps_if (pt_cmpR (op_niO m_in hr (by decide) passL) (pv 1) (pv 0) (by rfl)) (pss_one ps_never) pss_nil)
    (pss_one (ps_ret (pe_dget (hu_of hr) (k_fld (pv 0) (K := K)) (pv 1) (fun _ _ => rfl))))), ?_⟩
    refine ⟨_, rfl, _, rfl, a, dx, _, t.ev, t.ob, v, .str z, ks, rfl, r, .inl ⟨z, rfl, fun H1 s1 => ?_⟩⟩
    rw [hi]
    refine ⟨_, rfl, _, rfl, ?_⟩
    have q : valV (kranks ks 0) (Sum.inr z) = some (.int j) := by rw [val_ranks, hj]; show some (V.int ((0 + j : Nat) : Int)) = _; rw [Nat.zero_add]
    refine ⟨_, rfl, a, CT, dx, _, _, t.ev, s1 _ _ t.ob, T.cl, T.no _ (by decide), rfl, _, rfl, tr, _, rfl, q ▸ DGet.k (k := Sum.inr z) (s1 _ _ t.rk), ?_⟩
    exact k _ s1
end
end TR

/-! part EnumT -/
/-! enumerate(xs) of a tuple. -/
namespace G
open PySem PySem.Spec PyProof.Rows L2
open AutoSeq1 (wpAny_loadPart')
abbrev tI (l : Addr) : Obj := { cls := .type "tuple_iterator", data := .fields #[.ref l, .int 0 0] }
abbrev eN (h : Heap) : Obj := { cls := .type "enumerate", data := .fields #[.none, .bool false, .ref h.objs.size, rawInt 0, .none, .none] }
theorem new_enumT (l : Addr) (its : Array Value) (n : Nat) (dc : Option Addr) (sl : Array (Option Value)) :
    Meets (Builtin.«enumerate.__new__» ⟨[.type "enumerate", .ref l], []⟩) (fun _ R s => s.heap.get? l = some { cls := .type "tuple", dict := dc, data := .seq its n, slots := sl } ∧ R (.ok (.ret (.ref (s.heap.push (tI l)).objs.size))) { s with heap := (s.heap.push (tI l)).push (eN s.heap) }) :=
  .of_wp fun prog w A R s h => by
    obtain ⟨hp, g, d, tk, os⟩ := s
    obtain ⟨hl, h⟩ := h
    have sub := sub_enumerate
    have isT : Heap.IsTuple (Shared.heap ⟨hp, g, d, tk, os⟩) l its := ⟨_, hl, rfl, n, rfl⟩
    wp_walk using wpAny_loadPart' hl; refine wpAny_stack_any fun st => wpAny_pure ?_
    split
    · rename_i c _ _ _ _ _
      cases (c == Value.type "enumerate") <;> (wp_walk using wpAny_loadPart' hl, wpAny_pyIter_tuple isT) <;> exact ⟨_, rfl, h⟩
    · wp_walk using wpAny_loadPart' hl, wpAny_pyIter_tuple isT; exact ⟨_, rfl, h⟩
section
variable {prog : Program} {w : World} {A : Around} {E : Value → Shared → Prop} {s : Shared}
theorem call_enumT {l : Addr} {its : Array Value} {Q : Value → Shared → Prop} (hL : s.heap.IsTuple l its)
    (go : ∀ h2, IsEnum h2 (s.heap.objs.size + 1) s.heap.objs.size 0 .none → h2.IsTupleIter s.heap.objs.size l 0 → (∀ b o, s.heap.get? b = some o → h2.get? b = some o) → Q (.ref (s.heap.objs.size + 1)) { s with heap := h2 }) :
    wpAny (model prog w) A (call (.type "enumerate") [.ref l]) Q E s := by
  obtain ⟨⟨c, dct, dt, sl⟩, hl, hc, n, hd⟩ := hL
  obtain rfl : c = .type "tuple" := hc
  obtain rfl : dt = .seq its n := hd
  refine callType_new F.called_enumerate (by decide) (F.typeCall_enumerate_1 _) (F.newCall_enumerate_1 _) (fun obj => F.args_object_init_2 obj _) F.entry_enumerate_new (new_enumT l its n dct sl) ⟨hl, ?_⟩
  have z : (s.heap.push (tI l)).objs.size = s.heap.objs.size + 1 := Heap.size_push ..
  show _ ∧ _
  rw [z]
  have he : IsEnum ((s.heap.push (tI l)).push (eN s.heap)) (s.heap.objs.size + 1) s.heap.objs.size 0 .none := by
    have q := Heap.get?_push_size (s.heap.push (tI l)) (o := eN s.heap) rfl
    rw [z] at q
    exact q
  exact ⟨⟨_, he, rfl⟩, go _ he ⟨_, Heap.get?_push_of_some _ (Heap.get?_push_size _ rfl), rfl, rfl⟩ fun b o x => Heap.get?_push_of_some _ (Heap.get?_push_of_some _ x)⟩
end
/-- the tuple at a, its items numbered in new pairs -/
def IteT (K : PySem.W.Frag) (a : Addr) : It :=
  ⟨fun i H => ∃ (xs : List V) (x : V), SqT K H a xs ∧ xs[i]? = some x,
   fun i H v H' => ∃ T x, v = .ref T ∧ H T = none ∧ H' = upd H T (.tup [.int (i : Nat), x]) ∧ ∀ xs, SqT K H a xs → xs[i]? = some x,
   fun i H => ∃ xs : List V, SqT K H a xs ∧ xs.length ≤ i⟩
theorem turn_enumT {P : Program} {w : World} {K : PySem.W.Frag} {elts : List Expr} {kk : Nat} {tpos : Pos} (a e it : Addr) (ne : e ≠ it) :
    Turn P w K (.Tuple elts kk tpos) (IteT K a) [e, it] e (fun i h => (∃ old, IsEnum h e it ((i : Nat) : Int) old) ∧ h.IsTupleIter it a i ∧ a ≠ it ∧ a ≠ e) where
  mem := by simp
  obj := fun i h st b hb => by
    obtain ⟨⟨old, he⟩, ⟨o, ho, hc, hd⟩, _⟩ := st
    rcases (by simpa using hb : b = e ∨ b = it) with z | z <;> rw [z]
    · exact ⟨_, he, fun v q => nomatch q⟩
    · exact ⟨o, ho, fun v q => by rw [hd] at q; cases q⟩
  keep := fun i h h' st k => let ⟨⟨old, he⟩, hi, hne⟩ := st; ⟨⟨old, k e (by simp) _ he⟩, hi.at fun o q => k it (by simp) o q, hne⟩
  item := by
    intro X hP hw hK hc i pins s σ H E I hf st hg
    subst hP hw hK
    obtain ⟨⟨old, he⟩, hit, na, nb⟩ := st
    obtain ⟨xs, x, hq, hx⟩ := hg
    obtain ⟨its, rv, p, hz⟩ := I.tuple hq
    obtain ⟨u, hu, ru⟩ := rv.get hx
    have l1 : e < s.heap.objs.size := Heap.lt_size he
    have l2 : it < s.heap.objs.size := by obtain ⟨_, q, _⟩ := hit; exact Heap.lt_size q
    have hd : X.A.in1.handled = none := by have := I.ok.hd hc; simp [this]
    refine wpAny_pyNext_enum_itemD (Draws.tuple hd it a na its.toArray) he ⟨hit, p⟩ (by have := (List.getElem?_eq_some_iff.mp hu).1; simpa using this) ne (by simp only [List.mem_cons, List.not_mem_nil, or_false]; exact fun z => z.elim ne (Ne.symm nb)) fun x' h' tk hPx ho hst hT hsz hk => ?_
    obtain rfl : x' = u := by
      have hPx' : its.toArray[i]? = some x' := hPx
      rw [List.getElem?_toArray, hu] at hPx'
      exact (Option.some.inj hPx').symm
    refine ⟨_, rfl, wpAny_letOwnedTupleGo_enum (s := { s with heap := h', toks := tk + 1 }) ho fun h2 he2 sb => ?_⟩
    have hT2 := (sb.2 _ (Nat.ne_of_gt l1)).trans hT
    have mk : ObjOk X.prog X.w (upd H s.heap.objs.size (.tup [.int (i : Nat), x])) h2 s.heap.objs.size (.tup [.int (i : Nat), x]) :=
      ⟨by show 2 ≤ sizeLine; decide, [.int i tk, x'], .cons ⟨_, rfl⟩ (.cons ru .nil), ⟨_, hT2, rfl, _, rfl⟩⟩
    have I1 : Inv X pins σ (upd H s.heap.objs.size (.tup [.int (i : Nat), x])) { s with heap := h2, toks := tk + 1 } :=
      I.turnedNew (ch := [e, it]) (fun b ob hb q => (sb.2 b (fun z => hb (by simp [z]))).trans (hk b ob (fun z => hb (by simp [z])) (fun z => hb (by simp [z])) q)) hf (Nat.le_refl _) mk
    refine ⟨.ref s.heap.objs.size, _, I1, rfl, ⟨_, x, rfl, I.hok.fresh (Nat.le_refl _), rfl, fun ys hy => by rw [I.tuple_inj hy hq]; exact hx⟩, ⟨⟨x', ?_⟩, hst.1.at fun o q => (sb.2 it (Ne.symm ne)).trans q, na, nb⟩, fun b hb => ?_⟩
    · rw [show ((i + 1 : Nat) : Int) = (i : Int) + 1 by omega]; exact he2
    · have hb' : b < s.heap.objs.size := by
        rcases (by simpa using hb : b = e ∨ b = it) with z | z <;> rw [z] <;> assumption
      rw [upd_ne (Nat.ne_of_lt hb')]
      exact (hf b hb).1
  done := by
    intro X hP hw hK hc i pins s σ H E I hf st hg
    subst hP hw hK
    obtain ⟨⟨old, he⟩, hit, na, nb⟩ := st
    obtain ⟨xs, hq, hx⟩ := hg
    obtain ⟨its, rv, p, hz⟩ := I.tuple hq
    obtain ⟨f0, f1, f2, f3, f4, f5⟩ := hf it (by simp)
    have hd : X.A.in1.handled = none := by have := I.ok.hd hc; simp [this]
    have hl := rv.length
    have D : Draws X.prog X.w X.A.in1 it [it, a] i (fun _ _ => True) (fun j h => j = i ∧ h.IsTupleIter it a i ∧ h.IsTuple a its.toArray) :=
      { live := fun _ _ z => let ⟨o, ho, _⟩ := z.2.1; ⟨o, ho⟩,
        frame := fun _ _ _ z k => ⟨z.1, z.2.1.at fun o q => k it (by simp) o q, z.2.2.at fun o q => k a (by simp) o q⟩,
        item := fun j s Q E hj z _ => absurd z.1 (Nat.ne_of_lt hj),
        done := fun s Q E z hE => wpAny_nextOf_tuple_end hd z.2.1 z.2.2 (by simp; omega) hE }
    exact wpAny_pyNext_enum_endD D he ⟨rfl, hit, p⟩ fun h' eb => ⟨rfl, I.turned (t' := s.toks) (fun b o hb q => eb b o hb q) f0 f1 f3 f4 f5⟩
  self := fun A i s Q E st h => let ⟨⟨_, he⟩, _⟩ := st; wpAny_pyIter_enum he h
def iEnumT (K : PySem.W.Frag) (ta : TA) : TI := fun σ H R => ta σ H fun vs H1 => ∃ a xs, vs = [.ref a] ∧ SqT K H1 a xs ∧ R (IteT K a) H1
theorem pi_enumT {X : Cx} {K : PySem.W.Frag} {e : Expr} {ta : TA} {p pos tpos : Pos} {elts : List Expr} {kk : Nat} (hg : Gl X "enumerate") (hm : X.mg "enumerate" = none) (ha : PA X [e] ta) (hs : starEach [e] X.env = [(false, eval e X.env)] := by rfl) (hK : X.K = K := by rfl) :
    PI X (.Tuple elts kk tpos) (.Call (.Name "enumerate" p) [e] [] pos) (iEnumT K ta) := by
  subst hK
  refine ⟨fun pins s σ H R I h => ?_⟩
  refine Call_ (ld_blt I hg hm boot_enumerate (PyProof.Rows.callWith_type1 (thn (ha.run pos pins s σ H _ I h) fun us s1 ⟨vs, H1, I1, r1, a, xs, ex, hq, q⟩ => ?_) hs rfl))
  subst ex
  rw [Vals.ref1 r1]
  obtain ⟨its, rv, p', hz⟩ := I1.tuple hq
  have la : a < s1.heap.objs.size := by obtain ⟨o, ho, _⟩ := p'; exact Heap.lt_size ho
  refine call_enumT p' fun h' he hit hk => wpAny_pyIter_enum he ?_
  have I2 : Inv X pins σ H1 { s1 with heap := h' } := I1.kept (t' := s1.toks) hk
  refine ⟨s1.heap.objs.size + 1, [s1.heap.objs.size + 1, s1.heap.objs.size], _, _, H1, rfl, I2, turn_enumT a (s1.heap.objs.size + 1) s1.heap.objs.size (Nat.succ_ne_self _), ⟨⟨.none, he⟩, hit, Nat.ne_of_lt la, Nat.ne_of_lt (Nat.lt_succ_of_lt la)⟩, fun b hb => ?_, q⟩
  have hle : s1.heap.objs.size ≤ b := by
    rcases (by simpa using hb : b = s1.heap.objs.size + 1 ∨ b = s1.heap.objs.size) with z | z <;> rw [z]
    · exact Nat.le_add_right _ _
    · exact Nat.le_refl _
  exact I1.fpOk hle (I1.hok.fresh hle)
theorem walk_enumT {K : PySem.W.Frag} {a : Addr} {xs : List V} : Walk (IteT K a) xs.length (fun H => SqT K H a xs) (YPair (fun i => some (.int (i : Nat))) (fun i => xs[i]?)) := by
  refine ⟨fun i _ hi q => ⟨xs, xs[i], q, by simp [hi]⟩, fun _ q => ⟨xs, q, Nat.le_refl _⟩, fun i H v H' _ q ⟨T, x, h1, h2, h3, h4⟩ => ⟨T, .int (i : Nat), x, h1, h2, h3, rfl, h4 xs q⟩⟩
theorem k_enum {X : Cx} {K : PySem.W.Frag} {e : Expr} {ta : TA} {p pos tpos : Pos} {elts : List Expr} {kk : Nat} (hg : Gl X "enumerate") (hm : X.mg "enumerate" = none) (ha : PA X [e] ta) (hs : starEach [e] X.env = [(false, eval e X.env)] := by rfl) (hK : X.K = K := by rfl) :
    PI X (.Tuple elts kk tpos) (.Call (.Name "enumerate" p) [e] [] pos) (iEnum K ta) := by
  subst hK
  exact pi_enum hg hm ha hs
end G

/-! part SeqU -/
/-! Lists or tuples alike. -/
namespace G
open PySem PySem.Spec PyProof.Rows L2
section
variable {X : Cx} {K : PySem.W.Frag}
def gSeq (K : PySem.W.Frag) (n : Nat) (t : TGs) : TG := fun v σ H Q => gTup K n t v σ H Q ∨ gUnl K n t v σ H Q
theorem k_seq {es : List Expr} {t : TGs} {n kk : Nat} {pos : Pos} (hc : X.calm = true) (h : PGs X es t) (hn : (assignEach es X.env).length = n := by rfl) (hst : (assignEach es X.env).findIdx? (·.1) = none := by rfl) (hK : X.K = K := by rfl) : PG X (.Tuple es kk pos) (gSeq K n t) := by
  subst hK
  have a : PG X (.Tuple es kk pos) (gTup X.K n t) := pg_tup hc h hn hst
  have b : PG X (.Tuple es kk pos) (gUnl X.K n t) := pg_unl hc h hn hst
  exact ⟨fun pins s σ H v u Q I r q => q.elim (a.run pins s σ H v u Q I r) (b.run pins s σ H v u Q I r)⟩
theorem PI.or {tg l : Expr} {a b : TI} (h : PI X tg l a) (k : PI X tg l b) : PI X tg l (fun σ H R => a σ H R ∨ b σ H R) :=
  ⟨fun pins s σ H R I q => q.elim (h.run pins s σ H R I) (k.run pins s σ H R I)⟩
def iEnumU (K : PySem.W.Frag) (ta : TA) : TI := fun σ H R => iEnum K ta σ H R ∨ iEnumT K ta σ H R
def iSeqU (K : PySem.W.Frag) (te : TE) : TI := fun σ H R => iList K te σ H R ∨ iTup K te σ H R
theorem k_enumU {e : Expr} {ta : TA} {p pos tpos : Pos} {elts : List Expr} {kk : Nat} (hg : Gl X "enumerate") (hm : X.mg "enumerate" = none) (ha : PA X [e] ta) (hs : starEach [e] X.env = [(false, eval e X.env)] := by rfl) (hK : X.K = K := by rfl) :
    PI X (.Tuple elts kk tpos) (.Call (.Name "enumerate" p) [e] [] pos) (iEnumU K ta) := PI.or (k_enum hg hm ha hs hK) (pi_enumT hg hm ha hs hK)
theorem k_iu {tg l : Expr} {tl : TE} (hl : PE X l tl) (hK : X.K = K := by rfl) : PI X tg l (iSeqU K tl) := PI.or (k_il hl hK) (k_it hl hK)
end
/-- a list or a tuple -/
def Sq2 (H : Hp) (a : Addr) (xs : List V) : Prop := H a = some (.lst xs) ∨ H a = some (.tup xs)
theorem Sq2.mono {H H' : Hp} {a : Addr} {xs : List V} (s : Same H H') (h : Sq2 H a xs) : Sq2 H' a xs := h.elim (fun h => .inl (s _ _ h)) (fun h => .inr (s _ _ h))
theorem Sq2.sq {K : PySem.W.Frag} {H : Hp} {a : Addr} {xs : List V} (h : Sq2 H a xs) : SqL K H a xs ∨ SqT K H a xs := h.elim (fun h => .inl (SqL.of h)) (fun h => .inr (SqT.of h))
theorem enumU {K : PySem.W.Frag} {ta : TA} {σ : L2.St} {H : Hp} {R : It → Hp → Prop} {a : Addr} {xs : List V} (hs : Sq2 H a xs) (h : ∀ Q : List V → Hp → Prop, Q [.ref a] H → ta σ H Q)
    (k : ∀ (J : It) (Gd : Hp → Prop), Walk J xs.length Gd (YPair (fun i => some (.int (i : Nat))) (fun i => xs[i]?)) → (∀ H', Same H H' → Gd H') → R J H) : iEnumU K ta σ H R := by
  rcases hs with hs | hs
  · exact .inl (h _ ⟨a, xs, rfl, SqL.of hs, k _ _ walk_enum fun H' s => SqL.of (s _ _ hs)⟩)
  · exact .inr (h _ ⟨a, xs, rfl, SqT.of hs, k _ _ walk_enumT fun H' s => SqT.of (s _ _ hs)⟩)
theorem seqU {K : PySem.W.Frag} {te : TE} {σ : L2.St} {H : Hp} {R : It → Hp → Prop} {a : Addr} {xs : List V} (hs : Sq2 H a xs) (h : ∀ Q : V → Hp → Prop, Q (.ref a) H → te σ H Q)
    (k : ∀ (J : It) (Gd : Hp → Prop), Walk J xs.length Gd (YAt xs) → (∀ H', Same H H' → Gd H') → R J H) : iSeqU K te σ H R := by
  rcases hs with hs | hs
  · exact .inl (h _ ⟨a, rfl, ⟨_, SqL.of hs⟩, k _ _ walk_list fun H' s => SqL.of (s _ _ hs)⟩)
  · exact .inr (h _ ⟨a, rfl, ⟨_, SqT.of hs⟩, k _ _ walk_tup fun H' s => SqT.of (s _ _ hs)⟩)
/-- .. or a tuple among K's words -/
def Sq3 (K : PySem.W.Frag) (F : Hp) (a : Addr) (xs : List V) : Prop := Sq2 F a xs ∨ ∀ H, SqT K H a xs
theorem Sq3.mono {K : PySem.W.Frag} {H H' : Hp} {a : Addr} {xs : List V} (s : Same H H') (h : Sq3 K H a xs) : Sq3 K H' a xs := h.elim (fun h => .inl (h.mono s)) .inr
theorem seqU2 {K : PySem.W.Frag} {te : TE} {σ : L2.St} {F H : Hp} {R : It → Hp → Prop} {a : Addr} {xs : List V} (hs : Sq3 K F a xs) (sF : Same F H) (h : ∀ Q : V → Hp → Prop, Q (.ref a) H → te σ H Q)
    (k : ∀ (J : It) (Gd : Hp → Prop), Walk J xs.length Gd (YAt xs) → (∀ H', Same F H' → Gd H') → R J H) : iSeqU K te σ H R := by
  rcases hs with (hs | hs) | hs
  · exact .inl (h _ ⟨a, rfl, ⟨_, SqL.of (sF _ _ hs)⟩, k _ _ walk_list fun H' s => SqL.of (s _ _ hs)⟩)
  · exact .inr (h _ ⟨a, rfl, ⟨_, SqT.of (sF _ _ hs)⟩, k _ _ walk_tup fun H' s => SqT.of (s _ _ hs)⟩)
  · exact .inr (h _ ⟨a, rfl, ⟨_, hs H⟩, k _ _ walk_tup fun H' _ => hs H'⟩)
theorem gseq {K : PySem.W.Frag} {n : Nat} {t : TGs} {σ : L2.St} {H : Hp} {Q : L2.St → Hp → Prop} {a : Addr} {xs : List V} (hs : Sq2 H a xs) (hn : xs.length = n) (h : t xs σ H Q) : gSeq K n t (.ref a) σ H Q := by
  rcases hs with hs | hs
  · exact .inr ⟨a, xs, rfl, SqL.of hs, hn, h⟩
  · exact .inl ⟨a, xs, rfl, SqT.of hs, hn, h⟩
end G

/-! part A4 -/
namespace TR
open PySem PySem.Spec PyProof.Rows L2 G
structure KOk (ks : Kinds) : Prop where
  pos : 0 < ks.length
  le : ks.length ≤ 8
  nm : ∀ p ∈ ks, nameOk p.1 = true ∧ p.1.length ≤ 1000
  pe : ∀ p ∈ ks, 0 ≤ p.2 ∧ p.2 ≠ 1
  nd : (ks.map (·.1)).Nodup
theorem kranks_snoc : ∀ (ks : Kinds) (n : Nat) (p : Str × Int), kranks (ks ++ [p]) n = kranks ks n ++ [(Sum.inr p.1, V.int ((n + ks.length : Nat) : Int))]
  | [], n, p => rfl
  | q :: r, n, p => by
    show (Sum.inr q.1, V.int (n : Nat)) :: kranks (r ++ [p]) (n + 1) = _
    rw [kranks_snoc r (n + 1) p]
    show _ = (Sum.inr q.1, V.int (n : Nat)) :: (kranks r (n + 1) ++ _)
    rw [show n + 1 + r.length = n + (q :: r).length by simp; omega]
theorem kranks_len : ∀ (ks : Kinds) (n : Nat), (kranks ks n).length = ks.length
  | [], _ => rfl
  | _ :: r, n => congrArg Nat.succ (kranks_len r (n + 1))
theorem lookup_none {x : Str} : ∀ {ks : Kinds}, x ∉ ks.map (·.1) → ks.lookup x = none
  | [], _ => rfl
  | (y, i) :: r, h => by
    have h1 : ¬ x = y ∧ x ∉ r.map (·.1) := by simpa using h
    rw [List.lookup_cons, show (x == y) = false by simp [h1.1]]
    exact lookup_none h1.2
theorem fresh_at {ks : Kinds} {i : Nat} {p : Str × Int} (nd : (ks.map (·.1)).Nodup) (h : ks[i]? = some p) : (ks.take i).lookup p.1 = none := by
  refine lookup_none fun m => ?_
  obtain ⟨q, hq, e⟩ := List.mem_map.mp m
  obtain ⟨j, hj⟩ := List.getElem?_of_mem hq
  have hji : j < i := by
    by_cases z : j < i
    · exact z
    · rw [List.getElem?_eq_none (by simp; omega)] at hj; cases hj
  rw [List.getElem?_take_of_lt hji] at hj
  have a1 : (ks.map (·.1))[j]? = some p.1 := by rw [List.getElem?_map, hj]; simp [e]
  have a2 : (ks.map (·.1))[i]? = some p.1 := by rw [List.getElem?_map, h]; rfl
  have := nd_ix nd a1 a2
  omega
theorem rank_none {x : Str} : ∀ {ks : Kinds}, ks.lookup x = none → rankOf ks x = none
  | [], _ => rfl
  | (y, i) :: r, h => by
    show (if y = x then some 0 else (rankOf r x).map (· + 1)) = none
    by_cases e : y = x
    · rw [List.lookup_cons, show (x == y) = true by simp [e]] at h; cases h
    · rw [List.lookup_cons, show (x == y) = false by simp [Ne.symm e]] at h
      rw [if_neg e, rank_none (show r.lookup x = none from h)]; rfl
section
variable {P : Program} {w : World} {K : PySem.W.Frag} {mg : Str → Option Value} {base : Heap} {CT : Addr}
abbrev RPairs : Rp Kinds := Rp.lst (Rp.pair Rp.str Rp.int)
/-- .. or a tuple of them -/
def RSeqs (K : PySem.W.Frag) : Rp Kinds := ⟨fun d v F => ∃ a xs, v = .ref a ∧ Sq3 K F a xs ∧ Paired (fun d x => (Rp.pair Rp.str Rp.int).rel d x F) d xs, fun s ⟨a, xs, e, h, p⟩ => ⟨a, xs, e, h.mono s, pd_mono (fun _ _ => (Rp.pair Rp.str Rp.int).mono s) p⟩⟩
theorem pairs_sq {d : Kinds} {v : V} {F : Hp} (h : RPairs.rel d v F) : (RSeqs K).rel d v F := by
  obtain ⟨a, xs, e, h, p⟩ := h
  exact ⟨a, xs, e, .inl (.inl h), p⟩
abbrev s_Turns_init : Stmt := inClass (top 61) 1
abbrev N_Turns_init : List Str := ["self", "pairs", "told", "name", "period", "periods", "ranks"]
abbrev P_Turns_init : List Str := ["self", "pairs"]
theorem sc_Turns_init : FnScope N_Turns_init P_Turns_init (defScope s_Turns_init) := ⟨rfl, rfl, rfl, by decide +kernel, rfl, by decide +kernel, by decide +kernel⟩
theorem bn_Turns_init : BindsNo "__init__" "Turns.__init__" s_Turns_init P_Turns_init := fun _ _ _ _ _ _ us hl => match us, hl with | [_, _], _ => rfl
def sp_Turns_init (C : Addr) : Sp := fun vs H Q _ => ∃ (F H0 : Hp) (x dx : Addr) (v : V) (ks : Kinds), vs = [.ref x, v] ∧ New C F H0 H x dx ∧ RPairs.rel ks v F ∧ KOk ks ∧ ∀ F' H', Pu F H0 F' H' → (RTurns C).rel ks (.ref x) F' → Q .non H'
theorem ok_Turns_init (B : Bt mg) (T : KlF K mg "Turns" CT ["pairs", "names", "periods", "ranks"]) (T_MOST : CcF K CT "MOST" (.int 8)) (c_is_name : Cal P w K mg base 1 "is_name" (sp_is_name K)) (c_is_whole : Cal P w K mg base 1 "is_whole" sp_is_whole)
    (F : MkF K mg "Turns" CT "Turns.__init__" s_Turns_init []) : Mak P w K mg base 2 "Turns" CT (sp_Turns_init CT) := by
  have g_Turns := T.mg
  refine F.mak sc_Turns_init bn_Turns_init (fun vs H Q E h => ?_) (fun f cdv A outer s H vs Q E hr h => ?_)
  · obtain ⟨_, _, _, _, _, _, rfl, _⟩ := h
    rfl
  · obtain ⟨F, H0, x, dx, v, ks, rfl, nw, ⟨a, ps, rfl, ha, pd⟩, ok, k⟩ := h
    have w0 := nw.own
    have hl : ps.length = ks.length := pd_len pd
    refine ⟨_, (pss_cons (ps_setLc (i := 2) (own := [("name", 3), ("period", 4)]) rfl sc_Turns_init.nd rfl rfl (sw_true rfl rfl rfl (by decide +kernel)) (k_il (pv 1) (K := K)) (blkOk_by (N := N_Turns_init) (sc := defScope s_Turns_init) (by decide +kernel)) (fun _ _ _ _ _ => (k_tup (n := 2) rfl (pgs_cons (pg_name (i := 3) sc_Turns_init.nd rfl (Or.inl rfl)) (pgs_cons (pg_name (i := 4) sc_Turns_init.nd rfl (Or.inl rfl)) pgs_nil)) (K := K))) (fun _ _ _ _ _ => pts_nil) (fun _ _ _ _ _ => (pe_tup (pa_cons (pv 3) (pa_cons (pv 4) pa_nil)))))
    (pss_cons (ps_if (pt_cmpR (op_eqU hr (K := K)) (pe_callB (call_lenU (K := K)) (by rfl) B.len (by decide +kernel) (pa_cons (pv 2) pa_nil)) pe_int (nomark _)) (pss_one ps_never) pss_nil)
    (pss_cons (ps_if (pt_cmpR op_gt (pe_callB (call_lenU (K := K)) (by rfl) B.len (by decide +kernel) (pa_cons (pv 2) pa_nil)) (pe_cc g_Turns (n := .int 8) T_MOST) (nomark _)) (pss_one ps_never) pss_nil)
    (pss_cons (ps_par (i := 5) (j := 6) (by rfl) sc_Turns_init.nd rfl rfl (by decide) rfl rfl (pa_cons pe_dnewK (pa_cons pe_dnewK pa_nil)) (by rfl))
    (pss_cons (ps_for (passes_of rfl) rfl (k_il (pv 2) (K := K)) (k_tup (n := 2) rfl (pgs_cons (pg_name (i := 3) sc_Turns_init.nd rfl (Or.inl rfl)) (pgs_cons (pg_name (i := 4) sc_Turns_init.nd rfl (Or.inl rfl)) pgs_nil)) (K := K))
    (pss_cons (ps_if (pt_not (pt_val (pe_c c_is_name hr (by decide) (pa_cons (pv 3) pa_nil) passL))) (pss_one ps_never) pss_nil)
    (pss_cons (ps_if (pt_cmp (pc_din (hu_of hr) (pv 3) (pv 5))) (pss_one ps_never) pss_nil)
    (pss_cons (ps_if (PW.pt (pw_or (pt_not (pt_val (pe_c c_is_whole hr (by decide) (pa_cons (pv 4) pa_nil) passL))) (pw_or (pt_cmpR op_lt (pv 4) pe_int (nomark _)) (pw_or1 (pt_cmpR (op_eqU hr (K := K)) (pv 4) pe_int (nomark _)))))) (pss_one ps_never) pss_nil)
    (pss_cons (ps_dput (hu_of hr) (pv 6) (pv 3) (pe_callB (call_lenU (K := K)) (by rfl) B.len (by decide +kernel) (pa_cons (pv 6) pa_nil)) rfl)
    (pss_one (ps_dput (hu_of hr) (pv 5) (pv 3) (pv 4) rfl)))))))
    (pss_cons (ps_fld (pv 0) (pe_callTy (k_tuple (K := K)) (by rfl) B.tuple (by decide +kernel) (pa_cons (pv 2) pa_nil)) rfl)
    (pss_cons (ps_fld (pv 0) (pe_callTy (k_tuple (K := K)) (by rfl) B.tuple (by decide +kernel) (pa_cons (pe_lc (own := [("name", 3), ("period", 4)]) rfl sc_Turns_init.nd (k_il (pv 2) (K := K)) (blkOk_by (N := N_Turns_init) (sc := defScope s_Turns_init) (by decide +kernel)) (fun _ _ _ _ _ => (k_tup (n := 2) rfl (pgs_cons (pg_name (i := 3) sc_Turns_init.nd rfl (Or.inl rfl)) (pgs_cons (pg_name (i := 4) sc_Turns_init.nd rfl (Or.inl rfl)) pgs_nil)) (K := K))) (fun _ _ _ _ _ => pts_nil) (fun _ _ _ _ _ => (pv 3))) pa_nil)) rfl)
    (pss_cons (ps_fld (pv 0) (pv 5) rfl)
    (pss_one (ps_fld (pv 0) (pv 6) rfl)))))))))), ?_⟩
    -- told = [(name, period) for ..]
    refine ⟨_, rfl, a, rfl, ⟨_, SqL.of (w0.sub _ _ ha)⟩, fun D hD => ?_⟩
    refine go_lc (F1 := F) (walk_list (xs := ps)) (Rp.pair Rp.str Rp.int) (fun i => ks.take i) (by have := ok.le; omega) w0.sub hD (by simp) (fun F1 H1 pu => SqL.of (pu.sub _ _ (pu.ff _ _ ha))) (fun i y F1 H1 l H' N hi pu fD hl1 hy kt kf => ?_) (fun F1 H1 ys pu fD hl1 pd1 => ?_)
    · obtain ⟨e1, hy⟩ := hy
      subst e1
      obtain ⟨d, t, z, u, hd, rfl, ht, rfl, rfl⟩ := pair_at pd hy
      refine ⟨t, _, rfl, SqT.of (pu.sub _ _ (pu.ff _ _ ht)), rfl, _, _, rfl, _, _, rfl, rfl, rfl, ?_⟩
      refine ⟨_, rfl, _, rfl, sz (n := 2) (by decide), fun p hp => ?_⟩
      exact kt (.ref p) _ (upd F1 p (.tup [.str d.1, .int d.2])) d ((Pu.refl pu.sub).add hp) ⟨p, _, _, rfl, upd_same, rfl, rfl⟩ (take_snoc hd)
    -- the lengths
    have hlt : ys.length = ks.length := by rw [pd_len pd1, hl, take_all]
    rw [hl, take_all] at pd1
    have w1 := (w0.lc hD pu fD hl1).fix 0
    have RL : RPairs.rel ks (.ref D) (upd F1 D (.lst ys)) := ⟨D, ys, rfl, upd_same, pd_mono (fun _ _ => (Rp.pair Rp.str Rp.int).mono (Same.new fD)) pd1⟩
    refine ⟨_, rfl, .inl ⟨D, ys, rfl, .inl (SqL.of hl1), ?_⟩⟩
    refine .inl ⟨rfl, _, rfl, ?_⟩
    rw [decide_eq_false (by rw [hlt]; have := ok.pos; intro e; injection e with e; omega)]
    refine ⟨_, rfl, .inl ⟨D, ys, rfl, .inl (SqL.of hl1), _, _, rfl, rfl, _, rfl, ?_⟩⟩
    rw [decide_eq_false (by rw [hlt]; have := ok.le; omega)]
    -- periods, ranks = {}, {}
    refine fun td htd => fun tr htr => ⟨_, _, rfl, ?_⟩
    have w2 := (w1.new (o := .dK []) htd).new (o := .dK []) htr
    -- the loop
    refine ⟨_, rfl, D, rfl, ⟨_, SqL.of (w2.sub _ _ upd_same)⟩, ?_⟩
    refine for_it (walk_list (xs := ys)) (fun i σ H' => ∃ (F' : Hp) (n p : Option V), Own F H0 F' H' [(tr, .dK (kranks (ks.take i) 0)), (td, .dK (kper (ks.take i))), (x, .ins CT dx [])] ∧ Same (upd F1 D (.lst ys)) F' ∧
        σ = [some (.ref x), some (.ref a), some (.ref D), n, p, some (.ref td), some (.ref tr)]) ⟨_, none, none, w2, Same.refl _, rfl⟩ (fun i σ H' _ ⟨F', n, p, w3, s3, _⟩ => SqL.of (w3.sub _ _ (s3 _ _ upd_same))) ?_ ?_
    · rintro i y σ H' H'' hi ⟨F', n0, p0, w3, s3, rfl⟩ ⟨e1, hy⟩
      subst e1
      obtain ⟨d, t, z, u, hd, rfl, ht, rfl, rfl⟩ := pair_at (pd_mono (fun _ _ => (Rp.pair Rp.str Rp.int).mono ((Same.new fD).trans s3)) pd1) hy
      have md : d ∈ ks := List.mem_of_getElem? hd
      have hfr := fresh_at ok.nd hd
      refine ⟨t, _, rfl, SqT.of (w3.sub _ _ ht), rfl, _, _, rfl, _, _, rfl, rfl, ?_⟩
      refine ⟨_, rfl, .str d.1, rfl, .inl ⟨d.1, rfl, (ok.nm d md).2, fun H4 s4 => ?_⟩⟩
      have w4 := w3.tmp s4
      rw [(ok.nm d md).1]
      refine ⟨_, rfl, ?_⟩
      refine ⟨_, rfl, _, rfl, td, _, rfl, DGet.k (k := Sum.inr d.1) (w4.at 1), ?_⟩
      rw [val_per, hfr]
      refine ⟨_, rfl, ?_⟩
      refine ⟨_, rfl, d.2, rfl, fun H5 s5 => ⟨_, rfl, ?_⟩⟩
      have w5 := w4.tmp s5
      refine ⟨_, rfl, _, _, rfl, rfl, _, rfl, ?_⟩
      rw [decide_eq_false (by have := (ok.pe d md).1; omega)]
      refine ⟨_, rfl, .inl ⟨rfl, _, rfl, ?_⟩⟩
      rw [decide_eq_false (by have := (ok.pe d md).2; simpa using this)]
      have hik : i < ks.length := (List.getElem?_eq_some_iff.mp hd).1
      have hlr : (kranks (ks.take i) 0).length = i := by
        rw [kranks_len, List.length_take]
        omega
      -- ranks[name] = len(ranks)
      refine ⟨_, rfl, .inr (.inr ⟨tr, _, rfl, w5.at 0, ?_⟩)⟩
      refine ⟨_, rfl, _, rfl, tr, _, rfl, DPut.k (k := Sum.inr d.1) (w5.at 0) (szl (by have := ok.le; omega)), ?_⟩
      have w6 := w5.mut (o' := .dK (putK (kranks (ks.take i) 0) (Sum.inr d.1) (.int (kranks (ks.take i) 0).length))) 0
      -- periods[name] = period
      refine ⟨_, rfl, _, rfl, _, rfl, td, _, rfl, DPut.k (k := Sum.inr d.1) (w6.at 1) (szl (by simp [kper]; have := ok.le; omega)), ?_⟩
      have w7 := w6.mut (o' := .dK (putK (kper (ks.take i)) (Sum.inr d.1) (.int d.2))) 1
      have ep : putK (kper (ks.take i)) (Sum.inr d.1) (.int d.2) = kper (ks.take (i + 1)) := by
        rw [putK_new _ (by rw [val_per, hfr]; rfl), take_snoc hd]
        simp [kper]
      have er : putK (kranks (ks.take i) 0) (Sum.inr d.1) (.int (kranks (ks.take i) 0).length) = kranks (ks.take (i + 1)) 0 := by
        rw [putK_new _ (by rw [val_ranks, rank_none hfr]; rfl), take_snoc hd, kranks_snoc, hlr, List.length_take]
        congr 4
        have : (0 + min i ks.length : Nat) = i := by omega
        rw [this]
      rw [ep, er] at w7
      rw [ep, er]
      exact ⟨F', _, _, w7, s3, rfl⟩
    · rintro σ H' ⟨F', n0, p0, w3, s3, rfl⟩
      rw [hlt, take_all] at w3
      obtain ⟨D', ys', e', hD', pd'⟩ := RPairs.mono s3 RL
      cases e'
      have eys : ys' = ys := by
        have q := s3 _ _ (show upd F1 D (.lst ys) D = some (.lst ys) from upd_same)
        rw [q] at hD'
        cases hD'
        rfl
      subst eys
      -- self.pairs = tuple(told)
      refine ⟨_, rfl, D, ys', rfl, .inl ⟨SqL.of (w3.sub _ _ hD'), fun tp htp => ?_⟩⟩
      have w4 := w3.add (o := .tup ys') htp
      refine ⟨_, rfl, st_fld w4 T.cl (T.no _ (by decide)) 2 [] rfl rfl (by decide +kernel) (by decide) fun w5 => ?_⟩
      have s4 : Same F' (upd F' tp (.tup ys')) := Same.new (w3.sub.free htp)
      -- self.names = tuple([name for ..])
      refine ⟨_, rfl, D, rfl, ⟨_, SqL.of (w5.sub _ _ (s4 _ _ hD'))⟩, fun D2 hD2 => ?_⟩
      refine go_lc (F1 := upd F' tp (.tup ys')) (walk_list (xs := ys')) Rp.str (fun i => (ks.map (·.1)).take i) (by rw [hlt]; have := ok.le; omega) w5.sub hD2 (by simp) (fun F5 H5 pu => SqL.of (pu.sub _ _ (pu.ff _ _ (s4 _ _ hD')))) (fun i y F5 H5 l H'' N hi pu fD5 hl5 hy kt kf => ?_) (fun F5 H5 zs pu fD5 hl5 pd5 => ?_)
      · obtain ⟨e1, hy⟩ := hy
        subst e1
        obtain ⟨d, t, z, u, hd, rfl, ht, rfl, rfl⟩ := pair_at pd' hy
        refine ⟨t, _, rfl, SqT.of (pu.sub _ _ (pu.ff _ _ (s4 _ _ ht))), rfl, _, _, rfl, _, _, rfl, rfl, rfl, ?_⟩
        exact ⟨_, rfl, kt (.str d.1) _ F5 d.1 (Pu.refl pu.sub) rfl (take_snoc (by rw [List.getElem?_map, hd]; rfl))⟩
      · have ez : zs = ks.map fun p => V.str p.1 := by
          have := pd_eq (f := V.str) (by exact pd5)
          rw [this, hlt]
          rw [show ks.length = (ks.map (·.1)).length by simp, take_all, List.map_map]
          rfl
        subst ez
        have w6 := w5.lc hD2 pu fD5 hl5
        refine ⟨D2, _, rfl, .inl ⟨SqL.of hl5, fun tn htn => ?_⟩⟩
        have s6 := Same.new (o := .tup (ks.map fun p => V.str p.1)) (w6.sub.free htn)
        have w7 := w6.add (o := .tup (ks.map fun p => V.str p.1)) htn
        refine ⟨_, rfl, st_fld w7 T.cl (T.no _ (by decide)) 3 ["pairs"] rfl rfl (by decide +kernel) (by decide) fun w8 => ?_⟩
        refine ⟨_, rfl, _, rfl, st_fld w8 T.cl (T.no _ (by decide)) 3 ["pairs", "names"] rfl rfl (by decide +kernel) (by decide) fun w9 => ?_⟩
        refine ⟨_, rfl, _, rfl, st_fld w9 T.cl (T.no _ (by decide)) 3 ["pairs", "names", "periods"] rfl rfl (by decide +kernel) (by decide) fun w10 => ?_⟩
        have w11 := w10.fix 1
        have w12 := w11.fix 1
        have w13 := w12.fix 1
        have s7 := (w10.ext 1).trans ((w11.ext 1).trans (w12.ext 1))
        have s8 := s6.trans s7
        refine k _ _ w13.pu ⟨x, dx, tp, tn, td, tr, rfl, upd_same, ?_, s7 _ _ upd_same, ?_, ?_⟩
        · exact ⟨tp, ys', rfl, s8 _ _ (pu.ff _ _ upd_same), pd_mono (fun _ _ => (Rp.pair Rp.str Rp.int).mono (s4.trans (pu.ff.trans s8))) pd'⟩
        · exact (w12.ext 1) _ _ upd_same
        · exact ((w11.ext 1).trans (w12.ext 1)) _ _ upd_same
end
end TR

/-! part A5 -/
namespace TR
open PySem PySem.Spec PyProof.Rows L2 G
abbrev Steps : Type := List (Str × Int)
def redE (p e : Int) : Int := if 0 < p then e % p else e
def perOf (ks : Kinds) (z : Str) : Int := (ks.lookup z).getD 0
def nput (ks : Kinds) (kept : Steps) (z : Str) (e : Int) : Steps := if redE (perOf ks z) e = 0 then kept else kept ++ [(z, redE (perOf ks z) e)]
/-- one step more of a row -/
def nstep (ks : Kinds) (kept : Steps) (d : Str × Int) : Steps := match kept.getLast? with
  | none => nput ks kept d.1 d.2
  | some m => if m.1 = d.1 then nput ks kept.dropLast d.1 (d.2 + m.2) else nput ks kept d.1 d.2
theorem nstep_some {ks : Kinds} {kept : Steps} {d m : Str × Int} (h : kept.getLast? = some m) : nstep ks kept d = if m.1 = d.1 then nput ks kept.dropLast d.1 (d.2 + m.2) else nput ks kept d.1 d.2 := by
  unfold nstep
  rw [h]
def normal (ks : Kinds) (ss : Steps) : Steps := ss.foldl (nstep ks) []
theorem nput_len (ks : Kinds) (kept : Steps) (z : Str) (e : Int) : (nput ks kept z e).length ≤ kept.length + 1 := by
  unfold nput
  split
  · omega
  · simp
theorem nstep_len (ks : Kinds) (kept : Steps) (d : Str × Int) : (nstep ks kept d).length ≤ kept.length + 1 := by
  unfold nstep
  split
  · exact nput_len _ _ _ _
  · split
    · have := nput_len ks kept.dropLast d.1 (d.2 + (‹Str × Int› : Str × Int).2)
      simp at this ⊢
      omega
    · exact nput_len _ _ _ _
section
variable {P : Program} {w : World} {K : PySem.W.Frag} {mg : Str → Option Value} {base : Heap} {CT : Addr}
abbrev s_reduced : Stmt := top 40
abbrev N_reduced : List Str := ["turns", "name", "exponent", "period"]
abbrev P_reduced : List Str := ["turns", "name", "exponent"]
theorem sc_reduced : FnScope N_reduced P_reduced (defScope s_reduced) := ⟨rfl, rfl, rfl, by decide +kernel, rfl, by decide +kernel, by decide +kernel⟩
theorem bn_reduced : BindsNo "reduced" "reduced" s_reduced P_reduced := fun _ _ _ _ _ _ us hl => match us, hl with | [_, _, _], _ => rfl
def sp_reduced (C : Addr) : Sp := fun vs H Q _ => ∃ (v : V) (z : Str) (ks : Kinds) (e p : Int), vs = [v, .str z, .int e] ∧ (RTurns C).rel ks v H ∧ ks.lookup z = some p ∧ ∀ H', Same H H' → Q (.int (redE p e)) H'
theorem ok_reduced (m_period_of : Met P w K mg base 2 CT "period_of" (sp_Turns_period CT)) (F : FnF K mg "reduced" s_reduced []) : Cal P w K mg base 3 "reduced" (sp_reduced CT) := by
  refine F.cal sc_reduced bn_reduced (fun vs H Q E h => ?_) (fun f cdv A outer s H vs Q E hr h => ?_)
  · obtain ⟨v, z, ks, e, p, rfl, _⟩ := h
    rfl
  · obtain ⟨v, z, ks, e, p, rfl, r, hp, k⟩ := h
    obtain ⟨a, dx, tp, tn, td, tr, t⟩ := id r
    refine ⟨_, (pss_cons (ps_set (i := 3) sc_reduced.nd rfl (Or.inl rfl) (pe_m m_period_of hr (by decide) (pv 0) (pa_cons (pv 1) pa_nil) passL))
    (pss_one (ps_ret (pe_ifExp (pt_cmpR op_gt (pv 3) pe_int (nomark _)) (pe_op op_mod (pv 2) (pv 3)) (pv 2))))), ?_⟩
    refine ⟨_, rfl, a, dx, _, t.ev, t.ob, rfl, _, rfl, v, z, ks, p, rfl, r, hp, fun H1 s1 => ?_⟩
    refine ⟨_, rfl, _, _, rfl, rfl, _, rfl, ?_⟩
    by_cases h0 : p > 0
    · rw [decide_eq_true h0]
      have q := k H1 s1
      rw [show redE p e = e % p from if_pos h0] at q
      exact ⟨_, rfl, _, rfl, _, _, rfl, rfl, h0, q⟩
    · rw [decide_eq_false h0]
      have q := k H1 s1
      rw [show redE p e = e from if_neg h0] at q
      exact ⟨_, rfl, q⟩
abbrev s_normal_steps : Stmt := top 41
abbrev N_normal_steps : List Str := ["turns", "steps", "kept", "name", "exponent"]
abbrev P_normal_steps : List Str := ["turns", "steps"]
theorem sc_normal_steps : FnScope N_normal_steps P_normal_steps (defScope s_normal_steps) := ⟨rfl, rfl, rfl, by decide +kernel, rfl, by decide +kernel, by decide +kernel⟩
theorem bn_normal_steps : BindsNo "normal_steps" "normal_steps" s_normal_steps P_normal_steps := fun _ _ _ _ _ _ us hl => match us, hl with | [_, _], _ => rfl
def sp_normal_steps (K : PySem.W.Frag) (C : Addr) : Sp := fun vs H Q _ => ∃ (F : Hp) (v u : V) (ks : Kinds) (ss : Steps), vs = [v, u] ∧ Same F H ∧ (RTurns C).rel ks v F ∧ (RSeqs K).rel ss u F ∧ (∀ d ∈ ss, ∃ p, ks.lookup d.1 = some p) ∧ ss.length ≤ 10000 ∧
  ∀ r F' H', Pu F H F' H' → RPairs.rel (normal ks ss) r F' → Q r H'
theorem ok_normal_steps (c_reduced : Cal P w K mg base 3 "reduced" (sp_reduced CT)) (F : FnF K mg "normal_steps" s_normal_steps []) : Cal P w K mg base 4 "normal_steps" (sp_normal_steps K CT) := by
  refine F.cal sc_normal_steps bn_normal_steps (fun vs H Q E h => ?_) (fun f cdv A outer s H vs Q E hr h => ?_)
  · obtain ⟨_, v, u, _, _, rfl, _⟩ := h
    rfl
  · obtain ⟨F, v, u, ks, ss, rfl, sF, r, ⟨a, ps, rfl, ha, pd⟩, hin, hlen, k⟩ := h
    obtain ⟨ta, dx, tp, tn, td, tr, t⟩ := id r
    have hl : ps.length = ss.length := pd_len pd
    refine ⟨_, (pss_cons (ps_set (i := 2) sc_normal_steps.nd rfl (Or.inl rfl) (pe_lst pa_nil))
    (pss_cons (ps_for (passes_of rfl) rfl (k_iu (pv 1) (K := K)) (k_tup (n := 2) rfl (pgs_cons (pg_name (i := 3) sc_normal_steps.nd rfl (Or.inl rfl)) (pgs_cons (pg_name (i := 4) sc_normal_steps.nd rfl (Or.inl rfl)) pgs_nil)) (K := K))
    (pss_cons (ps_if (PW.pt (pw_and (pt_truth (pv 2) (by intro _; rfl)) (pw_and1 (pt_cmpR (op_eqU hr (K := K)) (pe_ix (k_ix (K := K)) (pe_ix (k_ix (K := K)) (pv 2) (pe_un un_neg pe_int) (fun _ _ => rfl)) pe_int (fun _ _ => rfl)) (pv 3) (nomark _))))) (pss_one (ps_set (i := 4) sc_normal_steps.nd rfl (Or.inl rfl) (pe_op op_addU (pv 4) (pe_ix (k_ix (K := K)) (pe_bm0 PySem.F.plainAttrs_list PySem.F.slot_list_pop PySem.F.type_list_pop mt_pop (pv 2)) pe_int (fun _ _ => rfl))))) pss_nil)
    (pss_cons (ps_set (i := 4) sc_normal_steps.nd rfl (Or.inl rfl) (pe_c c_reduced hr (by decide) (pa_cons (pv 0) (pa_cons (pv 3) (pa_cons (pv 4) pa_nil))) passL))
    (pss_one (ps_if (pt_cmpR (op_neU hr (K := K)) (pv 4) pe_int (nomark _)) (pss_one (ps_expr (pe_bm PySem.F.plainAttrs_list PySem.F.slot_list_append PySem.F.type_list_append mt_append (pv 2) (pa_cons (pe_tup (pa_cons (pv 3) (pa_cons (pv 4) pa_nil))) pa_nil)))) pss_nil)))))
    (pss_one (ps_ret (pv 2))))), ?_⟩
    refine ⟨sz (n := 0) (by decide), fun D hD => ?_⟩
    refine seqU2 ha (sF.trans (Same.new hD)) (fun Q q => ⟨_, rfl, q⟩) fun J Gd wk hG => ?_
    have w0 : Own F H F (upd H D (.lst [])) [(D, .lst [])] := (Own.nil (Pu.refl sF)).new hD
    refine for_it wk (fun i σ H' => ∃ (F' : Hp) (n p : Option V) (ys : List V), Own F H F' H' [(D, .lst ys)] ∧ Paired (fun d x => (Rp.pair Rp.str Rp.int).rel d x F') ((ss.take i).foldl (nstep ks) []) ys ∧ ((ss.take i).foldl (nstep ks) []).length ≤ i ∧
        σ = [some v, some (.ref a), some (.ref D), n, p]) ⟨F, none, none, [], w0, .nil, Nat.le_refl _, rfl⟩ (fun i σ H' _ ⟨F', n, p, ys, w1, _⟩ => hG _ (w1.ff.trans w1.sub)) ?_ ?_
    · rintro i y σ H' H'' hi ⟨F', n0, p0, ys, w1, pd1, len1, rfl⟩ ⟨e1, hy⟩
      subst e1
      obtain ⟨d, t0, z, u, hd, rfl, ht, rfl, rfl⟩ := pair_at pd hy
      obtain ⟨p, hp⟩ := hin d (List.mem_of_getElem? hd)
      rw [take_snoc hd, List.foldl_append]
      refine ⟨t0, _, rfl, SqT.of (w1.sub _ _ (w1.ff _ _ ht)), rfl, _, _, rfl, _, _, rfl, rfl, ?_⟩
      refine sj (R := fun σ2 H2 => ∃ (F2 : Hp) (ys2 : List V) (ks2 : Steps) (e : Int), σ2 = [some v, some (.ref a), some (.ref D), some (.str d.1), some (.int e)] ∧ Own F H F2 H2 [(D, .lst ys2)] ∧ Paired (fun d x => (Rp.pair Rp.str Rp.int).rel d x F2) ks2 ys2 ∧ ks2.length ≤ i ∧ nstep ks ((ss.take i).foldl (nstep ks) []) d = nput ks ks2 d.1 e) ?_ (fun fin => ?_)
      · rintro σ2 H2 ⟨F2, ys2, ks2, e, rfl, w2, pd2, len2, en⟩
        refine ⟨_, rfl, _, rfl, _, rfl, v, d.1, ks, e, p, rfl, (RTurns CT).mono (w2.ff.trans w2.sub) r, hp, fun H3 s3 => ?_⟩
        have w3 := w2.tmp s3
        refine ⟨_, rfl, .inl ⟨rfl, _, rfl, ?_⟩⟩
        have ep : perOf ks d.1 = p := by unfold perOf; rw [hp]; rfl
        by_cases h0 : redE p e = 0
        · rw [decide_eq_true (congrArg V.int h0)]
          refine ⟨F2, _, _, ys2, w3, ?_, ?_, rfl⟩
          · show Paired _ (nstep ks _ d) _
            rw [en, nput, ep, if_pos h0]
            exact pd2
          · show (nstep ks _ d).length ≤ _
            rw [en, nput, ep, if_pos h0]
            omega
        · rw [decide_eq_false (fun q => h0 (V.int.inj q))]
          refine ⟨_, rfl, ?_⟩
          refine ⟨.inl ⟨rfl, _, SqL.of (w3.at 0)⟩, _, rfl, _, rfl, sz (n := 2) (by decide), fun q hq => ?_⟩
          have w4 := w3.add (o := .tup [.str d.1, .int (redE p e)]) hq
          refine ⟨D, ys2, _, rfl, rfl, w4.at 0, szl (by have := pd_len pd2; omega), ?_⟩
          have w5 := w4.mut (o' := .lst (ys2 ++ [.ref q])) 0
          refine ⟨_, _, _, _, w5, ?_, ?_, rfl⟩
          · show Paired _ (nstep ks _ d) _
            rw [en, nput, ep, if_neg h0]
            exact pd_snoc (pd_mono (fun _ _ => (Rp.pair Rp.str Rp.int).mono (Same.new (w3.sub.free hq))) pd2) ⟨q, _, _, rfl, upd_same, rfl, rfl⟩
          · show (nstep ks _ d).length ≤ _
            rw [en, nput, ep, if_neg h0]
            simp; omega
      · refine ⟨_, rfl, _, .inl ⟨_, SqL.of (w1.at 0), rfl⟩, ?_⟩
        cases hk : ((ss.take i).foldl (nstep ks) []).getLast? with
        | none =>
          have hn := List.getLast?_eq_none_iff.mp hk
          have hy0 : ys = [] := by rw [hn] at pd1; cases pd1; rfl
          subst hy0
          refine fin _ _ ⟨F', [], [], d.2, rfl, w1, .nil, Nat.zero_le _, ?_⟩
          rw [hn]
          rfl
        | some m =>
          obtain ⟨x, hx, c, y1, y2, rfl, hc, rfl, rfl⟩ := pd_last pd1 hk
          have hne : ys ≠ [] := by intro q; subst q; cases hx
          rw [show (!ys.isEmpty) = true by cases ys with
            | nil => exact absurd rfl hne
            | cons _ _ => rfl]
          refine ⟨_, rfl, _, rfl, .inl ⟨D, ys, _, _, rfl, rfl, SqL.of (w1.at 0), atI_last hx, ?_⟩⟩
          refine .inr (.inl ⟨c, _, 0, _, rfl, rfl, SqT.of (w1.sub _ _ hc), atI_nat rfl, ?_⟩)
          refine ⟨_, rfl, .inl ⟨rfl, _, rfl, ?_⟩⟩
          by_cases h0 : m.1 = d.1
          · rw [decide_eq_true (congrArg V.str h0)]
            refine ⟨_, rfl, _, rfl, .inl ⟨rfl, _, SqL.of (w1.at 0)⟩, D, ys, _, rfl, rfl, w1.at 0, by rw [← List.getLast?_eq_getElem?]; exact hx, ?_⟩
            have w2 := w1.mut (o' := .lst ys.dropLast) 0
            refine .inr (.inl ⟨c, _, 1, _, rfl, rfl, SqT.of (w2.sub _ _ hc), atI_nat rfl, ?_⟩)
            refine .inl ⟨_, _, rfl, rfl, ?_⟩
            refine fin _ _ ⟨F', _, _, _, rfl, w2, pd_dropLast pd1, by simp; omega, ?_⟩
            rw [nstep_some hk]
            exact if_pos h0
          · rw [decide_eq_false (fun q => h0 (V.str.inj q))]
            refine fin _ _ ⟨F', ys, _, d.2, rfl, w1, pd1, len1, ?_⟩
            rw [nstep_some hk]
            exact if_neg h0
    · rintro σ H' ⟨F', n0, p0, ys, w1, pd1, len1, rfl⟩
      rw [hl, take_all] at pd1
      refine ⟨_, rfl, k (.ref D) _ _ (w1.fix 0).pu ⟨D, ys, rfl, upd_same, pd_mono (fun _ _ => (Rp.pair Rp.str Rp.int).mono (w1.ext 0)) pd1⟩⟩
end
end TR

/-! part A6 -/
namespace TR
open PySem PySem.Spec PyProof.Rows L2 G
def min2 (i j : Int) : Int := if j < i then j else i
def abs2 (i : Int) : Int := if i < 0 then -i else i
def b2i (b : Bool) : Int := if b = true then 1 else 0
def keyOf (ks : Kinds) (d : Str × Int) : Int × Int × Int :=
  if 0 < perOf ks d.1 then (((rankOf ks d.1).getD 0 : Nat), min2 d.2 (perOf ks d.1 - d.2), b2i !decide (V.int d.2 = V.int (min2 d.2 (perOf ks d.1 - d.2))))
  else (((rankOf ks d.1).getD 0 : Nat), abs2 d.2, b2i (decide (d.2 < 0)))
def RTri : Rp (Int × Int × Int) := ⟨fun d v F => ∃ a, v = .ref a ∧ F a = some (.tup [.int d.1, .int d.2.1, .int d.2.2]), fun s ⟨a, e, h⟩ => ⟨a, e, s _ _ h⟩⟩
abbrev RStep : Rp (Str × Int) := Rp.pair Rp.str Rp.int
structure RowD where
  ks : Kinds
  ss : Steps
structure RowAt (CT CR : Addr) (d : RowD) (v : V) (F : Hp) (a dx ts tk tq tp : Addr) (tv : V) : Prop where
  ev : v = .ref a
  ob : F a = some (.ins CR dx [("turns", tv), ("steps", .ref ts), ("key", .ref tk)])
  tu : (RTurns CT).rel d.ks tv F
  st : (Rp.tup RStep).rel d.ss (.ref ts) F
  ke : F tk = some (.tup [.int d.ss.length, .ref tq, .ref tp])
  kq : (Rp.tup RTri).rel (d.ss.map (keyOf d.ks)) (.ref tq) F
  kp : RKinds.rel d.ks (.ref tp) F
def RRow (CT CR : Addr) : Rp RowD := ⟨fun d v F => ∃ a dx ts tk tq tp tv, RowAt CT CR d v F a dx ts tk tq tp tv,
  fun s ⟨a, dx, ts, tk, tq, tp, tv, h⟩ => ⟨a, dx, ts, tk, tq, tp, tv, h.ev, s _ _ h.ob, (RTurns CT).mono s h.tu, (Rp.tup RStep).mono s h.st, s _ _ h.ke, (Rp.tup RTri).mono s h.kq, RKinds.mono s h.kp⟩⟩
section
variable {P : Program} {w : World} {K : PySem.W.Frag} {mg : Str → Option Value} {base : Heap} {CT CR : Addr}
abbrev s_step_key : Stmt := top 42
abbrev N_step_key : List Str := ["turns", "step", "name", "exponent", "period", "clicks"]
abbrev P_step_key : List Str := ["turns", "step"]
theorem sc_step_key : FnScope N_step_key P_step_key (defScope s_step_key) := ⟨rfl, rfl, rfl, by decide +kernel, rfl, by decide +kernel, by decide +kernel⟩
theorem bn_step_key : BindsNo "step_key" "step_key" s_step_key P_step_key := fun _ _ _ _ _ _ us hl => match us, hl with | [_, _], _ => rfl
def sp_step_key (C : Addr) : Sp := fun vs H Q _ => ∃ (F : Hp) (v u : V) (ks : Kinds) (d : Str × Int), vs = [v, u] ∧ Same F H ∧ (RTurns C).rel ks v F ∧ RStep.rel d u F ∧ (∃ p, ks.lookup d.1 = some p) ∧
  ∀ r F' H', Pu F H F' H' → RTri.rel (keyOf ks d) r F' → Q r H'
theorem ok_step_key (B : Bt mg) (m_period_of : Met P w K mg base 2 CT "period_of" (sp_Turns_period CT)) (m_rank : Met P w K mg base 2 CT "rank" (sp_Turns_rank CT)) (F : FnF K mg "step_key" s_step_key []) : Cal P w K mg base 3 "step_key" (sp_step_key CT) := by
  refine F.cal sc_step_key bn_step_key (fun vs H Q E h => ?_) (fun f cdv A outer s H vs Q E hr h => ?_)
  · obtain ⟨_, v, u, _, _, rfl, _⟩ := h
    rfl
  · obtain ⟨F, v, u, ks, d, rfl, sF, r, ⟨t0, y1, y2, rfl, ht, rfl, rfl⟩, ⟨p, hp⟩, k⟩ := h
    obtain ⟨a, dx, tp, tn, td, tr, t⟩ := id r
    obtain ⟨j, hj⟩ := rank_some hp
    refine ⟨_, (pss_cons (ps_asg (pv 1) (k_tup (n := 2) rfl (pgs_cons (pg_name (i := 2) sc_step_key.nd rfl (Or.inl rfl)) (pgs_cons (pg_name (i := 3) sc_step_key.nd rfl (Or.inl rfl)) pgs_nil)) (K := K)))
    (pss_cons (ps_set (i := 4) sc_step_key.nd rfl (Or.inl rfl) (pe_m m_period_of hr (by decide) (pv 0) (pa_cons (pv 2) pa_nil) passL))
    (pss_cons (ps_if (pt_cmpR op_gt (pv 4) pe_int (nomark _)) (pss_cons (ps_set (i := 5) sc_step_key.nd rfl (Or.inl rfl) (pe_callB (call_min2 rfl) (by rfl) B.min (by decide +kernel) (pa_cons (pe_callTy call_int1 (by rfl) B.int (by decide +kernel) (pa_cons (pv 3) pa_nil)) (pa_cons (pe_op op_sub (pv 4) (pv 3)) pa_nil))))
    (pss_one (ps_ret (pe_tup (pa_cons (pe_m m_rank hr (by decide) (pv 0) (pa_cons (pv 2) pa_nil) passL) (pa_cons (pv 5) (pa_cons (pe_callTy call_int1 (by rfl) B.int (by decide +kernel) (pa_cons (pe_cmpR (op_neU hr (K := K)) (pv 3) (pv 5) (nomark _)) pa_nil)) pa_nil))))))) pss_nil)
    (pss_one (ps_ret (pe_tup (pa_cons (pe_m m_rank hr (by decide) (pv 0) (pa_cons (pv 2) pa_nil) passL) (pa_cons (pe_callB call_abs (by rfl) B.abs (by decide +kernel) (pa_cons (pv 3) pa_nil)) (pa_cons (pe_callTy call_int1 (by rfl) B.int (by decide +kernel) (pa_cons (pe_cmpR op_lt (pv 3) pe_int (nomark _)) pa_nil)) pa_nil))))))))), ?_⟩
    refine ⟨_, rfl, t0, _, rfl, SqT.of (sF _ _ ht), rfl, _, _, rfl, _, _, rfl, rfl, ?_⟩
    refine ⟨_, rfl, a, dx, _, t.ev, sF _ _ t.ob, rfl, _, rfl, v, d.1, ks, p, rfl, (RTurns CT).mono sF r, hp, fun H1 s1 => ?_⟩
    have sF1 := sF.trans s1
    refine ⟨_, rfl, _, _, rfl, rfl, _, rfl, ?_⟩
    have ep : perOf ks d.1 = p := by unfold perOf; rw [hp]; rfl
    by_cases h0 : p > 0
    · rw [decide_eq_true h0]
      refine ⟨_, rfl, .inl ⟨_, rfl, _, rfl, _, rfl, _, _, rfl, rfl, _, _, rfl, ?_⟩⟩
      refine ⟨_, rfl, a, dx, _, t.ev, sF1 _ _ t.ob, rfl, _, rfl, v, d.1, ks, j, rfl, (RTurns CT).mono sF1 r, ⟨p, hp⟩, hj, fun H2 s2 => ?_⟩
      have sF2 := sF1.trans s2
      refine ⟨_, rfl, _, rfl, _, rfl, .inl ⟨rfl, .inr ⟨_, rfl, ?_⟩⟩⟩
      refine ⟨sz (n := 3) (by decide), fun q hq => k _ (upd F q _) _ ⟨(s1.trans s2).trans (Same.new hq), (Grow.tmp sF (s1.trans s2)).trans (s1.trans s2) (Grow.add sF2 hq)⟩ ⟨q, rfl, ?_⟩⟩
      rw [upd_same, keyOf, ep, if_pos h0, hj]
      rfl
    · rw [decide_eq_false h0]
      refine ⟨_, rfl, a, dx, _, t.ev, sF1 _ _ t.ob, rfl, _, rfl, v, d.1, ks, j, rfl, (RTurns CT).mono sF1 r, ⟨p, hp⟩, hj, fun H2 s2 => ?_⟩
      have sF2 := sF1.trans s2
      refine ⟨_, rfl, _, rfl, _, rfl, _, _, rfl, rfl, .inr ⟨_, rfl, ?_⟩⟩
      refine ⟨sz (n := 3) (by decide), fun q hq => k _ (upd F q _) _ ⟨(s1.trans s2).trans (Same.new hq), (Grow.tmp sF (s1.trans s2)).trans (s1.trans s2) (Grow.add sF2 hq)⟩ ⟨q, rfl, ?_⟩⟩
      rw [upd_same, keyOf, ep, if_neg h0, hj]
      rfl
end
end TR

/-! part Bag -/
/-! The bag of draws: a dict that a law's defs change; beside it nothing that was is changed. -/
namespace G
open PySem PySem.Spec PyProof.Rows L2
theorem del_upd {H : Hp} {b p : Addr} {o : HO} (n : p ≠ b) : del (upd H p o) b = upd (del H b) p o := by
  funext x
  by_cases e : x = b
  · subst e
    rw [del_same, upd_ne (Ne.symm n), del_same]
  · rw [del_ne e]
    by_cases f : x = p
    · subst f; rw [upd_same, upd_same]
    · rw [upd_ne f, upd_ne f, del_ne e]
theorem del_upd_self {H : Hp} {b : Addr} {o : HO} : del (upd H b o) b = del H b := by
  funext x
  by_cases e : x = b
  · subst e; rw [del_same, del_same]
  · rw [del_ne e, del_ne e, upd_ne e]
theorem del_sub {H : Hp} {b : Addr} : Same (del H b) H := fun a o e => by
  by_cases z : a = b
  · subst z; rw [del_same] at e; cases e
  · rw [del_ne z] at e; exact e
theorem del_at {H : Hp} {a b : Addr} {o : HO} (e : del H b a = some o) : a ≠ b := fun z => by subst z; rw [del_same] at e; cases e
/-- nothing but the thing at b is changed -/
structure Pb (b : Addr) (F H F' H' : Hp) : Prop where
  pu : Pu F (del H b) F' (del H' b)
theorem Pb.sub {b : Addr} {F H F' H' : Hp} (q : Pb b F H F' H') : Same F' H' := q.pu.sub.trans del_sub
theorem Pb.ff {b : Addr} {F H F' H' : Hp} (q : Pb b F H F' H') : Same F F' := q.pu.ff
theorem Pb.trans {b : Addr} {F H F1 H1 F2 H2 : Hp} (p : Pb b F H F1 H1) (q : Pb b F1 H1 F2 H2) : Pb b F H F2 H2 := ⟨p.pu.trans q.pu⟩
theorem same_del {b : Addr} {F H : Hp} (s : Same F H) (f : F b = none) : Same F (del H b) := fun a o e => by
  rw [del_ne (fun z => by subst z; rw [f] at e; cases e)]
  exact s a o e
theorem Pb.refl {b : Addr} {F H : Hp} (s : Same F H) (f : F b = none) : Pb b F H F H := ⟨Pu.refl (same_del s f)⟩
theorem Pu.pb {b : Addr} {F H F' H' : Hp} (q : Pu F H F' H') (f : F b = Option.none) (h : H b ≠ Option.none) : Pb b F H F' H' := by
  have f' : F' b = Option.none := q.none f h
  refine ⟨⟨fun a o e => ?_, q.ff, same_del q.sub f', fun a o e => ?_⟩⟩
  · have n := del_at e
    rw [del_ne n] at e ⊢
    exact q.same a o e
  · rcases q.grow.fresh a o e with z | z
    · exact .inl z
    · refine .inr ?_
      rw [del_ne (fun y => by subst y; rw [f'] at e; cases e)]
      exact z
theorem Pb.self {b : Addr} {F H : Hp} {o : HO} (s : Same F H) (f : F b = none) : Pb b F H F (upd H b o) := ⟨by rw [del_upd_self]; exact Pu.refl (same_del s f)⟩
theorem Pb.keep {b a : Addr} {F H F' H' : Hp} {o : HO} (q : Pb b F H F' H') (n : a ≠ b) (e : H a = some o) : H' a = some o := by
  have := q.pu.same a o (by rw [del_ne n]; exact e)
  rwa [del_ne n] at this

structure BagS where
  cells : List Int
  at_ : Nat
  digits : Int
  count : Nat
  fold : Int
def bagKv (cl : Addr) (s : BagS) : List (L2.Key × V) := [(Sum.inr "cells", .ref cl), (Sum.inr "at", .int s.at_), (Sum.inr "digits", .int s.digits), (Sum.inr "count", .int s.count), (Sum.inr "fold", .int s.fold)]
structure BagOk (F : Hp) (b cl : Addr) (n : Nat) (s : BagS) (H : Hp) : Prop where
  ob : H b = some (.dK (bagKv cl s))
  ce : F cl = some (.lst (s.cells.map V.int))
  al : s.at_ ≤ s.cells.length
  cl : s.cells.length ≤ 1000
  dg : 0 ≤ s.digits
  co : s.count ≤ n
  f0 : 0 ≤ s.fold
  f1 : s.fold < 2147483587
def BagIn (F : Hp) (b : Addr) (n : Nat) (H : Hp) : Prop := ∃ cl s, BagOk F b cl n s H
theorem BagIn.ne {F : Hp} {b : Addr} {n : Nat} {H : Hp} (h : BagIn F b n H) : H b ≠ none := by
  obtain ⟨cl, s, h⟩ := h
  exact ne_none h.ob
theorem BagIn.mono {F F' H H' : Hp} {b : Addr} {n n' : Nat} (h : BagIn F b n H) (s : Same F F') (e : ∀ o, H b = some o → H' b = some o) (hn : n ≤ n' := by omega) : BagIn F' b n' H' := by
  obtain ⟨cl, t, h⟩ := h
  exact ⟨cl, t, e _ h.ob, s _ _ h.ce, h.al, h.cl, h.dg, Nat.le_trans h.co hn, h.f0, h.f1⟩
theorem kv_at (cl : Addr) (s : BagS) : valV (bagKv cl s) (Sum.inr "at") = some (.int s.at_) ∧ valV (bagKv cl s) (Sum.inr "cells") = some (.ref cl) ∧ valV (bagKv cl s) (Sum.inr "digits") = some (.int s.digits) ∧ valV (bagKv cl s) (Sum.inr "count") = some (.int s.count) ∧ valV (bagKv cl s) (Sum.inr "fold") = some (.int s.fold) := by
  have n1 : ¬ (("cells" : Str) = "at") := by decide +kernel
  have n2 : ¬ (("cells" : Str) = "digits") := by decide +kernel
  have n3 : ¬ (("cells" : Str) = "count") := by decide +kernel
  have n4 : ¬ (("cells" : Str) = "fold") := by decide +kernel
  have n5 : ¬ (("at" : Str) = "digits") := by decide +kernel
  have n6 : ¬ (("at" : Str) = "count") := by decide +kernel
  have n7 : ¬ (("at" : Str) = "fold") := by decide +kernel
  have n8 : ¬ (("digits" : Str) = "count") := by decide +kernel
  have n9 : ¬ (("digits" : Str) = "fold") := by decide +kernel
  have n10 : ¬ (("count" : Str) = "fold") := by decide +kernel
  have g : ∀ {a b : Str}, ¬ a = b → ¬ ((Sum.inr a : L2.Key) = Sum.inr b) := fun h e => h (Sum.inr.inj e)
  unfold bagKv
  refine ⟨?_, ?_, ?_, ?_, ?_⟩
  · rw [valV_neg (g n1), valV_pos rfl]
  · rw [valV_pos rfl]
  · rw [valV_neg (g n2), valV_neg (g n5), valV_pos rfl]
  · rw [valV_neg (g n3), valV_neg (g n6), valV_neg (g n8), valV_pos rfl]
  · rw [valV_neg (g n4), valV_neg (g n7), valV_neg (g n9), valV_neg (g n10), valV_pos rfl]
theorem kv_put (cl : Addr) (s : BagS) (i : Int) (k : Nat) : putK (bagKv cl s) (Sum.inr "at") (.int k) = bagKv cl { s with at_ := k } ∧ putK (bagKv cl s) (Sum.inr "digits") (.int i) = bagKv cl { s with digits := i } ∧
    putK (bagKv cl s) (Sum.inr "count") (.int k) = bagKv cl { s with count := k } ∧ putK (bagKv cl s) (Sum.inr "fold") (.int i) = bagKv cl { s with fold := i } := by
  have n1 : ¬ (("cells" : Str) = "at") := by decide +kernel
  have n2 : ¬ (("cells" : Str) = "digits") := by decide +kernel
  have n3 : ¬ (("cells" : Str) = "count") := by decide +kernel
  have n4 : ¬ (("cells" : Str) = "fold") := by decide +kernel
  have n5 : ¬ (("at" : Str) = "digits") := by decide +kernel
  have n6 : ¬ (("at" : Str) = "count") := by decide +kernel
  have n7 : ¬ (("at" : Str) = "fold") := by decide +kernel
  have n8 : ¬ (("digits" : Str) = "count") := by decide +kernel
  have n9 : ¬ (("digits" : Str) = "fold") := by decide +kernel
  have n10 : ¬ (("count" : Str) = "fold") := by decide +kernel
  refine ⟨?_, ?_, ?_, ?_⟩ <;> simp [putK, bagKv, n1, n2, n3, n4, n5, n6, n7, n8, n9, n10, Ne.symm n1, Ne.symm n2, Ne.symm n3, Ne.symm n4, Ne.symm n5, Ne.symm n6, Ne.symm n7, Ne.symm n8, Ne.symm n9, Ne.symm n10]
/-- one's own things beside the bag -/
structure Bw (b : Addr) (F0 H0 F H : Hp) (n : Nat) (ls : List (Addr × HO)) : Prop where
  w : Own F0 (del H0 b) F (del H b) ls
  bg : BagIn F b n H
section
variable {b : Addr} {F0 H0 F H F' H' : Hp} {n m : Nat} {ls : List (Addr × HO)} {p : Addr} {o o' : HO}
theorem Bw.nil (s : Same F H) (f : F b = none) (g : BagIn F b n H) : Bw b F H F H n [] := ⟨Own.nil (Pu.refl (same_del s f)), g⟩
theorem Bw.fb (w : Bw b F0 H0 F H n ls) : F b = none := by
  cases q : F b with
  | none => rfl
  | some o => exact absurd rfl (del_at (w.w.sub b o q))
theorem Bw.nb (w : Bw b F0 H0 F H n ls) (h : H p = none) : p ≠ b := fun e => by subst e; exact w.bg.ne h
theorem Bw.at (w : Bw b F0 H0 F H n ls) (i : Nat) (e : ls[i]? = some (p, o) := by rfl) : H p = some o := del_sub _ _ (w.w.at i e)
theorem Bw.nf (w : Bw b F0 H0 F H n ls) (i : Nat) (e : ls[i]? = some (p, o) := by rfl) : F p = none := w.w.nf i e
theorem Bw.sub (w : Bw b F0 H0 F H n ls) : Same F H := w.w.sub.trans del_sub
theorem Bw.ff (w : Bw b F0 H0 F H n ls) : Same F0 F := w.w.ff
theorem Bw.pb (w : Bw b F0 H0 F H n ls) : Pb b F0 H0 F H := ⟨w.w.pu⟩
theorem Bw.call (w : Bw b F0 H0 F H n ls) (q : Pb b F H F' H') (g : BagIn F' b m H') : Bw b F0 H0 F' H' m ls := ⟨w.w.step q.pu, g⟩
theorem Bw.step (w : Bw b F0 H0 F H n ls) (q : Pu F H F' H') : Bw b F0 H0 F' H' n ls := w.call (q.pb w.fb w.bg.ne) (w.bg.mono q.ff (fun o e => q.same _ _ e))
theorem Bw.tmp (w : Bw b F0 H0 F H n ls) (s : Same H H') : Bw b F0 H0 F H' n ls := w.step ⟨s, Grow.tmp w.sub s⟩
theorem Bw.le (w : Bw b F0 H0 F H n ls) (h : n ≤ m) : Bw b F0 H0 F H m ls := ⟨w.w, w.bg.mono (Same.refl _) (fun o e => e) h⟩
theorem Bw.new (w : Bw b F0 H0 F H n ls) (h : H p = none) : Bw b F0 H0 F (upd H p o) n ((p, o) :: ls) := by
  have nb := w.nb h
  refine ⟨?_, w.bg.mono (Same.refl _) fun u e => by rw [upd_ne (Ne.symm nb)]; exact e⟩
  rw [del_upd nb]
  exact w.w.new (by rw [del_ne nb]; exact h)
theorem Bw.add (w : Bw b F0 H0 F H n ls) (h : H p = none) : Bw b F0 H0 (upd F p o) (upd H p o) n ls := w.step ((Pu.refl w.sub).add h)
theorem Bw.add' (w : Bw b F0 H0 F H n ls) (h : H p = none) : ∃ F', Bw b F0 H0 F' (upd H p o) n ls ∧ Same F F' ∧ F' p = some o := ⟨_, w.add h, Same.new (w.sub.free h), upd_same⟩
theorem Bw.mut (w : Bw b F0 H0 F H n ls) (i : Nat) (e : ls[i]? = some (p, o) := by rfl) : Bw b F0 H0 F (upd H p o') n (ls.set i (p, o')) := by
  have nb : p ≠ b := del_at (w.w.at i e)
  refine ⟨?_, w.bg.mono (Same.refl _) fun u e => by rw [upd_ne (Ne.symm nb)]; exact e⟩
  rw [del_upd nb]
  exact w.w.mut i e
theorem Bw.fix (w : Bw b F0 H0 F H n ls) (i : Nat) (e : ls[i]? = some (p, o) := by rfl) : Bw b F0 H0 (upd F p o) H n (ls.eraseIdx i) :=
  ⟨w.w.fix i e, w.bg.mono (w.w.ext i e) fun o e => e⟩
theorem Bw.ext (w : Bw b F0 H0 F H n ls) (i : Nat) (e : ls[i]? = some (p, o) := by rfl) : Same F (upd F p o) := Same.new (w.nf i e)
theorem Bw.lc (w : Bw b F0 H0 F H n ls) (h : H p = none) (q : Pu F H F' H') (f : F' p = none) (e : H' p = some o) : Bw b F0 H0 F' H' n ((p, o) :: ls) := by
  have nb := w.nb h
  have w2 := w.step q
  refine ⟨?_, w2.bg⟩
  have qb := q.pb w.fb w.bg.ne
  exact w.w.lc (by rw [del_ne nb]; exact h) qb.pu f (by rw [del_ne nb]; exact e)
theorem Bw.drop (w : Bw b F0 H0 F H n ((p, o) :: ls)) : Bw b F0 H0 F H n ls := ⟨⟨w.w.pu, fun i q u e => w.w.al (i + 1) q u (by simpa using e), (List.nodup_cons.mp w.w.nd).2⟩, w.bg⟩
end
theorem atI_int {α : Type} {xs : List α} {i : Int} {v : α} (h0 : 0 ≤ i) (h : xs[i.toNat]? = some v) : atI xs i = some v := by
  have := atI_nat h
  rwa [Int.toNat_of_nonneg h0] at this
/-- a comprehension whose elements draw -/
theorem go_lcB {J : It} {n : Nat} {Gd : Hp → Prop} {Y : Nat → Hp → V → Hp → Prop} {β : Type} (wk : Walk J n Gd Y) {b : Addr} {F0 H0 F1 H1 : Hp} {n0 : Nat} {ls : List (Addr × HO)} {g : TG} {tt : TT} {te : TE} {vs : List Nat} {σ : L2.St} {D : Addr} {Qd : Hp → Prop}
    (w0 : Bw b F0 H0 F1 H1 n0 ls) (nD : H1 D = none) (A : Rp β) (c : Nat) (P : Nat → List β → Prop) (hn : n ≤ 100000) (h0 : P 0 []) (hG : ∀ F H m, Bw b F0 H0 F H m ls → Same F1 F → (∀ a o, a ≠ b → H1 a = some o → H a = some o) → Gd H)
    (hs : ∀ (i : Nat) (x : V) (ds : List β) (F H : Hp) (l : List V) (H' : Hp) (N : Hp → Prop), i < n → Bw b F0 H0 F H (n0 + c * i) ((D, .lst l) :: ls) → Same F1 F → (∀ a o, a ≠ b → H1 a = some o → H a = some o) → P i ds → Y i H x H' →
      (∀ y H4 F4 d, Bw b F0 H0 F4 H4 (n0 + c * (i + 1)) ((D, .lst l) :: ls) → Pb b F H F4 H4 → A.rel d y F4 → P (i + 1) (ds ++ [d]) → ∃ acc, H4 D = some (.lst acc) ∧ acc.length < sizeLine ∧ N (upd H4 D (.lst (acc ++ [y])))) →
      (∀ H3 F3, Bw b F0 H0 F3 H3 (n0 + c * (i + 1)) ((D, .lst l) :: ls) → Pb b F H F3 H3 → P (i + 1) ds → N H3) →
      g x (wipe σ vs) H' fun σ2 H2 => wipe σ2 vs = wipe σ vs ∧ tt σ2 H2 fun k H3 =>
      if k = true then te σ2 H3 fun y H4 => ∃ acc, H4 D = some (.lst acc) ∧ acc.length < sizeLine ∧ N (upd H4 D (.lst (acc ++ [y]))) else N H3)
    (hd : ∀ ds F H ys, Bw b F0 H0 F H (n0 + c * n) ((D, .lst ys) :: ls) → Same F1 F → Paired (fun d x => A.rel d x F) ds ys → P n ds → Qd H) :
    ∃ W : Nat → Nat → Hp → Prop, (∃ m, W 0 m (upd H1 D (.lst []))) ∧ ∀ i m H, W i m H →
      (J.stop i H ∧ Qd H) ∨ (J.go i H ∧ ∃ Nx : Hp → Prop, (∀ H', Nx H' → ∃ m', m' < m ∧ W (i + 1) m' H') ∧ ∀ x H', J.yld i H x H' → g x (wipe σ vs) H' fun σ2 H2 => wipe σ2 vs = wipe σ vs ∧ tt σ2 H2 fun k H3 =>
        if k = true then te σ2 H3 fun y H4 => ∃ acc, H4 D = some (.lst acc) ∧ acc.length < sizeLine ∧ Nx (upd H4 D (.lst (acc ++ [y]))) else Nx H3) := by
  have up : ∀ {H : Hp} {l l' : List V} , (∀ a o, a ≠ b → H1 a = some o → H a = some o) → ∀ a o, a ≠ b → H1 a = some o → (upd H D (.lst l')) a = some o := fun k a o n e => by
    rw [upd_ne (ne_of_none e nD)]
    exact k a o n e
  refine lc_it wk (fun i H => ∃ F ys ds, Bw b F0 H0 F H (n0 + c * i) ((D, .lst ys) :: ls) ∧ Same F1 F ∧ (∀ a o, a ≠ b → H1 a = some o → H a = some o) ∧ P i ds ∧ ys.length ≤ i ∧ Paired (fun d x => A.rel d x F) ds ys) ?_ (fun i H hi ⟨F, ys, ds, w, s, k, _⟩ => hG F H _ w.drop s k)
    (fun i x H H' hi ⟨F, ys, ds, w, s, k, hp, hl, pd⟩ y => ?_) (fun H ⟨F, ys, ds, w, s, k, hp, hl, pd⟩ => hd ds F H ys w s pd hp)
  · exact ⟨F1, [], [], (w0.new nD).le (by omega), Same.refl _, up (l := []) (fun a o _ e => e), h0, Nat.le_refl 0, .nil⟩
  · refine hs i x ds F H ys H' _ hi w s k hp y (fun y H4 F4 d w4 q r e => ?_) (fun H3 F3 w3 q e => ?_)
    · refine ⟨ys, w4.at 0, szl (by omega), F4, ys ++ [y], ds ++ [d], w4.mut 0, s.trans q.ff, up (l := ys) (fun a o n e => q.keep n (k a o n e)), e, by simp; omega, pd_snoc (pd_mono (fun _ _ => A.mono q.ff) pd) r⟩
    · exact ⟨F3, ys, ds, w3, s.trans q.ff, fun a o n e => q.keep n (k a o n e), e, by omega, pd_mono (fun _ _ => A.mono q.ff) pd⟩
end G

/-! part Mu -/
/-! Things that change: F stands still, S is one's own and may change; beside S nothing that was is changed. -/
namespace G
open PySem PySem.Spec PyProof.Rows L2
def un (F S : Hp) : Hp := fun a => match S a with
  | some o => some o
  | none => F a
def emp : Hp := fun _ => none
theorem un_emp {F : Hp} : un F emp = F := rfl
theorem un_s {F S : Hp} {a : Addr} {o : HO} (h : S a = some o) : un F S a = some o := by unfold un; rw [h]
theorem un_f {F S : Hp} {a : Addr} {o : HO} (d : S a = none) (h : F a = some o) : un F S a = some o := by unfold un; rw [d]; exact h
theorem un_n {F S : Hp} {a : Addr} (d : S a = none) : un F S a = F a := by unfold un; rw [d]
/-- F and S, apart, of H -/
structure Sp2 (F S H : Hp) : Prop where
  sf : Same F H
  ss : Same S H
  dj : ∀ a, S a ≠ none → F a = none
section
variable {F S H F' S' H' F2 S2 H2 : Hp} {a p : Addr} {o o' : HO}
theorem Sp2.un (d : Sp2 F S H) : Same (un F S) H := fun a o e => by
  unfold G.un at e
  cases q : S a with
  | some u => rw [q] at e; cases e; exact d.ss _ _ q
  | none => rw [q] at e; exact d.sf _ _ e
theorem Sp2.sun (d : Sp2 F S H) : Same F (G.un F S) := fun a o e => by
  cases q : S a with
  | some u => rw [d.dj a (ne_none q)] at e; cases e
  | none => exact un_f q e
theorem Sp2.fn (d : Sp2 F S H) (h : S a = some o) : F a = none := d.dj a (ne_none h)
theorem Sp2.sn (d : Sp2 F S H) (h : F a = some o) : S a = none := by
  cases q : S a with
  | none => rfl
  | some u => rw [d.fn q] at h; cases h
theorem un_upd (d : Sp2 F S H) : un F (upd S p o) = upd (un F S) p o := by
  funext b
  unfold un upd
  by_cases e : b = p
  · rw [if_pos e, if_pos e]
  · rw [if_neg e, if_neg e]
structure Mu (F S H F' S' H' : Hp) : Prop where
  d0 : Sp2 F S H
  d1 : Sp2 F' S' H'
  keep : ∀ a o, S a = none → H a = some o → H' a = some o
  al : ∀ a, H' a = none → H a = none
  ff : Same F F'
  nf : ∀ a o, F' a = some o → F a = some o ∨ H a = none
  ns : ∀ a, S' a ≠ none → S a ≠ none ∨ H a = none
theorem Mu.refl (d : Sp2 F S H) : Mu F S H F S H := ⟨d, d, fun _ _ _ e => e, fun _ e => e, Same.refl _, fun _ _ e => .inl e, fun _ e => .inl e⟩
theorem Mu.trans (m : Mu F S H F' S' H') (n : Mu F' S' H' F2 S2 H2) : Mu F S H F2 S2 H2 := by
  refine ⟨m.d0, n.d1, fun a o hs e => ?_, fun a e => m.al a (n.al a e), m.ff.trans n.ff, fun a o e => ?_, fun a e => ?_⟩
  · refine n.keep a o ?_ (m.keep a o hs e)
    cases q : S' a with
    | none => rfl
    | some u =>
      rcases m.ns a (ne_none q) with z | z
      · exact absurd hs z
      · rw [z] at e; cases e
  · rcases n.nf a o e with z | z
    · exact m.nf a o z
    · exact .inr (m.al a z)
  · rcases n.ns a e with z | z
    · exact m.ns a z
    · exact .inr (m.al a z)
/-- one's own thing at p changes -/
theorem Mu.put (d : Sp2 F S H) (h : S p = some o) : Mu F S H F (upd S p o') (upd H p o') := by
  refine ⟨d, ⟨fun a u e => ?_, fun a u e => ?_, fun a e => ?_⟩, fun a u hs e => ?_, fun a e => ?_, Same.refl _, fun _ _ e => .inl e, fun a e => ?_⟩
  · rw [upd_ne (fun z => by subst z; rw [d.fn h] at e; cases e)]
    exact d.sf a u e
  · by_cases z : a = p
    · subst z; rw [upd_same] at e ⊢; exact e
    · rw [upd_ne z] at e ⊢; exact d.ss a u e
  · by_cases z : a = p
    · subst z; exact d.fn h
    · rw [upd_ne z] at e; exact d.dj a e
  · rw [upd_ne (fun z => by subst z; rw [h] at hs; cases hs)]
    exact e
  · by_cases z : a = p
    · subst z; rw [upd_same] at e; cases e
    · rw [upd_ne z] at e; exact e
  · by_cases z : a = p
    · subst z; exact .inl (ne_none h)
    · rw [upd_ne z] at e; exact .inl e
theorem Sp2.nS (d : Sp2 F S H) (h : H p = none) : S p = none := d.ss.free h
theorem Sp2.nF (d : Sp2 F S H) (h : H p = none) : F p = none := d.sf.free h
theorem same_upd (s : Same F H) (h : H p = none) : Same F (upd H p o) := s.trans (Same.new h)
theorem same_upd2 (s : Same F H) : Same (upd F p o) (upd H p o) := fun a u e => by
  by_cases z : a = p
  · subst z; rw [upd_same] at e ⊢; exact e
  · rw [upd_ne z] at e ⊢; exact s a u e
theorem al_new : upd H p o a = none → H a = none := fun e => by
  by_cases z : a = p
  · subst z; rw [upd_same] at e; cases e
  · rw [upd_ne z] at e; exact e
/-- a new thing of one's own -/
theorem Mu.newS (d : Sp2 F S H) (h : H p = none) : Mu F S H F (upd S p o) (upd H p o) := by
  refine ⟨d, ⟨same_upd d.sf h, same_upd2 d.ss, fun a e => ?_⟩, fun a u _ e => ?_, fun a e => al_new e, Same.refl _, fun _ _ e => .inl e, fun a e => ?_⟩
  · by_cases z : a = p
    · subst z; exact d.nF h
    · rw [upd_ne z] at e; exact d.dj a e
  · rw [upd_ne (ne_of_none e h)]; exact e
  · by_cases z : a = p
    · subst z; exact .inr h
    · rw [upd_ne z] at e; exact .inl e
/-- a new thing that stands still -/
theorem Mu.newF (d : Sp2 F S H) (h : H p = none) : Mu F S H (upd F p o) S (upd H p o) := by
  refine ⟨d, ⟨same_upd2 d.sf, same_upd d.ss h, fun a e => ?_⟩, fun a u _ e => ?_, fun a e => al_new e, Same.new (d.nF h), fun a u e => ?_, fun a e => .inl e⟩
  · rw [upd_ne (fun z => by subst z; exact e (d.nS h))]; exact d.dj a e
  · rw [upd_ne (ne_of_none e h)]; exact e
  · by_cases z : a = p
    · subst z; exact .inr h
    · rw [upd_ne z] at e; exact .inl e
/-- a pure step -/
theorem Mu.pure (d : Sp2 F S H) (q : Pu F H F' H') : Mu F S H F' S H' :=
  ⟨d, ⟨q.sub, d.ss.trans q.same, fun a e => q.none (d.dj a e) (fun z => e (d.ss.free z))⟩, fun a u _ e => q.same a u e, fun a e => q.same.free e, q.ff, fun a u e => q.grow.fresh a u e, fun a e => .inl e⟩
theorem Mu.tmp (d : Sp2 F S H) (s : Same H H') : Mu F S H F S H' := Mu.pure d ⟨s, Grow.tmp d.sf s⟩
/-- what is one's own may be less -/
theorem Mu.less (d : Sp2 F S H) (s : Same S' S) : Mu F S H F S' H :=
  ⟨d, ⟨d.sf, s.trans d.ss, fun a e => d.dj a fun z => e (s.free z)⟩, fun _ _ _ e => e, fun _ e => e, Same.refl _, fun _ _ e => .inl e, fun a e => .inl fun z => e (s.free z)⟩
/-- from nothing of one's own to nothing of one's own: all made stands still -/
theorem Mu.pu (m : Mu F emp H F' S' H') : Pu F H (un F' S') H' := by
  refine ⟨fun a o e => m.keep a o rfl e, m.ff.trans m.d1.sun, m.d1.un, fun a o e => ?_⟩
  unfold un at e
  cases q : S' a with
  | some u =>
    rcases m.ns a (ne_none q) with z | z
    · exact absurd rfl z
    · exact .inr z
  | none => rw [q] at e; exact m.nf a o e
theorem sp2_emp (s : Same F H) : Sp2 F emp H := ⟨s, fun _ _ e => (by cases e), fun _ e => absurd rfl e⟩
end
end G

/-! part Dfl -/
/-! Calls that use defaults; defs that are never called; from things of one's own to a part. -/
namespace G
open PySem PySem.Spec PyProof.Rows L2
def spNever : Sp := fun _ _ _ _ => False
section
variable {P : Program} {w : World} {K : PySem.W.Frag} {mg : Str → Option Value} {base : Heap}
theorem MtF.never {C : Addr} {m qual : Str} {st : Stmt} {N ps : List Str} {k : Nat} (F : MtF K C m qual st []) (cl : Cls K C) (S : FnScope N ps (defScope st)) (b : BindsNo m qual st ps) : Met P w K mg base (k + 1) C m spNever :=
  F.met cl S b (fun _ _ _ _ h => h.elim) (fun _ _ _ _ _ _ _ _ _ _ h => h.elim)
theorem FnF.never {x : Str} {st : Stmt} {N ps : List Str} {k : Nat} (F : FnF K mg x st []) (S : FnScope N ps (defScope st)) (b : BindsNo x x st ps) : Cal P w K mg base (k + 1) x spNever :=
  F.cal S b (fun _ _ _ _ h => h.elim) (fun _ _ _ _ _ _ _ _ _ _ h => h.elim)
/-- a class's making with some defaults used -/
structure MakD (P : Program) (w : World) (K : PySem.W.Frag) (mg : Str → Option Value) (base : Heap) (k : Nat) (x : Str) (C : Addr) (dvs : List V) (sp : Sp) : Prop where
  ex : ∃ (f : Addr) (fd : FuncData) (ps : List Str) (ds : List Value), FnOk P w K mg base (L2.CX P w) k f fd ps sp ∧ Mk K C f ∧ mg x = some (.ref C) ∧ Binds K fd ps ds ∧ Vals dvs ds
theorem MkF.makN {x qual : Str} {C : Addr} {st : Stmt} {N ps : List Str} {k : Nat} {sp : Sp} {dvs : List V} (F : MkF K mg x C qual st dvs) (S : FnScope N ps (defScope st)) (hd : dvs ≠ []) (n j : Nat) (hn : n + (dvs.length - j) = ps.length)
    (b : ∀ (T : Addr) (kV doc pm : Value) (an : Option Addr) (cdv ct : Value) (us its : List Value), us.length = n → its.length = dvs.length →
      ∃ k, bindArgs (PySem.W.fnOf "__init__" qual (defArgs st) (defBody st) (defScope st) (.ref T) kV doc pm an cdv ct) ⟨us, []⟩ = seqItems? (.ref T) >>= k ∧ k (some its.toArray) = pure (ps.zip (us ++ its.drop j)))
    (len : ∀ vs H Q E, sp vs H Q E → vs.length = ps.length) (body : BodyOk P w K mg base N qual st k sp) : MakD P w K mg base (k + 1) x C (dvs.drop j) sp := by
  obtain ⟨f, fd, hm, D⟩ := F.ex
  obtain ⟨ds, r, hb⟩ := D.binds1 (ps := ps) n j hd hn b
  exact ⟨f, fd, ps, ds, D.ok S len (body f), hm, F.mg, hb, r⟩
end
section
variable {X : Cx} {k j : Nat} {x : Str} {C : Addr} {sp : Sp} {e : Expr} {es : List Expr} {t : TA} {p pos : Pos} {E : XK} {dvs : List V}
theorem pe_kD (c : MakD X.prog X.w X.K X.mg X.base k x C dvs sp) (hr : Room j X.A) (hk : k + 1 ≤ j) (ha : PA X (e :: es) t) (hx : Passes (L2.CX X.prog X.w) X E) (hg : Gl X x := by rfl) (hdb : (x == ("__debug__" : Str)) = false := by decide)
    (he : starEach (e :: es) X.env = (false, eval e X.env) :: starEach es X.env := by rfl) (hpl : (backTo pos (starEach es X.env)).any (·.1) = false := by rfl) : PE X (.Call (.Name x p) (e :: es) [] pos) (tMake C sp dvs E t) := by
  obtain ⟨f, fd, ps, ds, F, M, hm, b, r⟩ := c.ex
  exact pe_make M F (hr.mono hk) hg hm b r hx ha hdb he hpl
theorem pe_kD0 (c : MakD X.prog X.w X.K X.mg X.base k x C dvs sp) (hr : Room j X.A) (hk : k + 1 ≤ j) (hx : Passes (L2.CX X.prog X.w) X E) (hg : Gl X x := by rfl) (hdb : (x == ("__debug__" : Str)) = false := by decide) : PE X (.Call (.Name x p) [] [] pos) (tMake C sp dvs E tNil) := by
  obtain ⟨f, fd, ps, ds, F, M, hm, b, r⟩ := c.ex
  exact pe_make0 M F (hr.mono hk) hg hm b r hx hdb
end
/-- a list of things as a part of the heap -/
def lk (ls : List (Addr × HO)) : Hp := fun a => (ls.find? fun e => decide (e.1 = a)).map (·.2)
theorem lk_mem {ls : List (Addr × HO)} {a : Addr} {o : HO} (h : lk ls a = some o) : ∃ i : Nat, ls[i]? = some (a, o) := by
  unfold lk at h
  obtain ⟨e, h1, rfl⟩ := Option.map_eq_some_iff.mp h
  have h2 := List.find?_some h1
  obtain ⟨i, hi⟩ := List.getElem?_of_mem (List.mem_of_find?_eq_some h1)
  have : e.1 = a := of_decide_eq_true h2
  subst this
  exact ⟨i, hi⟩
theorem lk_at {ls : List (Addr × HO)} (nd : (ls.map (·.1)).Nodup) {i : Nat} {a : Addr} {o : HO} (h : ls[i]? = some (a, o)) : lk ls a = some o := by
  unfold lk
  induction ls generalizing i with
  | nil => simp at h
  | cons e r ih =>
    rw [List.map_cons, List.nodup_cons] at nd
    rw [List.find?_cons]
    cases i with
    | zero => simp at h; subst h; simp
    | succ i =>
      have h' : r[i]? = some (a, o) := by simpa using h
      have hm : (a, o) ∈ r := List.mem_of_getElem? h'
      rw [show decide (e.1 = a) = false from decide_eq_false fun z => nd.1 (by rw [z]; exact List.mem_map.mpr ⟨_, hm, rfl⟩)]
      exact ih nd.2 h'
theorem Own.toMu {F H0 F' H' : Hp} {ls : List (Addr × HO)} (w : Own F H0 F' H' ls) (s : Same F H0) : Mu F emp H0 F' (lk ls) H' := by
  refine ⟨sp2_emp s, ⟨w.sub, fun a o e => ?_, fun a e => ?_⟩, fun a o _ e => w.pu.same a o e, fun a e => w.pu.same.free e, w.ff, fun a o e => w.pu.grow.fresh a o e, fun a e => ?_⟩
  · obtain ⟨i, hi⟩ := lk_mem e
    exact (w.al i a o hi).2.2
  · cases q : lk ls a with
    | none => exact absurd q e
    | some o =>
      obtain ⟨i, hi⟩ := lk_mem q
      exact (w.al i a o hi).2.1
  · cases q : lk ls a with
    | none => exact absurd q e
    | some o =>
      obtain ⟨i, hi⟩ := lk_mem q
      exact .inr (w.al i a o hi).1
end G

/-! part A7 -/
namespace TR
open PySem PySem.Spec PyProof.Rows L2 G
theorem nput_sub {ks : Kinds} {kept : Steps} {z : Str} {e : Int} {d : Str × Int} (h : d ∈ nput ks kept z e) : d ∈ kept ∨ d.1 = z := by
  unfold nput at h
  split at h
  · exact .inl h
  · simp at h
    rcases h with h | h
    · exact .inl h
    · exact .inr (by rw [h])
theorem nstep_sub {ks : Kinds} {kept : Steps} {d0 d : Str × Int} (h : d ∈ nstep ks kept d0) : d ∈ kept ∨ d.1 = d0.1 := by
  unfold nstep at h
  split at h
  · exact nput_sub h
  · split at h
    · rcases nput_sub h with h | h
      · exact .inl (List.dropLast_subset _ h)
      · exact .inr h
    · exact nput_sub h
theorem normal_sub {ks : Kinds} {ss : Steps} {d : Str × Int} (h : d ∈ normal ks ss) : ∃ d0 ∈ ss, d.1 = d0.1 := by
  have : ∀ (ss kept : Steps), d ∈ ss.foldl (nstep ks) kept → d ∈ kept ∨ ∃ d0 ∈ ss, d.1 = d0.1 := by
    intro ss
    induction ss with
    | nil => intro kept h; exact .inl h
    | cons a r ih =>
      intro kept h
      rcases ih _ h with h | ⟨d0, h1, h2⟩
      · rcases nstep_sub h with h | h
        · exact .inl h
        · exact .inr ⟨a, by simp, h⟩
      · exact .inr ⟨d0, by simp [h1], h2⟩
  rcases this ss [] h with h | h
  · cases h
  · exact h
theorem normal_len {ks : Kinds} {ss : Steps} : (normal ks ss).length ≤ ss.length := by
  have : ∀ (ss kept : Steps), (ss.foldl (nstep ks) kept).length ≤ kept.length + ss.length := by
    intro ss
    induction ss with
    | nil => intro kept; exact Nat.le_refl _
    | cons a r ih =>
      intro kept
      have h1 := ih (nstep ks kept a)
      have h2 := nstep_len ks kept a
      simp only [List.foldl_cons, List.length_cons]
      omega
  have q := this ss []
  rw [List.length_nil, Nat.zero_add] at q
  exact q
section
variable {P : Program} {w : World} {K : PySem.W.Frag} {mg : Str → Option Value} {base : Heap} {CT CR : Addr}
abbrev s_Row_init : Stmt := inClass (top 44) 1
abbrev N_Row_init : List Str := ["self", "turns", "steps", "name", "exponent", "keys", "step"]
abbrev P_Row_init : List Str := ["self", "turns", "steps"]
theorem sc_Row_init : FnScope N_Row_init P_Row_init (defScope s_Row_init) := ⟨rfl, rfl, rfl, by decide +kernel, rfl, by decide +kernel, by decide +kernel⟩
theorem bn_Row_init (T : Addr) (kV doc pm : Value) (an : Option Addr) (cdv ct : Value) (us its : List Value) (hu : us.length = P_Row_init.length) (hi : its.length = 1) :
    ∃ k, bindArgs (PySem.W.fnOf "__init__" "Row.__init__" (defArgs s_Row_init) (defBody s_Row_init) (defScope s_Row_init) (.ref T) kV doc pm an cdv ct) ⟨us, []⟩ = seqItems? (.ref T) >>= k ∧ k (some its.toArray) = pure (P_Row_init.zip (us ++ its.drop 1)) :=
  match us, hu, its, hi with
  | [_, _, _], _, [_], _ => ⟨_, rfl, rfl⟩
def sp_Row_init (K : PySem.W.Frag) (CT CR : Addr) : Sp := fun vs H Q _ => ∃ (F H0 : Hp) (x dx : Addr) (v u : V) (ks : Kinds) (ss : Steps), vs = [.ref x, v, u] ∧ New CR F H0 H x dx ∧ (RTurns CT).rel ks v F ∧ (RSeqs K).rel ss u F ∧ (∀ d ∈ ss, ∃ p, ks.lookup d.1 = some p) ∧ ss.length ≤ 10000 ∧
  ∀ F' H', Pu F H0 F' H' → (RRow CT CR).rel ⟨ks, normal ks ss⟩ (.ref x) F' → Q .non H'
theorem len_Row_init (vs : List V) (H : Hp) (Q : VK) (E : XK) (h : sp_Row_init K CT CR vs H Q E) : vs.length = P_Row_init.length := by
  obtain ⟨_, _, _, _, _, _, _, _, rfl, _⟩ := h
  rfl
theorem body_Row_init (B : Bt mg) (T : KlF K mg "Turns" CT ["pairs", "names", "periods", "ranks"]) (R : KlF K mg "Row" CR ["turns", "steps", "key"]) (m_in : Met P w K mg base 1 CT "__contains__" (sp_Turns_in K CT)) (c_normal_steps : Cal P w K mg base 4 "normal_steps" (sp_normal_steps K CT)) (c_step_key : Cal P w K mg base 3 "step_key" (sp_step_key CT)) : BodyOk P w K mg base N_Row_init "Row.__init__" s_Row_init 4 (sp_Row_init K CT CR) := by
  refine (fun f cdv A outer s H vs Q E hr h => ?_)
  · obtain ⟨F, H0, x, dx, v, u, ks, ss, rfl, nw, r, ⟨a, ps, rfl, ha, pd⟩, hin, hlen, k⟩ := h
    have w0 := nw.own
    obtain ⟨ta, tdx, tp, tn, td, tr, t⟩ := id r
    have hl : ps.length = ss.length := pd_len pd
    refine ⟨_, (pss_cons (ps_for (passes_of rfl) rfl (k_iu (pv 2) (K := K)) (k_tup (n := 2) rfl (pgs_cons (pg_name (i := 3) sc_Row_init.nd rfl (Or.inl rfl)) (pgs_cons (pg_name (i := 4) sc_Row_init.nd rfl (Or.inl rfl)) pgs_nil)) (K := K))
    (pss_one (ps_if (pt_cmpR (op_niO m_in hr (by decide) passL) (pv 3) (pv 1) (by rfl)) (pss_one ps_never) pss_nil)))
    (pss_cons (ps_fld (pv 0) (pv 1) rfl)
    (pss_cons (ps_fld (pv 0) (pe_callTy (k_tuple (K := K)) (by rfl) B.tuple (by decide +kernel) (pa_cons (pe_c c_normal_steps hr (by decide) (pa_cons (pv 1) (pa_cons (pv 2) pa_nil)) passL) pa_nil)) rfl)
    (pss_cons (ps_set (i := 5) sc_Row_init.nd rfl (Or.inl rfl) (pe_callTy (k_tuple (K := K)) (by rfl) B.tuple (by decide +kernel) (pa_cons (pe_lc (own := [("step", 6)]) rfl sc_Row_init.nd (k_it (k_fld (pv 0) (K := K)) (K := K)) (blkOk_by (N := N_Row_init) (sc := defScope s_Row_init) (by decide +kernel)) (fun _ _ _ _ _ => (pg_name (i := 6) sc_Row_init.nd rfl (Or.inl rfl))) (fun _ _ _ _ _ => pts_nil) (fun _ _ _ _ _ => (pe_c c_step_key hr (by decide) (pa_cons (pv 1) (pa_cons (pv 6) pa_nil)) passL))) pa_nil)))
    (pss_one (ps_fld (pv 0) (pe_tup (pa_cons (pe_callB (call_lenU (K := K)) (by rfl) B.len (by decide +kernel) (pa_cons (k_fld (pv 0) (K := K)) pa_nil)) (pa_cons (pv 5) (pa_cons (k_fld (pv 1) (K := K)) pa_nil)))) rfl)))))), ?_⟩
    refine seqU2 ha w0.sub (fun Q q => ⟨_, rfl, q⟩) fun J Gd wk hG => ?_
    refine for_it wk (fun i σ H' => ∃ (n p : Option V), Own F H0 F H' [(x, .ins CR dx [])] ∧ σ = [some (.ref x), some v, some (.ref a), n, p, none, none]) ⟨none, none, w0, rfl⟩ (fun i σ H' _ ⟨n, p, w1, _⟩ => hG _ w1.sub) ?_ ?_
    · rintro i y σ H' H'' hi ⟨n0, p0, w1, rfl⟩ ⟨e1, hy⟩
      subst e1
      obtain ⟨d, t0, z, u, hd, rfl, ht, rfl, rfl⟩ := pair_at pd hy
      obtain ⟨p, hp⟩ := hin d (List.mem_of_getElem? hd)
      refine ⟨t0, _, rfl, SqT.of (w1.sub _ _ ht), rfl, _, _, rfl, _, _, rfl, rfl, ?_⟩
      refine ⟨_, rfl, _, rfl, ta, tdx, _, t.ev, w1.sub _ _ t.ob, v, .str d.1, ks, rfl, (RTurns CT).mono w1.sub r, .inl ⟨d.1, rfl, fun H4 s4 => ?_⟩⟩
      rw [hp]
      exact ⟨_, rfl, _, rfl, some (.str d.1), some (.int d.2), w1.tmp s4, rfl⟩
    · rintro σ H' ⟨n0, p0, w1, rfl⟩
      refine ⟨_, rfl, _, rfl, st_fld w1 R.cl (R.no _ (by decide)) 0 [] rfl rfl (by decide +kernel) (by decide) fun w2 => ?_⟩
      refine ⟨_, rfl, _, rfl, F, v, .ref a, ks, ss, rfl, w2.sub, r, ⟨a, ps, rfl, ha, pd⟩, hin, hlen, fun q F3 H3 pu3 rq => ?_⟩
      have w3 := w2.step pu3
      obtain ⟨b, bs, rfl, hb, pb⟩ := rq
      refine ⟨b, bs, rfl, .inl ⟨SqL.of (w3.sub _ _ hb), fun ts hts => ?_⟩⟩
      have w4 := w3.add (o := .tup bs) hts
      have s4 := Same.new (o := .tup bs) (w3.sub.free hts)
      refine ⟨_, rfl, st_fld w4 R.cl (R.no _ (by decide)) 0 ["turns"] rfl rfl (by decide +kernel) (by decide) fun w5 => ?_⟩
      have pb4 := pd_mono (fun _ _ => RStep.mono s4) pb
      have hbl : bs.length = (normal ks ss).length := pd_len pb
      have hnl : (normal ks ss).length ≤ ss.length := normal_len
      -- keys
      refine ⟨_, rfl, x, CR, dx, _, _, rfl, w5.at 0, R.cl, R.no _ (by decide), rfl, ts, rfl, ⟨_, SqT.of (w5.sub _ _ upd_same)⟩, fun D hD => ?_⟩
      have hD' := hD
      refine go_lc (F1 := upd F3 ts (.tup bs)) (walk_tup (xs := bs)) RTri (fun i => ((normal ks ss).map (keyOf ks)).take i) (by omega) w5.sub hD (by simp) (fun F5 H5 pu => SqT.of (pu.sub _ _ (pu.ff _ _ upd_same))) (fun i y F5 H5 l H'' N hi pu fD5 hl5 hy kt kf => ?_) (fun F5 H5 zs pu fD5 hl5 pd5 => ?_)
      · obtain ⟨e1, hy⟩ := hy
        subst e1
        obtain ⟨d, hd, rd⟩ := pd_get pb4 hy
        obtain ⟨d0, hd0, e0⟩ := normal_sub (List.mem_of_getElem? hd)
        refine ⟨rfl, _, rfl, _, rfl, F5, v, y, ks, d, rfl, pu.sub, (RTurns CT).mono ((w5.ff).trans pu.ff) r, RStep.mono pu.ff rd, by rw [e0]; exact hin d0 hd0, fun q F6 H6 pu6 rq => ?_⟩
        exact kt q H6 F6 (keyOf ks d) pu6 rq (take_snoc (by rw [List.getElem?_map, hd]; rfl))
      · rw [hbl, show (normal ks ss).length = ((normal ks ss).map (keyOf ks)).length by simp, take_all] at pd5
        have w6 := w5.lc hD' pu fD5 hl5
        refine ⟨D, _, rfl, .inl ⟨SqL.of hl5, fun tq htq => ?_⟩⟩
        have w7 := w6.add (o := .tup zs) htq
        have s7 := Same.new (o := .tup zs) (w6.sub.free htq)
        -- self.key
        refine ⟨_, rfl, x, CR, dx, _, _, rfl, w7.at 1, R.cl, R.no _ (by decide), rfl, .inl ⟨ts, bs, rfl, .inr (SqT.of (w7.sub _ _ (s7 _ _ (pu.ff _ _ upd_same)))), ?_⟩⟩
        refine ⟨_, rfl, _, rfl, ta, CT, tdx, _, _, t.ev, w7.sub _ _ (w7.ff _ _ t.ob), T.cl, T.no _ (by decide), rfl, sz (n := 3) (by decide), fun tk htk => ?_⟩
        have w8 := w7.add (o := .tup [.int bs.length, .ref tq, .ref tp]) htk
        have s8 := Same.new (o := .tup [.int bs.length, .ref tq, .ref tp]) (w7.sub.free htk)
        refine ⟨_, rfl, st_fld w8 R.cl (R.no _ (by decide)) 1 ["turns", "steps"] rfl rfl (by decide +kernel) (by decide) fun w9 => ?_⟩
        have w10 := w9.fix 1
        have s10 := w9.ext 1
        refine k _ _ w10.pu ⟨x, dx, ts, tk, tq, tp, v, ?_⟩
        exact { ev := rfl, ob := upd_same, tu := (RTurns CT).mono w10.ff r,
                st := (Rp.tup RStep).mono (pu.ff.trans (s7.trans (s8.trans s10))) ⟨ts, bs, rfl, upd_same, pb4⟩,
                ke := by rw [← hbl]; exact s10 _ _ upd_same,
                kq := (Rp.tup RTri).mono (s8.trans s10) ⟨tq, zs, rfl, upd_same, pd_mono (fun _ _ => RTri.mono s7) pd5⟩,
                kp := RKinds.mono w10.ff t.pr }
theorem bn_Row_init2 (T : Addr) (kV doc pm : Value) (an : Option Addr) (cdv ct : Value) (us its : List Value) (hu : us.length = 2) (hi : its.length = 1) :
    ∃ k, bindArgs (PySem.W.fnOf "__init__" "Row.__init__" (defArgs s_Row_init) (defBody s_Row_init) (defScope s_Row_init) (.ref T) kV doc pm an cdv ct) ⟨us, []⟩ = seqItems? (.ref T) >>= k ∧ k (some its.toArray) = pure (P_Row_init.zip (us ++ its.drop 0)) :=
  match us, hu, its, hi with
  | [_, _], _, [_], _ => ⟨_, rfl, rfl⟩
theorem ok_Row_init (B : Bt mg) (T : KlF K mg "Turns" CT ["pairs", "names", "periods", "ranks"]) (R : KlF K mg "Row" CR ["turns", "steps", "key"]) (m_in : Met P w K mg base 1 CT "__contains__" (sp_Turns_in K CT)) (c_normal_steps : Cal P w K mg base 4 "normal_steps" (sp_normal_steps K CT)) (c_step_key : Cal P w K mg base 3 "step_key" (sp_step_key CT))
    {dv : V} (F : MkF K mg "Row" CR "Row.__init__" s_Row_init [dv]) : Mak P w K mg base 5 "Row" CR (sp_Row_init K CT CR) :=
  F.makD sc_Row_init (by simp) bn_Row_init len_Row_init (body_Row_init B T R m_in c_normal_steps c_step_key)
/-- .. without steps -/
theorem ok_Row_init2 (B : Bt mg) (T : KlF K mg "Turns" CT ["pairs", "names", "periods", "ranks"]) (R : KlF K mg "Row" CR ["turns", "steps", "key"]) (m_in : Met P w K mg base 1 CT "__contains__" (sp_Turns_in K CT)) (c_normal_steps : Cal P w K mg base 4 "normal_steps" (sp_normal_steps K CT)) (c_step_key : Cal P w K mg base 3 "step_key" (sp_step_key CT))
    {dv : V} (F : MkF K mg "Row" CR "Row.__init__" s_Row_init [dv]) : MakD P w K mg base 5 "Row" CR [dv] (sp_Row_init K CT CR) :=
  F.makN sc_Row_init (by simp) 2 0 rfl bn_Row_init2 len_Row_init (body_Row_init B T R m_in c_normal_steps c_step_key)
end
end TR

/-! part SetL -/
/-! set(xs) of a list of whole numbers: what the library has for a tuple of them, here for a list. -/
namespace G
open PySem PySem.Spec PyProof.Rows L2
section
variable {P : Program} {w : World} {A : Around} {E : Value → Shared → Prop} {s : Shared}
abbrev nul (w : World) : Obj := { cls := .type "set", dict := none, data := .set #[] 0 (.fresh 0 0 (!w.params.followText "set-order")) }
abbrev hp1 (w : World) (s : Shared) : Heap := s.heap.push (nul w)
theorem set_of_list {l : Addr} {its : Array Value} (ks : List Int) {Q : Value → Shared → Prop} (quiet : A.handled = none) (isL : s.heap.IsList l its) (are : IntsAre its.toList ks) (few : ks.length + 1 < scanBound)
    (go : ∀ (h2 : Heap) (tk n : Nat), SetR w h2 s.heap.objs.size (fun j => decide (j ∈ ks)) n → n ≤ ks.length → (∀ b o, s.heap.get? b = some o → h2.get? b = some o) →
      Q (.ref s.heap.objs.size) { s with heap := h2, toks := tk }) : wpAny (model P w) A (call (.type "set") [.ref l]) Q E s := by
  have hz : its.size = ks.length := (Array.length_toList (xs := its)).symm.trans are.length
  obtain ⟨c, tl, m1⟩ := F.called_set.mro
  have m2 := F.called_set.made; have m3 := F.called_set.sub
  refine wpAny_call (codeAny_of_tree ?_); show wpAny _ _ (callAny (.type "set") _) _ _ _
  refine wpAny_pure ⟨Code.quiet_builtin _ (by decide +kernel), codeAny_builtin F.entry_type_call ?_⟩; rw [Around.under_plain (weight_type_call_type "set" [.ref l] []) rfl]
  have m4 := F.called_set.notType; have m5 := F.called_set.canCreate; have m6 := F.typeCall_set_1 (.ref l)
  repeat (any_goals (first | assumption | wp_step))
  refine codeAny_mono (code_set_led1 (.ref l) (E := E) (Q₁ := fun x z => x = .ref s.heap.objs.size ∧ z = { s with heap := hp1 w s }) ⟨rfl, rfl⟩) fun r z hr => ?_
  match r, hr with
  | .error e, hr => exact hr
  | .ok (.ret x), hr =>
    obtain ⟨rfl, rfl⟩ := hr
    have at1 : (hp1 w s).get? s.heap.objs.size = some (nul w) := Heap.get?_push_size _ rfl
    have ty1 : Shared.TypeIs { s with heap := hp1 w s } (.ref s.heap.objs.size) "set" := ⟨_, at1, rfl⟩
    have m7 := F.called_set.init.lookup; have m8 := F.called_set.init.bind (.ref s.heap.objs.size)
    repeat (any_goals (first | assumption | wp_step))
    refine codeAny_mono (codeAny_call_builtin (R := wants (fun r z => r = .none ∧ ∃ h2 tk n, z = { s with heap := h2, toks := tk } ∧ SetR w h2 s.heap.objs.size (fun j => decide (j ∈ ks)) n ∧ n ≤ ks.length ∧ (∀ b o, s.heap.get? b = some o → h2.get? b = some o)) E)
      F.called_set.init.plain F.entry_set_init (check_set_init_1 ty1 ?_)) fun r z hr => ?_
    · obtain ⟨⟨oc, od, oa, os⟩, ho, hc, nl, hd⟩ := isL
      simp only at hc hd; subst hc; subst hd
      have ho1 : (hp1 w s).get? l = some { cls := .type "list", dict := od, data := .seq its nl, slots := os } := Heap.get?_push_of_some _ ho
      have m9 := F.sub_list_set; have m10 := F.sub_list_frozenset; have m11 : (Value.type "list" == Value.type "dict") = false := by decide
      have isL1 : (hp1 w s).IsList l its := ⟨_, ho1, rfl, nl, rfl⟩
      unfold Builtin.«set.__init__» noKeywords Builtin.Frozenset.updateFrom
      generalize ePI : pyIter = PI; wp_walk; subst ePI
      refine wpAny_pyIter_list isL1 (wpAny_bind (wpAny_runValue ?_))
      have lt : l < s.heap.objs.size := Heap.lt_size ho
      have q1 : A.in1.in1.in1.handled = none := by simp [quiet]
      have z1 : (hp1 w s).objs.size = s.heap.objs.size + 1 := Heap.size_push ..
      have neI : l ≠ (hp1 w s).objs.size := by rw [z1]; exact Nat.ne_of_lt (Nat.lt_succ_of_lt lt)
      have nin : s.heap.objs.size ∉ [(hp1 w s).objs.size, l] := by
        intro h; simp only [List.mem_cons, List.not_mem_nil, or_false] at h
        rcases h with h | h
        · rw [z1] at h; exact Nat.ne_of_lt (Nat.lt_succ_self _) h
        · exact Nat.ne_of_gt lt h
      have val : ∀ (i : Nat) (v : Value), its[i]? = some v → ∃ k t, ks[i]? = some k ∧ v = .int k t := fun i v hv => by
        have hi : i < ks.length := by have := (Array.getElem?_eq_some_iff.mp hv).1; omega
        obtain ⟨t, e⟩ := PyProof.Rows.IntsAre.int_at are i v (by rw [Array.getElem?_toList]; exact hv)
        exact ⟨ks[i], t, List.getElem?_eq_getElem hi, by rw [e, List.getD_eq_getElem?_getD, List.getElem?_eq_getElem hi] <;> rfl⟩
      refine set_update_ints ((Walks.list q1 _ l neI its).toS) s.heap.objs.size nin ks hz few val (its.size - 0) 0 _ (by omega) (Nat.zero_le _) ⟨⟨_, Heap.get?_push_size _ rfl, rfl, rfl⟩, (isL1.push _)⟩ ?fst ?lst
      case fst => exact ⟨0, Nat.le_refl 0, setR_new_at (Heap.get?_push_of_some _ at1)⟩
      case lst =>
        rintro ⟨h2, g2, d2, t2, o2⟩ n mv hn R
        obtain rfl : g2 = s.gens := mv.gens
        obtain rfl : d2 = s.drawn := mv.drawn
        obtain rfl : o2 = s.os := mv.os
        refine wpAny_pure ?_
        show wpAny _ _ (ret Value.none) _ _ _
        refine wpAny_pure ⟨rfl, h2, t2, n, rfl, R, by omega, fun b o e => ?_⟩
        have b0 : b < s.heap.objs.size := Heap.lt_size e
        exact mv.heap b o (by
          intro h; simp only [List.mem_cons, List.not_mem_nil, or_false] at h
          rcases h with h | h
          · exact Nat.ne_of_lt b0 h
          · rw [z1] at h; exact Nat.ne_of_lt (Nat.lt_succ_of_lt b0) h) (Heap.get?_push_of_some _ (Heap.get?_push_of_some _ e))
    · match r, hr with
      | .error e, hr => exact hr
      | .ok (.ret x), hr =>
        obtain ⟨rfl, h2, tk, n, rfl, R, hn, kp⟩ := hr
        repeat (any_goals (first | assumption | wp_step))
        exact go _ _ _ R hn kp
      | .ok .next, hr => exact hr.elim
end
/-- set(xs), a list of ints -/
def rSetL (K : PySem.W.Frag) (w : World) : List V → Hp → VK → Prop := fun xs H Q => ∃ (l : Addr) (ks : List Int), xs = [.ref l] ∧ SqL K H l (ks.map V.int) ∧ ks.length < 1000 ∧ ∀ a n, H a = none → n ≤ ks.length → Q (.ref a) (upd H a (SetO w a (fun j => decide (j ∈ ks)) n))
theorem k_setL {X : Cx} {K : PySem.W.Frag} (hc : X.calm = true := by rfl) (hK : X.K = K := by rfl) : CallR X (.type "set") (rSetL K X.w) := by
  subst hK
  intro pins s σ H xs us Q I r h
  obtain ⟨l, ks, rfl, hl, few, q⟩ := h
  obtain ⟨its, rv, pl, hz⟩ := I.list hl
  rw [Vals.ref1 r]
  refine set_of_list ks (I.ok.hd hc) pl.isList (by simpa using ints_of_vals rv) (by unfold scanBound; omega) fun h2 tk n R hn kp => ?_
  exact ⟨.ref _, _, I.laid (t' := tk) kp (Nat.le_refl _) (setO_new R), rfl, q _ n (I.hok.fresh (Nat.le_refl _)) hn⟩
theorem k_sortedSet {X : Cx} {w : World} (hc : X.calm = true := by rfl) (hw : X.w = w := by rfl) : CallR X (.builtin "sorted") (rSortedSet w) := by subst hw; exact cr_sortedSet hc
theorem k_setT {X : Cx} {K : PySem.W.Frag} {P : Program} {w : World} {k : Nat} (hr : Room k X.A) (hc : X.calm = true := by rfl) (hK : X.K = K := by rfl) (hP : X.prog = P := by rfl) (hw : X.w = w := by rfl) : CallR X (.type "set") (rSetOfT K P w) := by subst hK; subst hP; subst hw; exact cr_setOfT hc hr.units
theorem k_sortedT {X : Cx} {K : PySem.W.Frag} {P : Program} {w : World} (hc : X.calm = true := by rfl) (hK : X.K = K := by rfl) (hP : X.prog = P := by rfl) (hw : X.w = w := by rfl) : CallR X (.builtin "sorted") (rSortedT K P w) := by subst hK; subst hP; subst hw; exact cr_sortedT hc
end G

/-! part A8 -/
namespace TR
open PySem PySem.Spec PyProof.Rows L2 G
abbrev Classes : Type := List (Int × Int)
def inCl (n : Int) (c : Int × Int) : Bool := decide ((n - c.1) % c.2 = 0)
def cov (n : Int) (cs : Classes) : Bool := cs.any (inCl n)
abbrev RCl : Rp (Int × Int) := Rp.pair Rp.int Rp.int
abbrev RCls : Rp Classes := Rp.lst RCl
def Pos (cs : Classes) : Prop := ∀ c ∈ cs, 0 < c.2
section
variable {P : Program} {w : World} {K : PySem.W.Frag} {mg : Str → Option Value} {base : Heap}
abbrev s_is_part : Stmt := top 54
abbrev N_is_part : List Str := ["value"]
abbrev P_is_part : List Str := ["value"]
theorem sc_is_part : FnScope N_is_part P_is_part (defScope s_is_part) := ⟨rfl, rfl, rfl, by decide +kernel, rfl, by decide +kernel, by decide +kernel⟩
theorem bn_is_part : BindsNo "is_part" "is_part" s_is_part P_is_part := fun _ _ _ _ _ _ us hl => match us, hl with | [_], _ => rfl
def sp_is_part : Sp := fun vs H Q _ => ∃ (v : V) (c : Int × Int), vs = [v] ∧ RCl.rel c v H ∧ 0 ≤ c.2 ∧ ∀ H', Same H H' → Q (.bl true) H'
theorem ok_is_part (B : Bt mg) (c_is_whole : Cal P w K mg base 1 "is_whole" sp_is_whole) (F : FnF K mg "is_part" s_is_part []) : Cal P w K mg base 2 "is_part" sp_is_part := by
  refine F.cal sc_is_part bn_is_part (fun vs H Q E h => ?_) (fun f cdv A outer s H vs Q E hr h => ?_)
  · obtain ⟨_, _, rfl, _⟩ := h
    rfl
  · obtain ⟨v, c, rfl, ⟨a, y1, y2, rfl, ha, rfl, rfl⟩, h0, k⟩ := h
    refine ⟨_, (pss_cons (ps_if (PW.pt (pw_or (pt_not (pt_val (pe_callB (k_isiT (K := K)) (by rfl) B.isinstance (by decide +kernel) (pa_cons (pv 0) (pa_cons (pe_tup (pa_cons (pe_ty (n := "list") B.list) (pa_cons (pe_ty (n := "tuple") B.tuple) pa_nil))) pa_nil))))) (pw_or1 (pt_cmpR (op_neU hr (K := K)) (pe_callB (call_lenU (K := K)) (by rfl) B.len (by decide +kernel) (pa_cons (pv 0) pa_nil)) pe_int (nomark _))))) (pss_one (ps_ret pe_bl)) pss_nil)
    (pss_one (ps_ret (pe_and (pe_c c_is_whole hr (by decide) (pa_cons (pe_ix (k_ix (K := K)) (pv 0) pe_int (fun _ _ => rfl)) pa_nil) passL) (pe_and (pe_c c_is_whole hr (by decide) (pa_cons (pe_ix (k_ix (K := K)) (pv 0) pe_int (fun _ _ => rfl)) pa_nil) passL) (pe_one (pe_cmpR op_ge (pe_ix (k_ix (K := K)) (pv 0) pe_int (fun _ _ => rfl)) pe_int (nomark _)))))))), ?_⟩
    refine ⟨_, rfl, sz (n := 2) (by decide), fun p hp => ?_⟩
    have s1 : Same H (upd H p (.tup [.ty "list", .ty "tuple"])) := Same.new hp
    refine ⟨_, p, _, _, [.type "list", .type "tuple"], true, rfl, upd_same, .cons (ClsV.ty _) (.cons (ClsV.ty _) .nil), TyX.base (TyOf.tup (s1 _ _ ha)), kitAny_cons (kit_ty (r := false) (by decide +kernel)) (fun _ => kitAny_cons (kit_ty (r := true) (by decide +kernel)) (fun h => by cases h) (fun _ => rfl)) (fun h => by cases h), ?_⟩
    refine ⟨_, rfl, ?_⟩
    refine iteF ⟨_, rfl, .inl ⟨a, _, rfl, .inr (SqT.of (s1 _ _ ha)), .inl ⟨rfl, _, rfl, ?_⟩⟩⟩
    refine iteF ?_
    refine ⟨_, rfl, .inr (.inl ⟨a, _, 0, _, rfl, rfl, SqT.of (s1 _ _ ha), atI_nat rfl, c.1, rfl, fun H2 s2 => ⟨_, rfl, ?_⟩⟩)⟩
    refine iteT ⟨_, rfl, .inr (.inl ⟨a, _, 1, _, rfl, rfl, SqT.of (s2 _ _ (s1 _ _ ha)), atI_nat rfl, c.2, rfl, fun H3 s3 => ⟨_, rfl, ?_⟩⟩)⟩
    refine iteT ⟨_, rfl, .inr (.inl ⟨a, _, 1, _, rfl, rfl, SqT.of (s3 _ _ (s2 _ _ (s1 _ _ ha))), atI_nat rfl, _, _, rfl, rfl, ?_⟩)⟩
    have q := k _ (s1.trans (s2.trans s3))
    rw [← decide_eq_true h0] at q
    exact q
abbrev s_is_covered : Stmt := top 57
abbrev N_is_covered : List Str := ["n", "classes", "r", "m"]
abbrev P_is_covered : List Str := ["n", "classes"]
theorem sc_is_covered : FnScope N_is_covered P_is_covered (defScope s_is_covered) := ⟨rfl, rfl, rfl, by decide +kernel, rfl, by decide +kernel, by decide +kernel⟩
theorem bn_is_covered : BindsNo "is_covered" "is_covered" s_is_covered P_is_covered := fun _ _ _ _ _ _ us hl => match us, hl with | [_, _], _ => rfl
def sp_is_covered : Sp := fun vs H Q _ => ∃ (F : Hp) (v : V) (n : Int) (cs : Classes), vs = [.int n, v] ∧ Same F H ∧ RCls.rel cs v F ∧ Pos cs ∧ cs.length ≤ 1000 ∧ ∀ H', Same H H' → Q (.bl (cov n cs)) H'
theorem ok_is_covered (B : Bt mg) (F : FnF K mg "is_covered" s_is_covered []) : Cal P w K mg base 1 "is_covered" sp_is_covered := by
  refine F.cal sc_is_covered bn_is_covered (fun vs H Q E h => ?_) (fun f cdv A outer s H vs Q E hr h => ?_)
  · obtain ⟨_, _, _, _, rfl, _⟩ := h
    rfl
  · obtain ⟨F, v, n, cs, rfl, sF, ⟨a, ps, rfl, ha, pd⟩, pos, hlen, k⟩ := h
    have hl : ps.length = cs.length := pd_len pd
    refine ⟨_, (pss_one (ps_ret (pe_callB (k_any (K := K)) (by rfl) B.any (by decide +kernel) (pa_cons (pe_lc (own := [("r", 2), ("m", 3)]) rfl sc_is_covered.nd (k_il (pv 1) (K := K)) (blkOk_by (N := N_is_covered) (sc := defScope s_is_covered) (by decide +kernel)) (fun _ _ _ _ _ => (k_tup (n := 2) rfl (pgs_cons (pg_name (i := 2) sc_is_covered.nd rfl (Or.inl rfl)) (pgs_cons (pg_name (i := 3) sc_is_covered.nd rfl (Or.inl rfl)) pgs_nil)) (K := K))) (fun _ _ _ _ _ => pts_nil) (fun _ _ _ _ _ => (pe_cmpR (op_eqU hr (K := K)) (pe_op op_mod (pe_op op_sub (pv 0) (pv 2)) (pv 3)) pe_int (nomark _)))) pa_nil)))), ?_⟩
    refine ⟨_, rfl, a, rfl, ⟨_, SqL.of (sF _ _ ha)⟩, fun D hD => ?_⟩
    refine go_lc (F1 := F) (walk_list (xs := ps)) Rp.bl (fun i => (cs.map (inCl n)).take i) (by omega) sF hD (by simp) (fun F1 H1 pu => SqL.of (pu.sub _ _ (pu.ff _ _ ha))) (fun i y F1 H1 l H' N hi pu fD hl1 hy kt kf => ?_) (fun F1 H1 ys pu fD hl1 pd1 => ?_)
    · obtain ⟨e1, hy⟩ := hy
      subst e1
      obtain ⟨d, t, z, u, hd, rfl, ht, rfl, rfl⟩ := pair_at pd hy
      refine ⟨t, _, rfl, SqT.of (pu.sub _ _ (pu.ff _ _ ht)), rfl, _, _, rfl, _, _, rfl, rfl, rfl, ?_⟩
      refine ⟨_, rfl, _, rfl, _, _, rfl, rfl, _, rfl, _, _, rfl, rfl, pos d (List.mem_of_getElem? hd), .inl ⟨rfl, ?_⟩⟩
      refine kt _ H' F1 (inCl n d) (Pu.refl pu.sub) ?_ (take_snoc (by rw [List.getElem?_map, hd]; rfl))
      show V.bl _ = V.bl _
      unfold inCl
      congr 2
      exact propext ⟨fun h => V.int.inj h, fun h => congrArg V.int h⟩
    · rw [hl, show cs.length = (cs.map (inCl n)).length by simp, take_all] at pd1
      have e := pd_eq (f := V.bl) (by exact pd1)
      refine ⟨D, _, rfl, .inl (.inl (by rw [hl1, e])), ?_⟩
      have q := k H1 pu.same
      rw [show cov n cs = (cs.map (inCl n)).any id by unfold cov; rw [List.any_map]; rfl] at q
      exact q
/-- the first pieces of a paired list, as the set wants them -/
theorem pd_ks {F : Hp} : ∀ {ds : Classes} {ys : List V}, Paired (fun d x => RCl.rel d x F) ds ys → ∃ ks : List (Addr × List Int), ys = ks.map (fun p => V.ref p.1) ∧ (∀ p ∈ ks, F p.1 = some (.tup (p.2.map V.int))) ∧ ks.map (·.2) = ds.map (fun d => [d.1, d.2])
  | _, _, .nil => ⟨[], rfl, (fun _ h => nomatch h), rfl⟩
  | d :: _, _, .cons h t => by
    obtain ⟨a, x, y, rfl, ha, rfl, rfl⟩ := h
    obtain ⟨ks, rfl, h2, h3⟩ := pd_ks t
    exact ⟨(a, [d.1, d.2]) :: ks, rfl, fun p hp => by
      rcases List.mem_cons.mp hp with rfl | hp
      · exact ha
      · exact h2 p hp, by simp [h3]⟩
theorem ex_bd : ∀ xs : List (List Int), (∀ l ∈ xs, ∀ m ∈ l, 0 ≤ m) → ∃ B, ∀ l ∈ xs, TS.Bd B l
  | [], _ => ⟨0, fun _ h => by cases h⟩
  | l :: r, h => by
    obtain ⟨B, hB⟩ := ex_bd r fun x hx => h x (by simp [hx])
    have : ∀ l : List Int, (∀ m ∈ l, 0 ≤ m) → ∃ C, ∀ m ∈ l, 0 ≤ m ∧ m < C := by
      intro l
      induction l with
      | nil => exact fun _ => ⟨0, fun _ h => by cases h⟩
      | cons a t ih =>
        intro h
        obtain ⟨C, hC⟩ := ih fun m hm => h m (by simp [hm])
        refine ⟨(if C ≤ a then a + 1 else C), fun m hm => ?_⟩
        have ha := h a (by simp)
        rcases List.mem_cons.mp hm with e | e
        · subst e
          split <;> omega
        · have := hC m e
          split <;> omega
    obtain ⟨C, hC⟩ := this l (h l (by simp))
    refine ⟨(if B ≤ C then C else B), fun x hx m hm => ?_⟩
    rcases List.mem_cons.mp hx with e | e
    · subst e
      have := hC m hm
      split <;> omega
    · have := hB x e m hm
      split <;> omega
theorem emod_dvd {a b : Int} : a % b = 0 ↔ b ∣ a := (Int.dvd_iff_emod_eq_zero ..).symm
theorem inCl_emod (n r m : Int) : inCl n (r % m, m) = inCl n (r, m) := by
  unfold inCl
  congr 1
  apply propext
  rw [emod_dvd, emod_dvd]
  have h : m ∣ r - r % m := Int.dvd_self_sub_emod
  constructor
  · intro q
    have := Int.dvd_sub q h
    rw [show n - r % m - (r - r % m) = n - r by omega] at this
    exact this
  · intro q
    have := Int.dvd_add q h
    rw [show n - r + (r - r % m) = n - r % m by omega] at this
    exact this
/-- a class within a class -/
theorem inCl_sub {n r m s k : Int} (h1 : m % k = 0) (h2 : (r - s) % k = 0) (h : inCl n (r, m) = true) : inCl n (s, k) = true := by
  unfold inCl at h ⊢
  have h' := of_decide_eq_true h
  refine decide_eq_true ?_
  show (n - s) % k = 0
  rw [emod_dvd] at h1 h2 h' ⊢
  have := Int.dvd_add (Int.dvd_trans h1 h') h2
  rw [show n - r + (r - s) = n - s by omega] at this
  exact this
abbrev s_tidy_classes : Stmt := top 55
abbrev N_tidy_classes : List Str := ["classes", "kept", "m", "r", "s", "k"]
abbrev P_tidy_classes : List Str := ["classes"]
theorem sc_tidy_classes : FnScope N_tidy_classes P_tidy_classes (defScope s_tidy_classes) := ⟨rfl, rfl, rfl, by decide +kernel, rfl, by decide +kernel, by decide +kernel⟩
theorem bn_tidy_classes : BindsNo "tidy_classes" "tidy_classes" s_tidy_classes P_tidy_classes := fun _ _ _ _ _ _ us hl => match us, hl with | [_], _ => rfl
/-- each one comes of one of those -/
def From (cs kept : Classes) : Prop := ∀ k ∈ kept, ∃ c ∈ cs, k = (c.1 % c.2, c.2)
def sp_tidy : Sp := fun vs H Q _ => ∃ (F : Hp) (v : V) (cs : Classes), vs = [v] ∧ Same F H ∧ RCls.rel cs v F ∧ Pos cs ∧ cs.length < 60 ∧
  ∀ r F' H' kept, Pu F H F' H' → RCls.rel kept r F' → (Pos kept ∧ From cs kept) → (∀ n, cov n kept = cov n cs) → kept.length < 64 → Q r H'
theorem ok_tidy (B : Bt mg) (F : FnF K mg "tidy_classes" s_tidy_classes []) : Cal P w K mg base 1 "tidy_classes" sp_tidy := by
  refine F.cal sc_tidy_classes bn_tidy_classes (fun vs H Q E h => ?_) (fun f cdv A outer s H vs Q E hr h => ?_)
  · obtain ⟨_, _, _, rfl, _⟩ := h
    rfl
  · obtain ⟨F, v, cs, rfl, sF, ⟨a, ps, rfl, ha, pd⟩, pos, hlen, k⟩ := h
    have hl : ps.length = cs.length := pd_len pd
    refine ⟨_, (pss_cons (ps_set (i := 1) sc_tidy_classes.nd rfl (Or.inl rfl) (pe_lst pa_nil))
    (pss_cons (ps_for (passes_of rfl) rfl (k_il (pe_callB (k_sortedT (K := K) (P := P) (w := w)) (by rfl) B.sorted (by decide +kernel) (pa_cons (pe_callTy (k_setT hr (K := K) (P := P) (w := w)) (by rfl) B.set (by decide +kernel) (pa_cons (pe_lc (own := [("r", 3), ("m", 2)]) rfl sc_tidy_classes.nd (k_il (pv 0) (K := K)) (blkOk_by (N := N_tidy_classes) (sc := defScope s_tidy_classes) (by decide +kernel)) (fun _ _ _ _ _ => (k_tup (n := 2) rfl (pgs_cons (pg_name (i := 3) sc_tidy_classes.nd rfl (Or.inl rfl)) (pgs_cons (pg_name (i := 2) sc_tidy_classes.nd rfl (Or.inl rfl)) pgs_nil)) (K := K))) (fun _ _ _ _ _ => pts_nil) (fun _ _ _ _ _ => (pe_tup (pa_cons (pv 2) (pa_cons (pe_op op_mod (pv 3) (pv 2)) pa_nil))))) pa_nil)) pa_nil)) (K := K)) (k_tup (n := 2) rfl (pgs_cons (pg_name (i := 2) sc_tidy_classes.nd rfl (Or.inr rfl)) (pgs_cons (pg_name (i := 3) sc_tidy_classes.nd rfl (Or.inr rfl)) pgs_nil)) (K := K))
    (pss_one (ps_if (pt_not (pt_val (pe_callB (k_any (K := K)) (by rfl) B.any (by decide +kernel) (pa_cons (pe_lc (own := [("s", 4), ("k", 5)]) rfl sc_tidy_classes.nd (k_il (pv 1) (K := K)) (blkOk_by (N := N_tidy_classes) (sc := defScope s_tidy_classes) (by decide +kernel)) (fun _ _ _ _ _ => (k_tup (n := 2) rfl (pgs_cons (pg_name (i := 4) sc_tidy_classes.nd rfl (Or.inl rfl)) (pgs_cons (pg_name (i := 5) sc_tidy_classes.nd rfl (Or.inl rfl)) pgs_nil)) (K := K))) (fun _ _ _ _ _ => pts_nil) (fun _ _ _ _ _ => (pe_and (pe_cmpR (op_eqU hr (K := K)) (pe_op op_mod (pv 2) (pv 5)) pe_int (nomark _)) (pe_one (pe_cmpR (op_eqU hr (K := K)) (pe_op op_mod (pe_op op_sub (pv 3) (pv 4)) (pv 5)) pe_int (nomark _)))))) pa_nil)))) (pss_one (ps_expr (pe_bm PySem.F.plainAttrs_list PySem.F.slot_list_append PySem.F.type_list_append mt_append (pv 1) (pa_cons (pe_tup (pa_cons (pv 3) (pa_cons (pv 2) pa_nil))) pa_nil)))) pss_nil)))
    (pss_one (ps_ret (pv 1))))), ?_⟩
    -- kept = []
    refine ⟨sz (n := 0) (by decide), fun D hD => ?_⟩
    have w0 : Own F H F (upd H D (.lst [])) [(D, .lst [])] := (Own.nil (Pu.refl sF)).new hD
    -- sorted(set([..]))
    refine ⟨_, rfl, a, rfl, ⟨_, SqL.of (w0.sub _ _ ha)⟩, fun D1 hD1 => ?_⟩
    refine go_lc (F1 := F) (walk_list (xs := ps)) RCl (fun i => (cs.map fun c => (c.2, c.1 % c.2)).take i) (by omega) w0.sub hD1 (by simp) (fun F1 H1 pu => SqL.of (pu.sub _ _ (pu.ff _ _ ha))) (fun i y F1 H1 l H' N hi pu fD hl1 hy kt kf => ?_) (fun F1 H1 ys pu fD hl1 pd1 => ?_)
    · obtain ⟨e1, hy⟩ := hy
      subst e1
      obtain ⟨d, t, z, u, hd, rfl, ht, rfl, rfl⟩ := pair_at pd hy
      refine ⟨t, _, rfl, SqT.of (pu.sub _ _ (pu.ff _ _ ht)), rfl, _, _, rfl, _, _, rfl, rfl, rfl, ?_⟩
      refine ⟨_, rfl, _, rfl, _, rfl, _, _, rfl, rfl, pos d (List.mem_of_getElem? hd), sz (n := 2) (by decide), fun q hq => ?_⟩
      exact kt (.ref q) _ (upd F1 q (.tup [.int d.2, .int (d.1 % d.2)])) (d.2, d.1 % d.2) ((Pu.refl pu.sub).add hq) ⟨q, _, _, rfl, upd_same, rfl, rfl⟩ (take_snoc (by rw [List.getElem?_map, hd]; rfl))
    · rw [hl, show cs.length = (cs.map fun c => (c.2, c.1 % c.2)).length by simp, take_all] at pd1
      have hyl := pd_len pd1
      obtain ⟨ls, rfl, k2, k3⟩ := pd_ks pd1
      have w1 := w0.step pu
      refine ⟨D1, ls, rfl, SqL.of hl1, fun p hp => SqT.of (w1.sub _ _ (k2 p hp)), by simp at hyl; omega, fun b L hb hL hL2 => ?_⟩
      have w2 := w1.tmp (Same.new (o := SetTO P w b L) hb)
      obtain ⟨Bd, hBd⟩ := ex_bd (ls.map (·.2)) (by
        rw [k3, List.map_map]
        intro l hl m hm
        obtain ⟨c, hc, rfl⟩ := List.mem_map.mp hl
        have := pos c hc
        rcases List.mem_cons.mp hm with e | e
        · subst e; show (0 : Int) ≤ c.2; omega
        · rcases List.mem_cons.mp e with e | e
          · subst e; exact Int.emod_nonneg _ (by omega)
          · cases e)
      have two : ∀ p ∈ ls, ∃ c ∈ cs, p.2 = [c.2, c.1 % c.2] := fun p hp => by
        have : p.2 ∈ ls.map (·.2) := List.mem_map_of_mem hp
        rw [k3, List.map_map] at this
        obtain ⟨c, hc, e⟩ := List.mem_map.mp this
        exact ⟨c, hc, e.symm⟩
      refine ⟨b, L, 2, Bd, rfl, upd_same, fun p hp => SqT.of (w2.sub _ _ (k2 p (hL p hp))), by decide, fun p hp => ⟨by obtain ⟨c, _, e⟩ := two p (hL p hp); rw [e]; rfl, hBd _ (List.mem_map_of_mem (hL p hp))⟩, fun L' q hpm _ hfew _ hq => ?_⟩
      have w3 := w2.new (o := .lst (L'.map fun q => V.ref q.1)) hq
      have mem : ∀ p ∈ L', p ∈ ls := fun p hp => hL p (hpm.mem_iff.mp hp)
      -- the loop
      refine ⟨_, rfl, ⟨_, SqL.of upd_same⟩, ?_⟩
      refine for_it (walk_list (xs := L'.map fun q => V.ref q.1)) (fun i σ H' => ∃ (F' : Hp) (m r : Option V) (zs : List V) (kept : Classes), Own F H F' H' [(q, .lst (L'.map fun q => V.ref q.1)), (D, .lst zs)] ∧ Same F1 F' ∧ Paired (fun d x => RCl.rel d x F') kept zs ∧ kept.length ≤ i ∧ (Pos kept ∧ From cs kept) ∧
          (∀ n, cov n kept = (L'.take i).any fun p => inCl n (p.2.getD 1 0, p.2.getD 0 0)) ∧ σ = [some (.ref a), some (.ref D), m, r, none, none]) ⟨F1, none, none, [], [], w3, Same.refl _, .nil, Nat.le_refl _, ⟨(fun _ h => by cases h), (fun _ h => by cases h)⟩, (fun n => by simp [cov]), rfl⟩ (fun i σ H' _ ⟨F', m, r, zs, kept, w4, _⟩ => SqL.of (w4.at 0)) ?_ ?_
      · rintro i y σ H' H'' hi ⟨F', m0, r0, zs, kept, w4, s4, pdk, lenk, ⟨posk, frk⟩, hcov, rfl⟩ ⟨e1, hy⟩
        subst e1
        rw [List.getElem?_map] at hy
        cases hp : L'[i]? with
        | none => rw [hp] at hy; cases hy
        | some p =>
          rw [hp] at hy
          cases hy
          have hpl := mem p (List.mem_of_getElem? hp)
          obtain ⟨c, hc, e2⟩ := two p hpl
          have hc0 := pos c hc
          have ht := s4 _ _ (k2 p hpl)
          rw [e2] at ht
          refine ⟨p.1, _, rfl, SqT.of (w4.sub _ _ ht), rfl, _, _, rfl, _, _, rfl, rfl, ?_⟩
          have hzl := pd_len pdk
          refine ⟨_, rfl, D, rfl, ⟨_, SqL.of (w4.at 1)⟩, fun D2 hD2 => ?_⟩
          refine go_lc (F1 := F') (walk_list (xs := zs)) Rp.bl (fun i => (kept.map fun d => decide (c.2 % d.2 = 0) && decide ((c.1 % c.2 - d.1) % d.2 = 0)).take i) (by have := (List.getElem?_eq_some_iff.mp hp).1; have := hpm.length_eq; omega) w4.sub hD2 (by simp) (fun F1 H1 pu => SqL.of (pu.same _ _ (w4.at 1))) (fun i y F5 H5 l H6 N hi pu fD hl1 hy kt kf => ?_) (fun F5 H5 ys pu fD hl1 pd5 => ?_)
          · obtain ⟨e1, hy⟩ := hy
            subst e1
            obtain ⟨d, t, z, u, hd, rfl, ht, rfl, rfl⟩ := pair_at pdk hy
            have hd0 := posk d (List.mem_of_getElem? hd)
            refine ⟨t, _, rfl, SqT.of (pu.sub _ _ (pu.ff _ _ ht)), rfl, _, _, rfl, _, _, rfl, rfl, rfl, ?_⟩
            have fin : ∀ b, b = (decide (c.2 % d.2 = 0) && decide ((c.1 % c.2 - d.1) % d.2 = 0)) → ∃ acc, H6 D2 = some (.lst acc) ∧ acc.length < sizeLine ∧ N (upd H6 D2 (.lst (acc ++ [.bl b]))) := fun b e =>
              kt (.bl b) H6 F5 b (Pu.refl pu.sub) rfl (by rw [take_snoc (by rw [List.getElem?_map, hd]; rfl), e])
            refine ⟨_, rfl, _, rfl, _, _, rfl, rfl, hd0, .inl ⟨rfl, _, rfl, ?_⟩⟩
            by_cases h1 : c.2 % d.2 = 0
            · rw [decide_eq_true (congrArg V.int h1)]
              refine ⟨_, rfl, _, rfl, _, _, rfl, rfl, _, rfl, _, _, rfl, rfl, hd0, .inl ⟨rfl, fin _ ?_⟩⟩
              rw [decide_eq_true h1, Bool.true_and]
              congr 1
              exact propext ⟨fun h => V.int.inj h, fun h => congrArg V.int h⟩
            · rw [decide_eq_false (fun q => h1 (V.int.inj q))]
              exact fin _ (by rw [decide_eq_false h1]; rfl)
          · rw [hzl, show kept.length = (kept.map fun d => decide (c.2 % d.2 = 0) && decide ((c.1 % c.2 - d.1) % d.2 = 0)).length by simp, take_all] at pd5
            have e := pd_eq (f := V.bl) (by exact pd5)
            refine ⟨D2, _, rfl, .inl (.inl (by rw [hl1, e])), ?_⟩
            refine ⟨_, rfl, ?_⟩
            have w5 := w4.step pu
            have e3 : (kept.map fun d => decide (c.2 % d.2 = 0) && decide ((c.1 % c.2 - d.1) % d.2 = 0)).any id = kept.any fun d => decide (c.2 % d.2 = 0) && decide ((c.1 % c.2 - d.1) % d.2 = 0) := by rw [List.any_map]; rfl
            rw [e3]
            have ecov : ∀ n, ((L'.take (i + 1)).any fun p => inCl n (p.2.getD 1 0, p.2.getD 0 0)) = (cov n kept || inCl n (c.1 % c.2, c.2)) := fun n => by
              rw [take_snoc hp, List.any_append, hcov n]
              congr 1
              simp only [List.any_cons, List.any_nil, Bool.or_false]
              rw [e2]
              rfl
            cases hb : kept.any fun d => decide (c.2 % d.2 = 0) && decide ((c.1 % c.2 - d.1) % d.2 = 0) with
            | true =>
              refine ⟨F5, _, _, zs, kept, w5, s4.trans pu.ff, pd_mono (fun _ _ => RCl.mono pu.ff) pdk, by omega, ⟨posk, frk⟩, fun n => ?_, rfl⟩
              rw [ecov n]
              obtain ⟨d, hd, q⟩ := List.any_eq_true.mp hb
              have q1 := Bool.and_eq_true_iff.mp q
              cases h : inCl n (c.1 % c.2, c.2) with
              | false => rw [Bool.or_false]
              | true =>
                rw [Bool.or_true]
                exact List.any_eq_true.mpr ⟨d, hd, inCl_sub (of_decide_eq_true q1.1) (of_decide_eq_true q1.2) h⟩
            | false =>
              refine ⟨_, rfl, .inl ⟨rfl, _, SqL.of (w5.at 1)⟩, _, rfl, _, rfl, sz (n := 2) (by decide), fun u hu => ?_⟩
              have w6 := w5.add (o := .tup [.int (c.1 % c.2), .int c.2]) hu
              refine ⟨D, zs, _, rfl, rfl, w6.at 1, szl (by have := (List.getElem?_eq_some_iff.mp hp).1; have := hpm.length_eq; omega), ?_⟩
              have w7 := w6.mut (o' := .lst (zs ++ [.ref u])) 1
              have s6 := Same.new (o := .tup [.int (c.1 % c.2), .int c.2]) (w5.sub.free hu)
              refine ⟨_, _, _, _, kept ++ [(c.1 % c.2, c.2)], w7, s4.trans (pu.ff.trans s6), pd_snoc (pd_mono (fun _ _ => RCl.mono (pu.ff.trans s6)) pdk) ⟨u, _, _, rfl, upd_same, rfl, rfl⟩, by simp; omega, ⟨fun x hx => ?_, fun x hx => ?_⟩, fun n => ?_, rfl⟩
              · rcases List.mem_append.mp hx with h | h
                · exact posk x h
                · rw [List.mem_singleton.mp h]
                  exact hc0
              · rcases List.mem_append.mp hx with h | h
                · exact frk x h
                · exact ⟨c, hc, List.mem_singleton.mp h⟩
              · rw [ecov n]
                unfold cov
                rw [List.any_append]
                simp
      · rintro σ H' ⟨F', m0, r0, zs, kept, w4, s4, pdk, lenk, ⟨posk, frk⟩, hcov, rfl⟩
        refine ⟨_, rfl, k (.ref D) _ _ kept (w4.fix 1).pu ⟨D, zs, rfl, upd_same, pd_mono (fun _ _ => RCl.mono (w4.ext 1)) pdk⟩ ⟨posk, frk⟩ (fun n => ?_) ?_⟩
        · rw [hcov n, List.length_map, take_all]
          have key : (L'.any fun p => inCl n (p.2.getD 1 0, p.2.getD 0 0)) = true ↔ cov n cs = true := by
            unfold cov
            rw [List.any_eq_true, List.any_eq_true]
            constructor
            · rintro ⟨p, hp, h⟩
              obtain ⟨c, hc, e⟩ := two p (mem p hp)
              rw [e] at h
              exact ⟨c, hc, by rw [← inCl_emod n c.1 c.2]; exact h⟩
            · rintro ⟨c, hc, h⟩
              have h1 : [c.2, c.1 % c.2] ∈ ls.map (·.2) := by
                rw [k3, List.map_map]
                exact List.mem_map.mpr ⟨c, hc, rfl⟩
              obtain ⟨p, hp, ep⟩ := List.mem_map.mp h1
              obtain ⟨p', hp', ep'⟩ := List.mem_map.mp (hL2 p hp)
              refine ⟨p', hpm.mem_iff.mpr hp', ?_⟩
              rw [ep', ep]
              rw [← inCl_emod n c.1 c.2] at h
              exact h
          exact Bool.eq_iff_iff.mpr key
        · have := hpm.length_eq
          simp at lenk
          omega
end
end TR

/-! part A9 -/
namespace TR
open PySem PySem.Spec PyProof.Rows L2 G
structure NumD where
  cs : Classes
  sg : List Int
def memD (n : Int) (d : NumD) : Bool := decide (n ∈ d.sg) || cov n d.cs
def memP (n : Int) (ps : Classes) : Bool := ps.any fun c => if c.2 = 0 then decide (n = c.1) else inCl n c
structure NumAt (C : Addr) (d : NumD) (v : V) (F : Hp) (a dx lc ls : Addr) : Prop where
  ev : v = .ref a
  ob : F a = some (.ins C dx [("classes", .ref lc), ("singles", .ref ls)])
  cl : RCls.rel d.cs (.ref lc) F
  sg : F ls = some (.lst (d.sg.map V.int))
  pos : Pos d.cs
  len : d.cs.length < 64
  lsg : d.sg.length < 64
def RNum (C : Addr) : Rp NumD := ⟨fun d v F => ∃ a dx lc ls, NumAt C d v F a dx lc ls,
  fun s ⟨a, dx, lc, ls, h⟩ => ⟨a, dx, lc, ls, h.ev, s _ _ h.ob, RCls.mono s h.cl, s _ _ h.sg, h.pos, h.len, h.lsg⟩⟩
theorem mem_eq {n : Int} {ps cl : Classes} {ns : List Int} (h0 : ∀ c ∈ ps, 0 ≤ c.2) (hc : cov n cl = cov n (ps.filter fun c => decide (0 < c.2))) (hn : ∀ k : Int, k ∈ ns ↔ k ∈ (ps.filter fun c => decide (c.2 = 0)).map (·.1)) :
    memD n ⟨cl, ns.filter fun k => !cov k cl⟩ = memP n ps := by
  apply Bool.eq_iff_iff.mpr
  unfold memD memP
  simp only [Bool.or_eq_true, decide_eq_true_eq, List.any_eq_true]
  have hcov : cov n cl = true ↔ ∃ c ∈ ps, 0 < c.2 ∧ inCl n c = true := by
    rw [hc]
    unfold cov
    rw [List.any_eq_true]
    constructor
    · rintro ⟨c, hc, h⟩
      have := List.mem_filter.mp hc
      exact ⟨c, this.1, of_decide_eq_true this.2, h⟩
    · rintro ⟨c, hc, h1, h⟩
      exact ⟨c, List.mem_filter.mpr ⟨hc, decide_eq_true h1⟩, h⟩
  constructor
  · rintro (h | h)
    · have h1 := (List.mem_filter.mp h).1
      obtain ⟨c, hc, e⟩ := List.mem_map.mp ((hn n).mp h1)
      have hc2 := List.mem_filter.mp hc
      exact ⟨c, hc2.1, by rw [if_pos (of_decide_eq_true hc2.2)]; exact decide_eq_true e.symm⟩
    · obtain ⟨c, hc, h1, h2⟩ := hcov.mp h
      exact ⟨c, hc, by rw [if_neg (by omega)]; exact h2⟩
  · rintro ⟨c, hc, h⟩
    by_cases hz : c.2 = 0
    · rw [if_pos hz] at h
      have e := of_decide_eq_true h
      cases q : cov n cl with
      | true => exact .inr rfl
      | false =>
        refine .inl (List.mem_filter.mpr ⟨(hn n).mpr (List.mem_map.mpr ⟨c, List.mem_filter.mpr ⟨hc, decide_eq_true hz⟩, e.symm⟩), ?_⟩)
        rw [q]; rfl
    · rw [if_neg hz] at h
      exact .inr (hcov.mpr ⟨c, hc, by have := h0 c hc; omega, h⟩)
theorem filter_snoc {α : Type} {p : α → Bool} {l : List α} {i : Nat} {d : α} (h : l[i]? = some d) (hp : p d = true) : (l.take (i + 1)).filter p = (l.take i).filter p ++ [d] := by
  rw [take_snoc h, List.filter_append]
  simp [hp]
theorem filter_skip {α : Type} {p : α → Bool} {l : List α} {i : Nat} {d : α} (h : l[i]? = some d) (hp : p d = false) : (l.take (i + 1)).filter p = (l.take i).filter p := by
  rw [take_snoc h, List.filter_append]
  simp [hp]
section
variable {P : Program} {w : World} {K : PySem.W.Frag} {mg : Str → Option Value} {base : Heap} {CN : Addr}
abbrev s_Numbers_init : Stmt := inClass (top 59) 0
abbrev N_Numbers_init : List Str := ["self", "parts", "index", "part", "r", "m", "singles", "n"]
abbrev P_Numbers_init : List Str := ["self", "parts"]
theorem sc_Numbers_init : FnScope N_Numbers_init P_Numbers_init (defScope s_Numbers_init) := ⟨rfl, rfl, rfl, by decide +kernel, rfl, by decide +kernel, by decide +kernel⟩
theorem bn_Numbers_init (T : Addr) (kV doc pm : Value) (an : Option Addr) (cdv ct : Value) (us its : List Value) (hu : us.length = P_Numbers_init.length) (hi : its.length = 1) :
    ∃ k, bindArgs (PySem.W.fnOf "__init__" "Numbers.__init__" (defArgs s_Numbers_init) (defBody s_Numbers_init) (defScope s_Numbers_init) (.ref T) kV doc pm an cdv ct) ⟨us, []⟩ = seqItems? (.ref T) >>= k ∧ k (some its.toArray) = pure (P_Numbers_init.zip (us ++ its.drop 1)) :=
  match us, hu, its, hi with
  | [_, _], _, [_], _ => ⟨_, rfl, rfl⟩
structure NumOk (d : NumD) (ps : Classes) : Prop where
  mem : ∀ n, memD n d = memP n ps
  cs : ∀ c ∈ d.cs, ∃ p ∈ ps, 0 < p.2 ∧ c = (p.1 % p.2, p.2)
  sg : ∀ n ∈ d.sg, ∃ p ∈ ps, p.2 = 0 ∧ n = p.1
def sp_Numbers_init (C : Addr) : Sp := fun vs H Q _ => ∃ (F H0 : Hp) (x dx : Addr) (v : V) (ps : Classes), vs = [.ref x, v] ∧ New C F H0 H x dx ∧ RCls.rel ps v F ∧ (∀ c ∈ ps, 0 ≤ c.2) ∧ ps.length < 60 ∧
  ∀ F' H' d, Pu F H0 F' H' → (RNum C).rel d (.ref x) F' → NumOk d ps → Q .non H'
theorem ok_Numbers_init (B : Bt mg) (N : KlF K mg "Numbers" CN ["classes", "singles"]) (c_is_part : Cal P w K mg base 2 "is_part" sp_is_part) (c_is_covered : Cal P w K mg base 1 "is_covered" sp_is_covered) (c_tidy_classes : Cal P w K mg base 1 "tidy_classes" sp_tidy)
    {dv : V} (F : MkF K mg "Numbers" CN "Numbers.__init__" s_Numbers_init [dv]) : Mak P w K mg base 3 "Numbers" CN (sp_Numbers_init CN) := by
  refine F.makD sc_Numbers_init (by simp) bn_Numbers_init (fun vs H Q E h => ?_) (fun f cdv A outer s H vs Q E hr h => ?_)
  · obtain ⟨_, _, _, _, _, _, rfl, _⟩ := h
    rfl
  · obtain ⟨F, H0, x, dx, v, cs, rfl, nw, ⟨a, ps, rfl, ha, pd⟩, h0, hlen, k⟩ := h
    have w0 := nw.own
    have hl : ps.length = cs.length := pd_len pd
    refine ⟨_, (pss_cons (ps_for (passes_of rfl) rfl (k_enum (by rfl) B.enumerate (pa_cons (pv 1) pa_nil) (K := K)) (k_tup (n := 2) rfl (pgs_cons (pg_name (i := 2) sc_Numbers_init.nd rfl (Or.inl rfl)) (pgs_cons (pg_name (i := 3) sc_Numbers_init.nd rfl (Or.inl rfl)) pgs_nil)) (K := K))
    (pss_one (ps_if (pt_not (pt_val (pe_c c_is_part hr (by decide) (pa_cons (pv 3) pa_nil) passL))) (pss_one ps_never) pss_nil)))
    (pss_cons (ps_fld (pv 0) (pe_c c_tidy_classes hr (by decide) (pa_cons (pe_lc (own := [("r", 4), ("m", 5)]) rfl sc_Numbers_init.nd (k_il (pv 1) (K := K)) (blkOk_by (N := N_Numbers_init) (sc := defScope s_Numbers_init) (by decide +kernel)) (fun _ _ _ _ _ => (k_tup (n := 2) rfl (pgs_cons (pg_name (i := 4) sc_Numbers_init.nd rfl (Or.inl rfl)) (pgs_cons (pg_name (i := 5) sc_Numbers_init.nd rfl (Or.inl rfl)) pgs_nil)) (K := K))) (fun _ _ _ _ _ => (pts_one (pt_cmpR op_gt (pv 5) pe_int (nomark _)))) (fun _ _ _ _ _ => (pe_tup (pa_cons (pv 4) (pa_cons (pv 5) pa_nil))))) pa_nil) passL) rfl)
    (pss_cons (ps_set (i := 6) sc_Numbers_init.nd rfl (Or.inl rfl) (pe_callB (k_sortedSet (w := w)) (by rfl) B.sorted (by decide +kernel) (pa_cons (pe_callTy (k_setL (K := K)) (by rfl) B.set (by decide +kernel) (pa_cons (pe_lc (own := [("r", 4), ("m", 5)]) rfl sc_Numbers_init.nd (k_il (pv 1) (K := K)) (blkOk_by (N := N_Numbers_init) (sc := defScope s_Numbers_init) (by decide +kernel)) (fun _ _ _ _ _ => (k_tup (n := 2) rfl (pgs_cons (pg_name (i := 4) sc_Numbers_init.nd rfl (Or.inl rfl)) (pgs_cons (pg_name (i := 5) sc_Numbers_init.nd rfl (Or.inl rfl)) pgs_nil)) (K := K))) (fun _ _ _ _ _ => (pts_one (pt_cmpR (op_eqU hr (K := K)) (pv 5) pe_int (nomark _)))) (fun _ _ _ _ _ => (pv 4))) pa_nil)) pa_nil)))
    (pss_one (ps_fld (pv 0) (pe_lc (own := [("n", 7)]) rfl sc_Numbers_init.nd (k_il (pv 6) (K := K)) (blkOk_by (N := N_Numbers_init) (sc := defScope s_Numbers_init) (by decide +kernel)) (fun _ _ _ _ _ => (pg_name (i := 7) sc_Numbers_init.nd rfl (Or.inl rfl))) (fun _ _ _ _ _ => (pts_one (pt_not (pt_val (pe_c c_is_covered hr (by decide) (pa_cons (pv 7) (pa_cons (k_fld (pv 0) (K := K)) pa_nil)) passL))))) (fun _ _ _ _ _ => (pv 7))) rfl))))), ?_⟩
    refine ⟨_, rfl, a, ps, rfl, SqL.of (w0.sub _ _ ha), ?_⟩
    refine for_it (walk_enum (xs := ps)) (fun i σ H' => ∃ (n p : Option V), Own F H0 F H' [(x, .ins CN dx [])] ∧ σ = [some (.ref x), some (.ref a), n, p, none, none, none, none]) ⟨none, none, w0, rfl⟩ (fun i σ H' _ ⟨n, p, w1, _⟩ => SqL.of (w1.sub _ _ ha)) ?_ ?_
    · rintro i y σ H' H'' hi ⟨n0, p0, w1, rfl⟩ ⟨T, x1, x2, rfl, hT, rfl, e1, hy⟩
      cases e1
      have w2 := w1.tmp (Same.new (o := .tup [.int (i : Nat), x2]) hT)
      obtain ⟨d, t0, z, u, hd, rfl, ht, rfl, rfl⟩ := pair_at pd hy
      refine ⟨T, _, rfl, SqT.of upd_same, rfl, _, _, rfl, _, _, rfl, rfl, ?_⟩
      refine ⟨_, rfl, _, d, rfl, ⟨t0, _, _, rfl, w2.sub _ _ ht, rfl, rfl⟩, h0 d (List.mem_of_getElem? hd), fun H4 s4 => ?_⟩
      exact ⟨_, rfl, _, _, w2.tmp s4, rfl⟩
    · rintro σ H' ⟨n0, p0, w1, rfl⟩
      -- self.classes
      refine ⟨_, rfl, a, rfl, ⟨_, SqL.of (w1.sub _ _ ha)⟩, fun D hD => ?_⟩
      refine go_lc (F1 := F) (walk_list (xs := ps)) RCl (fun i => (cs.take i).filter fun c => decide (0 < c.2)) (by omega) w1.sub hD (by simp) (fun F1 H1 pu => SqL.of (pu.sub _ _ (pu.ff _ _ ha))) (fun i y F1 H1 l H' N hi pu fD hl1 hy kt kf => ?_) (fun F1 H1 ys pu fD hl1 pd1 => ?_)
      · obtain ⟨e1, hy⟩ := hy
        subst e1
        obtain ⟨d, t, z, u, hd, rfl, ht, rfl, rfl⟩ := pair_at pd hy
        refine ⟨t, _, rfl, SqT.of (pu.sub _ _ (pu.ff _ _ ht)), rfl, _, _, rfl, _, _, rfl, rfl, rfl, ?_⟩
        refine ⟨_, rfl, _, _, rfl, rfl, _, rfl, ?_⟩
        by_cases h1 : d.2 > 0
        · rw [decide_eq_true h1]
          refine ⟨_, rfl, _, rfl, sz (n := 2) (by decide), fun q hq => ?_⟩
          exact kt (.ref q) _ (upd F1 q (.tup [.int d.1, .int d.2])) d ((Pu.refl pu.sub).add hq) ⟨q, _, _, rfl, upd_same, rfl, rfl⟩ (filter_snoc hd (decide_eq_true h1))
        · rw [decide_eq_false h1]
          exact kf _ _ (Pu.refl pu.sub) (filter_skip hd (decide_eq_false h1))
      · rw [hl, take_all] at pd1
        have w2 := w1.lc hD pu fD hl1
        have w3 := w2.fix 0
        have hfl : (cs.filter fun c => decide (0 < c.2)).length ≤ cs.length := List.length_filter_le _ _
        refine ⟨_, _, cs.filter fun c => decide (0 < c.2), rfl, w3.sub, ⟨D, ys, rfl, upd_same, pd_mono (fun _ _ => RCl.mono (w2.ext 0)) pd1⟩, fun c hc => of_decide_eq_true (List.mem_filter.mp hc).2, by omega, fun r F2 H2 cl pu2 rr ⟨pcl, fcl⟩ ccl lcl => ?_⟩
        have w4 := w3.step pu2
        refine ⟨_, rfl, st_fld w4 N.cl (N.no _ (by decide)) 0 [] rfl rfl (by decide +kernel) (by decide) fun w5 => ?_⟩
        -- singles
        refine ⟨_, rfl, a, rfl, ⟨_, SqL.of (w5.sub _ _ (w5.ff _ _ ha))⟩, fun D2 hD2 => ?_⟩
        refine go_lc (F1 := F2) (walk_list (xs := ps)) Rp.int (fun i => ((cs.take i).filter fun c => decide (c.2 = 0)).map (·.1)) (by omega) w5.sub hD2 (by simp) (fun F1 H1 pu => SqL.of (pu.sub _ _ (pu.ff _ _ (w5.ff _ _ ha)))) (fun i y F1 H1 l H' N hi pu fD hl1 hy kt kf => ?_) (fun F3 H3 ys3 pu3 fD3 hl3 pd3 => ?_)
        · obtain ⟨e1, hy⟩ := hy
          subst e1
          obtain ⟨d, t, z, u, hd, rfl, ht, rfl, rfl⟩ := pair_at pd hy
          refine ⟨t, _, rfl, SqT.of (pu.sub _ _ (pu.ff _ _ (w5.ff _ _ ht))), rfl, _, _, rfl, _, _, rfl, rfl, rfl, ?_⟩
          refine ⟨_, rfl, .inl ⟨rfl, _, rfl, ?_⟩⟩
          by_cases h1 : d.2 = 0
          · rw [decide_eq_true (congrArg V.int h1)]
            exact ⟨_, rfl, kt (.int d.1) _ F1 d.1 (Pu.refl pu.sub) rfl (by rw [filter_snoc hd (decide_eq_true h1), List.map_append]; rfl)⟩
          · rw [decide_eq_false (fun q => h1 (V.int.inj q))]
            exact kf _ _ (Pu.refl pu.sub) (by rw [filter_skip hd (decide_eq_false h1)])
        · rw [hl, take_all] at pd3
          have e3 := pd_eq (f := V.int) (by exact pd3)
          have w6 := w5.lc hD2 pu3 fD3 hl3
          have hfl3 : ((cs.filter fun c => decide (c.2 = 0)).map (·.1)).length ≤ cs.length := by rw [List.length_map]; exact List.length_filter_le _ _
          refine ⟨D2, _, rfl, SqL.of (by rw [hl3, e3]), by omega, fun b n hb hn => ?_⟩
          have w7 := w6.tmp (Same.new (o := SetO w b (fun j => decide (j ∈ (cs.filter fun c => decide (c.2 = 0)).map (·.1))) n) hb)
          refine ⟨b, _, n, rfl, upd_same, by omega, fun ns q _ hns hnl hq => ?_⟩
          have w8 := w7.new (o := .lst (ns.map V.int)) hq
          have hns2 : ∀ k : Int, k ∈ ns ↔ k ∈ (cs.filter fun c => decide (c.2 = 0)).map (·.1) := fun k => by
            rw [hns k, decide_eq_true_eq]
          -- self.singles
          refine ⟨_, rfl, q, rfl, ⟨_, SqL.of (w8.at 0)⟩, fun D3 hD3 => ?_⟩
          refine go_lc (F1 := F3) (walk_list (xs := ns.map V.int)) Rp.int (fun i => (ns.take i).filter fun n => !cov n cl) (by simp; omega) w8.sub hD3 (by simp) (fun F1 H1 pu => SqL.of (pu.same _ _ (w8.at 0))) (fun i y F1 H1 l H' N2 hi pu fD hl1 hy kt kf => ?_) (fun F4 H4 ys4 pu4 fD4 hl4 pd4 => ?_)
          · obtain ⟨e1, hy⟩ := hy
            subst e1
            rw [List.getElem?_map] at hy
            cases hp : ns[i]? with
            | none => rw [hp] at hy; cases hy
            | some m =>
              rw [hp] at hy
              cases hy
              obtain ⟨lc, ls, rfl, r2⟩ := rr
              refine ⟨rfl, _, rfl, _, rfl, x, CN, dx, _, _, rfl, pu.same _ _ (w8.at 2), N.cl, N.no _ (by decide), rfl, F1, .ref lc, m, cl, rfl, pu.sub, RCls.mono (pu3.ff.trans pu.ff) ⟨lc, ls, rfl, r2⟩, pcl, by omega, fun H5 s5 => ?_⟩
              refine ⟨_, rfl, ?_⟩
              have p5 : Pu F1 H' F1 H5 := ⟨s5, Grow.tmp pu.sub s5⟩
              cases hc : cov m cl with
              | true => exact kf _ _ p5 (filter_skip hp (by rw [hc]; rfl))
              | false => exact ⟨_, rfl, kt (.int m) _ F1 m p5 rfl (filter_snoc hp (by rw [hc]; rfl))⟩
          · rw [List.length_map, take_all] at pd4
            have e4 := pd_eq (f := V.int) (by exact pd4)
            subst e4
            have w9 := w8.lc hD3 pu4 fD4 hl4
            refine ⟨_, rfl, st_fld w9 N.cl (N.no _ (by decide)) 3 ["classes"] rfl rfl (by decide +kernel) (by decide) fun w10 => ?_⟩
            have w11 := w10.fix 0
            have w12 := w11.fix 2
            have hfl4 : (ns.filter fun n => !cov n cl).length ≤ ns.length := List.length_filter_le _ _
            obtain ⟨lc, ls, rfl, r2⟩ := rr
            refine k _ _ ⟨cl, ns.filter fun n => !cov n cl⟩ w12.pu ⟨x, dx, lc, D3, ?_⟩ ⟨fun n => mem_eq h0 (ccl n) hns2, fun c hc => ?_, fun n hn => ?_⟩
            · exact { ev := rfl, ob := upd_same, cl := RCls.mono (pu3.ff.trans (pu4.ff.trans ((w10.ext 0).trans (w11.ext 2)))) ⟨lc, ls, rfl, r2⟩, sg := (w11.ext 2) _ _ upd_same,
                      pos := pcl, len := lcl, lsg := by show (ns.filter _).length < 64; omega }
            · obtain ⟨p, hp, e⟩ := fcl c hc
              obtain ⟨h1, h2⟩ := List.mem_filter.mp hp
              exact ⟨p, h1, of_decide_eq_true h2, e⟩
            · have hn' : n ∈ ns := (List.mem_filter.mp hn).1
              obtain ⟨p, hp, e⟩ := List.mem_map.mp ((hns2 n).mp hn')
              obtain ⟨h1, h2⟩ := List.mem_filter.mp hp
              exact ⟨p, h1, of_decide_eq_true h2, e.symm⟩
end
end TR

/-! part A10 -/
namespace TR
open PySem PySem.Spec PyProof.Rows L2 G
theorem inV_ints (n : Int) : ∀ l : List Int, inV (.int n) (l.map V.int) = decide (n ∈ l)
  | [] => rfl
  | a :: r => by
    have h := inV_ints n r
    unfold inV at h ⊢
    rw [List.map_cons, List.any_cons, h]
    show ((a == n) || _) = _
    by_cases e : a = n
    · subst e; simp
    · simp [e, Ne.symm e]
section
variable {P : Program} {w : World} {K : PySem.W.Frag} {mg : Str → Option Value} {base : Heap} {CN : Addr}
abbrev s_Numbers_contains : Stmt := inClass (top 59) 6
abbrev N_Numbers_contains : List Str := ["self", "n"]
abbrev P_Numbers_contains : List Str := ["self", "n"]
theorem sc_Numbers_contains : FnScope N_Numbers_contains P_Numbers_contains (defScope s_Numbers_contains) := ⟨rfl, rfl, rfl, by decide +kernel, rfl, by decide +kernel, by decide +kernel⟩
theorem bn_Numbers_contains : BindsNo "__contains__" "Numbers.__contains__" s_Numbers_contains P_Numbers_contains := fun _ _ _ _ _ _ us hl => match us, hl with | [_, _], _ => rfl
def sp_Num_in (C : Addr) : Sp := fun vs H Q _ => ∃ (F : Hp) (v : V) (n : Int) (d : NumD), vs = [v, .int n] ∧ Same F H ∧ (RNum C).rel d v F ∧ ∀ H', Same H H' → Q (.bl (memD n d)) H'
theorem ok_Num_in (B : Bt mg) (N : KlF K mg "Numbers" CN ["classes", "singles"]) (c_is_whole : Cal P w K mg base 1 "is_whole" sp_is_whole) (c_is_covered : Cal P w K mg base 1 "is_covered" sp_is_covered)
    (F : MtF K CN "__contains__" "Numbers.__contains__" s_Numbers_contains []) : Met P w K mg base 2 CN "__contains__" (sp_Num_in CN) := by
  refine F.met N.cl sc_Numbers_contains bn_Numbers_contains (fun vs H Q E h => ?_) (fun f cdv A outer s H vs Q E hr h => ?_)
  · obtain ⟨_, _, _, _, rfl, _⟩ := h
    rfl
  · obtain ⟨F, v, n, d, rfl, sF, ⟨a, dx, lc, ls, h⟩, k⟩ := h
    refine ⟨_, (pss_one (ps_ret (pe_and (pe_c c_is_whole hr (by decide) (pa_cons (pv 1) pa_nil) passL) (pe_one (pe_or (pe_cmpR (op_inU (K := K)) (pv 1) (k_fld (pv 0) (K := K)) (by rfl)) (pe_one (pe_c c_is_covered hr (by decide) (pa_cons (pv 1) (pa_cons (k_fld (pv 0) (K := K)) pa_nil)) passL))))))), ?_⟩
    refine ⟨_, rfl, n, rfl, fun H1 s1 => ⟨_, rfl, ?_⟩⟩
    have sF1 := sF.trans s1
    refine iteT ⟨_, rfl, _, rfl, a, CN, dx, _, _, h.ev, sF1 _ _ h.ob, N.cl, N.no _ (by decide), rfl, .inr ⟨ls, _, rfl, .inl (SqL.of (sF1 _ _ h.sg)), rfl, ?_, _, rfl, ?_⟩⟩
    · rw [List.all_eq_true]
      intro x hx
      obtain ⟨i, _, rfl⟩ := List.mem_map.mp hx
      rfl
    · show if inV (.int n) (d.sg.map V.int) = true then _ else _
      rw [inV_ints]
      by_cases hm : n ∈ d.sg
      · rw [decide_eq_true hm]
        have q := k H1 s1
        rw [show memD n d = true by unfold memD; rw [decide_eq_true hm]; rfl] at q
        exact q
      · rw [decide_eq_false hm]
        refine ⟨_, rfl, _, rfl, a, CN, dx, _, _, h.ev, sF1 _ _ h.ob, N.cl, N.no _ (by decide), rfl, F, .ref lc, n, d.cs, rfl, sF1, h.cl, h.pos, by have := h.len; omega, fun H2 s2 => ?_⟩
        have q := k H2 (s1.trans s2)
        rw [show memD n d = cov n d.cs by unfold memD; rw [decide_eq_false hm]; rfl] at q
        exact q
end
end TR

/-! part Ru -/
namespace G
open PySem PySem.Spec PyProof.Rows L2
section
variable {X : Cx} {K : PySem.W.Frag}
theorem k_min (hc : X.calm = true := by rfl) (hK : X.K = K := by rfl) : CallR X (.builtin "min") (rMin K) := by subst hK; exact cr_min hc
theorem k_max (hc : X.calm = true := by rfl) (hK : X.K = K := by rfl) : CallR X (.builtin "max") (rMax K) := by subst hK; exact cr_max hc
theorem k_catA (hK : X.K = K := by rfl) : OpR X (binaryOp .Add) (rCatA K) := by subst hK; exact op_catA
end
theorem sIx_m1 (n d : Nat) : HT.sIx n d (some (-1)) = n - 1 := by
  show (if (-1 : Int) < 0 then ((-1 : Int) + (n : Int)).toNat else min (-1 : Int).toNat n) = n - 1
  rw [if_pos (by decide)]
  omega
theorem cut_pop {xs : List V} : cutV xs none (some (-1)) = xs.dropLast := by
  unfold cutV
  rw [sIx_m1, HT.sIx_none, List.drop_zero, Nat.sub_zero, List.dropLast_eq_take]
theorem whole_pop {xs : List V} (h : xs ≠ []) : ¬ (HT.sIx xs.length 0 none = 0 ∧ HT.sIx xs.length xs.length (some (-1)) = xs.length) := by
  rw [sIx_m1]
  have := List.length_pos_iff.mpr h
  intro z
  omega
end G
namespace G
open PySem PySem.Spec PyProof.Rows L2
section
variable {X : Cx} {K : PySem.W.Frag} {e : Expr} {es : List Expr} {te : TE} {t : TA} {p : Pos}
theorem k_star (he : PE X e te) (hr : PA X es t) (hs : starEach (.Starred e p :: es) X.env = (true, eval e X.env) :: starEach es X.env := by rfl) (hK : X.K = K := by rfl) : PA X (.Starred e p :: es) (StX.tStar K te t) := by subst hK; exact StX.pa_star he hr hs
end
end G

/-! part MinD -/
/-! min(xs, default=None), max(xs, default=None) of a list of ints. -/
namespace G
open PySem PySem.Spec PyProof.Rows L2
section
variable {prog : Program} {w : World} {A : Around} {R : Result → Shared → Prop} {I : Addr} {fp wr : List Addr} {n : Nat} {P : Nat → Value → Prop} {St : Nat → Heap → Prop}
theorem argsD_min (a v : Value) : argsOk "min" ⟨[a], [(Str.ofString "default", v)]⟩ := by
  unfold argsOk
  kernel_rfl
/-- the loop of min(.., default = d), from the turn j on -/
theorem go_min (W : Walks prog w A.in1 I fp wr n P St) (bt : Nat → Nat → Bool) (hcmp : CmpOf prog w A.in1 .Lt P bt) (S : Addr) (nS : S ∉ fp) (d : Value) :
    ∀ (r j : Nat) (s : Shared) (its : Array Value) (c : Nat), n = j + r → St j s.heap → s.heap.get? S = some { cls := .type "list", dict := none, data := .seq its c, slots := #[] } →
      ((j = 0 ∧ its = #[]) ∨ ∃ i vb, j = i + 1 ∧ its = #[vb, vb] ∧ P (argBest bt i) vb) →
      (∀ v h' tk, ((n = 0 ∧ v = d) ∨ (0 < n ∧ P (argBest bt (n - 1)) v)) → (∀ b o, b ∉ wr → b ≠ S → s.heap.get? b = some o → h'.get? b = some o) → R (.ok (.ret v)) { s with heap := h', toks := tk }) →
      codeAny (model prog w) A (.builtin "min.loop" ⟨[.ref I, .none, .ref S], [(Str.ofString "default", d)]⟩) R s := by
  have nw : S ∉ wr := fun h => nS (W.sub _ h)
  have enm : (toString "min" ++ toString ".loop" : String) = "min.loop" := by decide
  intro r
  induction r with
  | zero =>
    intro j s its c hj st hS hk q
    have ej : n = j := by omega
    refine codeAny_builtin PySem.F.entry_min_loop ?_
    rw [Around.under_plainId PySem.F.plain_min_loop _]
    show wpAny _ _ (seqItems? (.ref S) >>= _) _ _ _
    refine wpAny_bind (wpAny_seqItems hS rfl ?_)
    show wpAny _ _ (tryCatch (pyNext (.ref I)) _ >>= _) _ _ _
    refine wpAny_bind (wpAny_tryCatch (W.done s _ _ (ej ▸ st) fun h1 tk k1 => ?_))
    have S1 := k1 S _ nw hS
    rcases hk with ⟨h0, hi⟩ | ⟨i, vb, h0, hi, hp⟩
    · subst hi
      first
        | exact wpAny_bind (wpAny_rule (wpAny_pure (q d h1 tk (.inl ⟨by omega, rfl⟩) fun b o hb _ e => k1 b o hb e)))
        | (repeat (first | exact q d h1 tk (.inl ⟨by omega, rfl⟩) (fun b o hb _ e => k1 b o hb e) | wp_step))
    · subst hi
      show wpAny _ _ (updateSeq S (fun _ => #[]) >>= _) _ _ _
      refine wpAny_bind ?_
      refine wpAny_updateSeq S1 rfl (wpAny_bind (wpAny_letGo (wpAny_pure ?_)))
      refine q vb _ tk (.inr ⟨by omega, ?_⟩) fun b o hb hs e => ?_
      · rw [show n - 1 = i by omega]; exact hp
      · exact (Heap.get?_update_other _ _ (Ne.symm hs)).trans (k1 b o hb e)
  | succ r ih =>
    intro j s its c hj st hS hk q
    have hlt : j < n := by omega
    refine codeAny_builtin PySem.F.entry_min_loop ?_
    rw [Around.under_plainId PySem.F.plain_min_loop _]
    show wpAny _ _ (seqItems? (.ref S) >>= _) _ _ _
    refine wpAny_bind (wpAny_seqItems hS rfl ?_)
    show wpAny _ _ (tryCatch (pyNext (.ref I)) _ >>= _) _ _ _
    refine wpAny_bind (wpAny_tryCatch (W.item j s _ _ hlt st fun v h1 tk hv st1 k1 => ?_))
    have S1 := k1 S _ nw hS
    have hz : its.size ≤ sizeLine := by
      rcases hk with ⟨_, e⟩ | ⟨_, _, _, e, _⟩
      · rw [e]; exact Nat.zero_le _
      · rw [e]; show 2 ≤ sizeLine; rw [sizeLine_eq]; decide
    -- the turn that follows, the best being x
    have next : ∀ (x : Value), P (argBest bt j) x → wpAny (model prog w) A.in1 (updateSeq S fun _ => #[x, x]) (fun _ s' => codeAny (model prog w) A (.builtin "min.loop" ⟨[.ref I, .none, .ref S], [(Str.ofString "default", d)]⟩) R s') (fun _ _ => False) { s with heap := h1, toks := tk } := fun x hx => by
      refine wpAny_updateSeq (hz := hz) S1 rfl ?_
      refine ih (j + 1) _ #[x, x] _ (by omega) (W.frame _ _ _ st1 fun b hb o e => ?_) (Heap.get?_update_self _ S1 rfl) (.inr ⟨j, x, rfl, rfl, hx⟩) fun y h2 tk2 hy k2 => ?_
      · exact (Heap.get?_update_other _ _ (fun h : S = b => nS (by rw [h]; exact hb))).trans e
      · exact q y h2 tk2 hy fun b o hb hs e => k2 b o hb hs ((Heap.get?_update_other _ _ (Ne.symm hs)).trans (k1 b o hb e))
    rcases hk with ⟨h0, hi⟩ | ⟨i, vb, h0, hi, hp⟩
    · subst hi
      show wpAny _ _ (updateSeq S (fun _ => #[v, v]) >>= _) _ _ _
      refine wpAny_bind (wpAny_mono (next v (by rw [h0] at hv ⊢; exact hv)) (fun _ s' z => ?_) fun _ _ e => e.elim)
      rw [enm]
      exact wpAny_pure ⟨plainId_quiet PySem.F.plain_min_loop _, z⟩
    · subst hi
      show wpAny _ _ (tryCatch (holding [v, v] (richCompare .Lt v vb >>= _)) _ >>= _) _ _ _
      refine wpAny_bind (wpAny_tryCatch (wpAny_holding (wpAny_bind (hcmp j (argBest bt i) v vb _ _ _ hv hp ?_))))
      refine wpAny_bind (wpAny_holding (wpAny_truthy_bool ?_))
      refine wpAny_bind (wpAny_letGo (wpAny_pure ?_))
      subst h0
      cases hb : bt (i + 1) (argBest bt i) with
      | true =>
        simp only [if_true]
        have hx : P (argBest bt (i + 1)) v := by simp only [argBest, hb, if_true]; exact hv
        refine wpAny_bind (wpAny_mono (next v hx) (fun _ s' z => ?_) fun _ _ e => e.elim)
        refine wpAny_bind (wpAny_letGo ?_)
        rw [enm]
        exact wpAny_pure ⟨plainId_quiet PySem.F.plain_min_loop _, z⟩
      | false =>
        simp only [Bool.false_eq_true, if_false]
        have hx : P (argBest bt (i + 1)) vb := by simp only [argBest, hb, Bool.false_eq_true, if_false]; exact hp
        refine wpAny_bind (wpAny_letGo ?_)
        rw [enm]
        refine wpAny_pure ⟨plainId_quiet PySem.F.plain_min_loop _, ih (i + 1 + 1) _ #[vb, vb] c (by omega) st1 S1 (.inr ⟨i + 1, vb, rfl, rfl, hx⟩) fun y h2 tk2 hy k2 => ?_⟩
        exact q y h2 tk2 hy fun b o hb hs e => k2 b o hb hs (k1 b o hb e)
end
section
variable {prog : Program} {w : World} {A : Around} {R : Result → Shared → Prop} {I : Addr} {fp wr : List Addr} {n : Nat} {P : Nat → Value → Prop} {St : Nat → Heap → Prop}
theorem argsD_max (a v : Value) : argsOk "max" ⟨[a], [(Str.ofString "default", v)]⟩ := by
  unfold argsOk
  kernel_rfl
/-- the loop of max(.., default = d), from the turn j on -/
theorem go_max (W : Walks prog w A.in1 I fp wr n P St) (bt : Nat → Nat → Bool) (hcmp : CmpOf prog w A.in1 .Gt P bt) (S : Addr) (nS : S ∉ fp) (d : Value) :
    ∀ (r j : Nat) (s : Shared) (its : Array Value) (c : Nat), n = j + r → St j s.heap → s.heap.get? S = some { cls := .type "list", dict := none, data := .seq its c, slots := #[] } →
      ((j = 0 ∧ its = #[]) ∨ ∃ i vb, j = i + 1 ∧ its = #[vb, vb] ∧ P (argBest bt i) vb) →
      (∀ v h' tk, ((n = 0 ∧ v = d) ∨ (0 < n ∧ P (argBest bt (n - 1)) v)) → (∀ b o, b ∉ wr → b ≠ S → s.heap.get? b = some o → h'.get? b = some o) → R (.ok (.ret v)) { s with heap := h', toks := tk }) →
      codeAny (model prog w) A (.builtin "max.loop" ⟨[.ref I, .none, .ref S], [(Str.ofString "default", d)]⟩) R s := by
  have nw : S ∉ wr := fun h => nS (W.sub _ h)
  have enm : (toString "max" ++ toString ".loop" : String) = "max.loop" := by decide
  intro r
  induction r with
  | zero =>
    intro j s its c hj st hS hk q
    have ej : n = j := by omega
    refine codeAny_builtin PySem.F.entry_max_loop ?_
    rw [Around.under_plainId PySem.F.plain_max_loop _]
    show wpAny _ _ (seqItems? (.ref S) >>= _) _ _ _
    refine wpAny_bind (wpAny_seqItems hS rfl ?_)
    show wpAny _ _ (tryCatch (pyNext (.ref I)) _ >>= _) _ _ _
    refine wpAny_bind (wpAny_tryCatch (W.done s _ _ (ej ▸ st) fun h1 tk k1 => ?_))
    have S1 := k1 S _ nw hS
    rcases hk with ⟨h0, hi⟩ | ⟨i, vb, h0, hi, hp⟩
    · subst hi
      first
        | exact wpAny_bind (wpAny_rule (wpAny_pure (q d h1 tk (.inl ⟨by omega, rfl⟩) fun b o hb _ e => k1 b o hb e)))
        | (repeat (first | exact q d h1 tk (.inl ⟨by omega, rfl⟩) (fun b o hb _ e => k1 b o hb e) | wp_step))
    · subst hi
      show wpAny _ _ (updateSeq S (fun _ => #[]) >>= _) _ _ _
      refine wpAny_bind ?_
      refine wpAny_updateSeq S1 rfl (wpAny_bind (wpAny_letGo (wpAny_pure ?_)))
      refine q vb _ tk (.inr ⟨by omega, ?_⟩) fun b o hb hs e => ?_
      · rw [show n - 1 = i by omega]; exact hp
      · exact (Heap.get?_update_other _ _ (Ne.symm hs)).trans (k1 b o hb e)
  | succ r ih =>
    intro j s its c hj st hS hk q
    have hlt : j < n := by omega
    refine codeAny_builtin PySem.F.entry_max_loop ?_
    rw [Around.under_plainId PySem.F.plain_max_loop _]
    show wpAny _ _ (seqItems? (.ref S) >>= _) _ _ _
    refine wpAny_bind (wpAny_seqItems hS rfl ?_)
    show wpAny _ _ (tryCatch (pyNext (.ref I)) _ >>= _) _ _ _
    refine wpAny_bind (wpAny_tryCatch (W.item j s _ _ hlt st fun v h1 tk hv st1 k1 => ?_))
    have S1 := k1 S _ nw hS
    have hz : its.size ≤ sizeLine := by
      rcases hk with ⟨_, e⟩ | ⟨_, _, _, e, _⟩
      · rw [e]; exact Nat.zero_le _
      · rw [e]; show 2 ≤ sizeLine; rw [sizeLine_eq]; decide
    -- the turn that follows, the best being x
    have next : ∀ (x : Value), P (argBest bt j) x → wpAny (model prog w) A.in1 (updateSeq S fun _ => #[x, x]) (fun _ s' => codeAny (model prog w) A (.builtin "max.loop" ⟨[.ref I, .none, .ref S], [(Str.ofString "default", d)]⟩) R s') (fun _ _ => False) { s with heap := h1, toks := tk } := fun x hx => by
      refine wpAny_updateSeq (hz := hz) S1 rfl ?_
      refine ih (j + 1) _ #[x, x] _ (by omega) (W.frame _ _ _ st1 fun b hb o e => ?_) (Heap.get?_update_self _ S1 rfl) (.inr ⟨j, x, rfl, rfl, hx⟩) fun y h2 tk2 hy k2 => ?_
      · exact (Heap.get?_update_other _ _ (fun h : S = b => nS (by rw [h]; exact hb))).trans e
      · exact q y h2 tk2 hy fun b o hb hs e => k2 b o hb hs ((Heap.get?_update_other _ _ (Ne.symm hs)).trans (k1 b o hb e))
    rcases hk with ⟨h0, hi⟩ | ⟨i, vb, h0, hi, hp⟩
    · subst hi
      show wpAny _ _ (updateSeq S (fun _ => #[v, v]) >>= _) _ _ _
      refine wpAny_bind (wpAny_mono (next v (by rw [h0] at hv ⊢; exact hv)) (fun _ s' z => ?_) fun _ _ e => e.elim)
      rw [enm]
      exact wpAny_pure ⟨plainId_quiet PySem.F.plain_max_loop _, z⟩
    · subst hi
      show wpAny _ _ (tryCatch (holding [v, v] (richCompare .Gt v vb >>= _)) _ >>= _) _ _ _
      refine wpAny_bind (wpAny_tryCatch (wpAny_holding (wpAny_bind (hcmp j (argBest bt i) v vb _ _ _ hv hp ?_))))
      refine wpAny_bind (wpAny_holding (wpAny_truthy_bool ?_))
      refine wpAny_bind (wpAny_letGo (wpAny_pure ?_))
      subst h0
      cases hb : bt (i + 1) (argBest bt i) with
      | true =>
        simp only [if_true]
        have hx : P (argBest bt (i + 1)) v := by simp only [argBest, hb, if_true]; exact hv
        refine wpAny_bind (wpAny_mono (next v hx) (fun _ s' z => ?_) fun _ _ e => e.elim)
        refine wpAny_bind (wpAny_letGo ?_)
        rw [enm]
        exact wpAny_pure ⟨plainId_quiet PySem.F.plain_max_loop _, z⟩
      | false =>
        simp only [Bool.false_eq_true, if_false]
        have hx : P (argBest bt (i + 1)) vb := by simp only [argBest, hb, Bool.false_eq_true, if_false]; exact hp
        refine wpAny_bind (wpAny_letGo ?_)
        rw [enm]
        refine wpAny_pure ⟨plainId_quiet PySem.F.plain_max_loop _, ih (i + 1 + 1) _ #[vb, vb] c (by omega) st1 S1 (.inr ⟨i + 1, vb, rfl, rfl, hx⟩) fun y h2 tk2 hy k2 => ?_⟩
        exact q y h2 tk2 hy fun b o hb hs e => k2 b o hb hs (k1 b o hb e)
end
section
variable {prog : Program} {w : World} {A : Around} {E : Value → Shared → Prop} {s : Shared}
theorem raw_min {l : Addr} {its : List Value} {ns : List Int} {d : Value} {Q : Value → Shared → Prop} (hh : A.handled = none) (hl : s.heap.IsList l its.toArray) (hi : IntsAre its ns) (h0 : ns = [] → ∀ h' tk, (∀ b o, s.heap.get? b = some o → h'.get? b = some o) → Q d { s with heap := h', toks := tk })
    (h1 : ∀ h' tk m t, (∀ b o, s.heap.get? b = some o → h'.get? b = some o) → m ∈ ns → (∀ a, a ∈ ns → m ≤ a) → Q (.int m t) { s with heap := h', toks := tk }) :
    wpAny (model prog w) A (call (.builtin "min") [.ref l] [(Str.ofString "default", d)]) Q E s := by
  obtain ⟨xs, e⟩ := hi.allInts.items
  have hn : numsOf (intItems xs).toList = ns := by rw [← e]; exact hi.numsOf
  rw [nums_intItems] at hn
  subst hn
  rw [e] at hl
  have enm : (toString "min" ++ toString ".loop" : String) = "min.loop" := by decide
  have esz : (intItems xs).size = xs.size := by simp [intItems]
  refine kmk_tree PySem.F.kind_min PySem.F.plain_min PySem.F.entry_min (argsD_min _ _) ?_
  show wpAny _ _ (Builtin.Builtins.bindParams "min" ["key", "default"] 0 ⟨[], [(Str.ofString "default", d)]⟩ >>= _) _ _ _
  refine wpAny_bind (wpAny_of_eq (show Builtin.Builtins.bindParams "min" ["key", "default"] 0 ⟨[], [(Str.ofString "default", d)]⟩ = pure [none, some d] from rfl) ?_)
  refine wpAny_bind (wpAny_pure ?_)
  refine wpAny_bind (iter_intList hl fun s2 es st hfp hlI => ?_)
  subst es
  refine wpAny_bind (wpAny_newObj_type ?_)
  rw [enm]
  have W := Walks.list (prog := prog) (w := w) (A := A.in1) hh s.heap.objs.size l hlI (intItems xs)
  refine wpAny_pure ⟨plainId_quiet PySem.F.plain_min_loop _, go_min W (fun i j => decide (numAt xs i < numAt xs j)) (CmpOf.ints_lt (numAt xs) (fun _ _ => intItems_at)) _ (fun hm => Nat.lt_irrefl _ (hfp _ hm)) d (intItems xs).size 0 _ #[] _ (by omega)
    (W.frame 0 _ _ st fun b _ o e => Heap.get?_push_of_some _ e) (Heap.get?_push_size _ rfl) (.inl ⟨rfl, rfl⟩) fun v h' tk hv k => ?_⟩
  have k' : ∀ b o, s.heap.get? b = some o → h'.get? b = some o := old_kept fun b o hb eb => k b o hb (Nat.ne_of_lt (Heap.lt_size eb)) (Heap.get?_push_of_some _ eb)
  rcases hv with ⟨hz, rfl⟩ | ⟨hz, hv⟩
  · rw [esz] at hz
    exact h0 (by rw [Array.size_eq_zero_iff.mp hz]; rfl) h' tk k'
  · rw [esz] at hv hz
    obtain ⟨t, rfl⟩ := intItems_at hv
    obtain ⟨b1, b2⟩ := argBest_lt (numAt xs) (xs.size - 1)
    refine h1 h' tk _ t k' ?_ fun a ha => ?_
    · rw [numAt_eq]
      exact PySem.getD_mem (by rw [List.length_map, Array.length_toList]; omega)
    · obtain ⟨j, hj, rfl⟩ := mem_getD ha
      rw [List.length_map, Array.length_toList] at hj
      rw [← numAt_eq]
      exact b2 j (by omega)
end
section
variable {X : Cx}
/-- min(xs, default=None) -/
def rD_min (K : PySem.W.Frag) : List V → List V → Hp → VK → Prop := fun vs zs H Q => ∃ (a : Addr) (ns : List Int), vs = [V.ref a] ∧ zs = [.non] ∧ SqL K H a (ns.map V.int) ∧ (ns = [] → Q .non H) ∧ ∀ m, m ∈ ns → (∀ y, y ∈ ns → m ≤ y) → Q (.int m) H
theorem kD_min {K : PySem.W.Frag} (hc : X.calm = true := by rfl) (hK : X.K = K := by rfl) : CallRK X (.builtin "min") [Str.ofString "default"] (rD_min K) := by
  subst hK
  intro pins s σ H xs zs us ws Q I r r2 h
  obtain ⟨a, ns, rfl, rfl, hs, q0, q⟩ := h
  obtain ⟨its, rv, hl, _⟩ := I.list hs
  rw [Vals.ref1 r]
  cases r2 with
  | cons z zt =>
    cases zt
    rename_i u
    have hu : u = .none := by cases u <;> first | rfl | cases z
    subst hu
    exact raw_min (I.ok.hd hc) hl.isList rv.ints (fun e h' tk hk => ⟨.non, H, I.kept hk, rfl, q0 e⟩) fun h' tk m t' hk h1 h2 => ⟨.int _, H, I.kept hk, ⟨_, rfl⟩, q m h1 h2⟩
end
section
variable {prog : Program} {w : World} {A : Around} {E : Value → Shared → Prop} {s : Shared}
theorem raw_max {l : Addr} {its : List Value} {ns : List Int} {d : Value} {Q : Value → Shared → Prop} (hh : A.handled = none) (hl : s.heap.IsList l its.toArray) (hi : IntsAre its ns) (h0 : ns = [] → ∀ h' tk, (∀ b o, s.heap.get? b = some o → h'.get? b = some o) → Q d { s with heap := h', toks := tk })
    (h1 : ∀ h' tk m t, (∀ b o, s.heap.get? b = some o → h'.get? b = some o) → m ∈ ns → (∀ a, a ∈ ns → a ≤ m) → Q (.int m t) { s with heap := h', toks := tk }) :
    wpAny (model prog w) A (call (.builtin "max") [.ref l] [(Str.ofString "default", d)]) Q E s := by
  obtain ⟨xs, e⟩ := hi.allInts.items
  have hn : numsOf (intItems xs).toList = ns := by rw [← e]; exact hi.numsOf
  rw [nums_intItems] at hn
  subst hn
  rw [e] at hl
  have enm : (toString "max" ++ toString ".loop" : String) = "max.loop" := by decide
  have esz : (intItems xs).size = xs.size := by simp [intItems]
  refine kmk_tree PySem.F.kind_max PySem.F.plain_max PySem.F.entry_max (argsD_max _ _) ?_
  show wpAny _ _ (Builtin.Builtins.bindParams "max" ["key", "default"] 0 ⟨[], [(Str.ofString "default", d)]⟩ >>= _) _ _ _
  refine wpAny_bind (wpAny_of_eq (show Builtin.Builtins.bindParams "max" ["key", "default"] 0 ⟨[], [(Str.ofString "default", d)]⟩ = pure [none, some d] from rfl) ?_)
  refine wpAny_bind (wpAny_pure ?_)
  refine wpAny_bind (iter_intList hl fun s2 es st hfp hlI => ?_)
  subst es
  refine wpAny_bind (wpAny_newObj_type ?_)
  rw [enm]
  have W := Walks.list (prog := prog) (w := w) (A := A.in1) hh s.heap.objs.size l hlI (intItems xs)
  refine wpAny_pure ⟨plainId_quiet PySem.F.plain_max_loop _, go_max W (fun i j => decide (numAt xs i > numAt xs j)) (CmpOf.ints_gt (numAt xs) (fun _ _ => intItems_at)) _ (fun hm => Nat.lt_irrefl _ (hfp _ hm)) d (intItems xs).size 0 _ #[] _ (by omega)
    (W.frame 0 _ _ st fun b _ o e => Heap.get?_push_of_some _ e) (Heap.get?_push_size _ rfl) (.inl ⟨rfl, rfl⟩) fun v h' tk hv k => ?_⟩
  have k' : ∀ b o, s.heap.get? b = some o → h'.get? b = some o := old_kept fun b o hb eb => k b o hb (Nat.ne_of_lt (Heap.lt_size eb)) (Heap.get?_push_of_some _ eb)
  rcases hv with ⟨hz, rfl⟩ | ⟨hz, hv⟩
  · rw [esz] at hz
    exact h0 (by rw [Array.size_eq_zero_iff.mp hz]; rfl) h' tk k'
  · rw [esz] at hv hz
    obtain ⟨t, rfl⟩ := intItems_at hv
    obtain ⟨b1, b2⟩ := argBest_gt (numAt xs) (xs.size - 1)
    refine h1 h' tk _ t k' ?_ fun a ha => ?_
    · rw [numAt_eq]
      exact PySem.getD_mem (by rw [List.length_map, Array.length_toList]; omega)
    · obtain ⟨j, hj, rfl⟩ := mem_getD ha
      rw [List.length_map, Array.length_toList] at hj
      rw [← numAt_eq]
      exact b2 j (by omega)
end
section
variable {X : Cx}
/-- max(xs, default=None) -/
def rD_max (K : PySem.W.Frag) : List V → List V → Hp → VK → Prop := fun vs zs H Q => ∃ (a : Addr) (ns : List Int), vs = [V.ref a] ∧ zs = [.non] ∧ SqL K H a (ns.map V.int) ∧ (ns = [] → Q .non H) ∧ ∀ m, m ∈ ns → (∀ y, y ∈ ns → y ≤ m) → Q (.int m) H
theorem kD_max {K : PySem.W.Frag} (hc : X.calm = true := by rfl) (hK : X.K = K := by rfl) : CallRK X (.builtin "max") [Str.ofString "default"] (rD_max K) := by
  subst hK
  intro pins s σ H xs zs us ws Q I r r2 h
  obtain ⟨a, ns, rfl, rfl, hs, q0, q⟩ := h
  obtain ⟨its, rv, hl, _⟩ := I.list hs
  rw [Vals.ref1 r]
  cases r2 with
  | cons z zt =>
    cases zt
    rename_i u
    have hu : u = .none := by cases u <;> first | rfl | cases z
    subst hu
    exact raw_max (I.ok.hd hc) hl.isList rv.ints (fun e h' tk hk => ⟨.non, H, I.kept hk, rfl, q0 e⟩) fun h' tk m t' hk h1 h2 => ⟨.int _, H, I.kept hk, ⟨_, rfl⟩, q m h1 h2⟩
end
end G

/-! part St -/
namespace G
open PySem PySem.Spec PyProof.Rows L2
/-- a statement walked with what follows it out of sight, at a state written out -/
theorem stp {ta tb : TS} {D : Ends} {σ : L2.St} {H : Hp} (σ' : L2.St) (e : σ = σ') (g : ∀ N : L2.St → Hp → Prop, (∀ σ H, tb D σ H → N σ H) → ta { D with nx := N } σ' H) : tSeq ta tb D σ H := by
  subst e
  exact g (tb D) fun _ _ h => h
theorem stq {ta : TS} {D : Ends} {σ : L2.St} {H : Hp} (σ' : L2.St) (e : σ = σ') (g : ta D σ' H) : ta D σ H := by
  subst e
  exact g
/-- a local thing at l, that stood still for a while, does so no longer -/
theorem Pu.but {F H F' H' : Hp} {l : Addr} {o : HO} (f : F l = Option.none) (q : Pu (upd F l o) H F' H') : Pu F H (del F' l) H' := by
  refine ⟨q.same, ⟨fun a u e => ?_, del_sub.trans q.sub, fun a u e => ?_⟩⟩
  · have n := ne_of_none e f
    rw [del_ne n]
    exact q.ff a u (by rw [upd_ne n]; exact e)
  · have n := del_at e
    rw [del_ne n] at e
    rcases q.grow.fresh a u e with h | h
    · rw [upd_ne n] at h
      exact .inl h
    · exact .inr h
theorem pd_and {α β : Type} {r : α → β → Prop} {p : α → Prop} : ∀ {xs : List α} {ys : List β}, Paired r xs ys → (∀ x ∈ xs, p x) → Paired (fun a b => r a b ∧ p a) xs ys
  | _, _, .nil, _ => .nil
  | _, _, .cons h t, f => .cons ⟨h, f _ List.mem_cons_self⟩ (pd_and t fun x hx => f x (List.mem_cons_of_mem _ hx))
theorem pd_drop {α β : Type} {r : α → β → Prop} : ∀ {xs : List α} {ys : List β} (n : Nat), Paired r xs ys → Paired r (xs.drop n) (ys.drop n)
  | _, _, 0, h => h
  | _, _, n + 1, .nil => .nil
  | _, _, n + 1, .cons h t => pd_drop n t
end G

/-! part M13 -/
/-! Sets of integers: members near a number, samples. -/
namespace TR
open PySem PySem.Spec PyProof.Rows L2 G
def ofI : Option Int → V
  | none => .non
  | some k => .int k
abbrev bigN : Nat := 2 ^ 8000
structure NumB (d : NumD) : Prop where
  cs : ∀ c ∈ d.cs, c.1.natAbs < bigN ∧ c.2.natAbs < bigN
  sg : ∀ k ∈ d.sg, k.natAbs < bigN
def FirstFrom (d : NumD) (n : Int) : Option Int → Prop
  | some k => memD k d = true ∧ n ≤ k ∧ ∀ j, memD j d = true → n ≤ j → k ≤ j
  | none => ∀ j, memD j d = true → ¬ n ≤ j
def LastUntil (d : NumD) (n : Int) : Option Int → Prop
  | some k => memD k d = true ∧ k ≤ n ∧ ∀ j, memD j d = true → j ≤ n → j ≤ k
  | none => ∀ j, memD j d = true → ¬ j ≤ n
def Nearest (d : NumD) (n : Int) : Option Int → Prop
  | some k => memD k d = true ∧ ∀ j, memD j d = true → (k - n).natAbs ≤ (j - n).natAbs
  | none => ∀ j, memD j d = false
def upI (n : Int) (c : Int × Int) : Int := c.1 + c.2 * ((n - c.1 + c.2 - 1) / c.2)
def downI (n : Int) (c : Int × Int) : Int := c.1 + c.2 * ((n - c.1) / c.2)
theorem mem_cases {k : Int} {d : NumD} : memD k d = true ↔ k ∈ d.sg ∨ ∃ c ∈ d.cs, (k - c.1) % c.2 = 0 := by
  unfold memD cov
  rw [Bool.or_eq_true, decide_eq_true_eq, List.any_eq_true]
  constructor
  · rintro (h | ⟨c, hc, h⟩)
    · exact .inl h
    · exact .inr ⟨c, hc, of_decide_eq_true h⟩
  · rintro (h | ⟨c, hc, h⟩)
    · exact .inl h
    · exact .inr ⟨c, hc, decide_eq_true h⟩
theorem up_ok {n : Int} {c : Int × Int} (hc : 0 < c.2) : n ≤ upI n c ∧ (upI n c - c.1) % c.2 = 0 ∧ ∀ j, (j - c.1) % c.2 = 0 → n ≤ j → upI n c ≤ j := by
  unfold upI
  have h1 := Int.mul_ediv_add_emod (n - c.1 + c.2 - 1) c.2
  have h2 := Int.emod_nonneg (n - c.1 + c.2 - 1) (by omega : c.2 ≠ 0)
  have h3 := Int.emod_lt_of_pos (n - c.1 + c.2 - 1) hc
  refine ⟨by omega, ?_, fun j hj hn => ?_⟩
  · rw [show c.1 + c.2 * ((n - c.1 + c.2 - 1) / c.2) - c.1 = c.2 * ((n - c.1 + c.2 - 1) / c.2) by omega, Int.mul_emod_right]
  · obtain ⟨t, ht⟩ := Int.dvd_of_emod_eq_zero hj
    have hq : (n - c.1 + c.2 - 1) / c.2 ≤ t := by
      apply Int.le_of_lt_add_one
      apply Int.ediv_lt_of_lt_mul hc
      have : (t + 1) * c.2 = c.2 * t + c.2 := by rw [Int.add_mul, Int.one_mul, Int.mul_comm]
      omega
    have := Int.mul_le_mul_of_nonneg_left hq (Int.le_of_lt hc)
    omega
theorem down_ok {n : Int} {c : Int × Int} (hc : 0 < c.2) : downI n c ≤ n ∧ (downI n c - c.1) % c.2 = 0 ∧ ∀ j, (j - c.1) % c.2 = 0 → j ≤ n → j ≤ downI n c := by
  unfold downI
  have h1 := Int.mul_ediv_add_emod (n - c.1) c.2
  have h2 := Int.emod_nonneg (n - c.1) (by omega : c.2 ≠ 0)
  have h3 := Int.emod_lt_of_pos (n - c.1) hc
  refine ⟨by omega, ?_, fun j hj hn => ?_⟩
  · rw [show c.1 + c.2 * ((n - c.1) / c.2) - c.1 = c.2 * ((n - c.1) / c.2) by omega, Int.mul_emod_right]
  · obtain ⟨t, ht⟩ := Int.dvd_of_emod_eq_zero hj
    have hq : t ≤ (n - c.1) / c.2 := by
      apply Int.le_ediv_of_mul_le hc
      rw [Int.mul_comm]
      omega
    have := Int.mul_le_mul_of_nonneg_left hq (Int.le_of_lt hc)
    omega
theorem Int.natAbs_ediv_le_natAbs' (a : Int) {b : Int} (hb : 0 < b) : (a / b).natAbs ≤ a.natAbs + 1 := by
  have h := Int.natAbs_ediv_le_natAbs a b
  omega
theorem first_list {d : NumD} {n : Int} (pos : Pos d.cs) : (∀ m, m ∈ (d.cs.map (upI n) ++ d.sg.filter fun k => decide (n ≤ k)) → (∀ y, y ∈ (d.cs.map (upI n) ++ d.sg.filter fun k => decide (n ≤ k)) → m ≤ y) → FirstFrom d n (some m)) ∧
    ((d.cs.map (upI n) ++ d.sg.filter fun k => decide (n ≤ k)) = [] → FirstFrom d n none) := by
  have low : ∀ j, memD j d = true → n ≤ j → ∃ y ∈ (d.cs.map (upI n) ++ d.sg.filter fun k => decide (n ≤ k)), y ≤ j := fun j hj hn => by
    rcases mem_cases.mp hj with h | ⟨c, hc, h⟩
    · exact ⟨j, List.mem_append.mpr (.inr (List.mem_filter.mpr ⟨h, decide_eq_true hn⟩)), Int.le_refl _⟩
    · exact ⟨upI n c, List.mem_append.mpr (.inl (List.mem_map_of_mem hc)), (up_ok (pos c hc)).2.2 j h hn⟩
  refine ⟨fun m hm hall => ⟨?_, ?_, fun j hj hn => ?_⟩, fun e j hj hn => ?_⟩
  · rcases List.mem_append.mp hm with h | h
    · obtain ⟨c, hc, rfl⟩ := List.mem_map.mp h
      exact mem_cases.mpr (.inr ⟨c, hc, (up_ok (pos c hc)).2.1⟩)
    · exact mem_cases.mpr (.inl (List.mem_filter.mp h).1)
  · rcases List.mem_append.mp hm with h | h
    · obtain ⟨c, hc, rfl⟩ := List.mem_map.mp h
      exact (up_ok (pos c hc)).1
    · exact of_decide_eq_true (List.mem_filter.mp h).2
  · obtain ⟨y, hy, hyj⟩ := low j hj hn
    exact Int.le_trans (hall y hy) hyj
  · obtain ⟨y, hy, _⟩ := low j hj hn
    rw [e] at hy
    cases hy
theorem last_list {d : NumD} {n : Int} (pos : Pos d.cs) : (∀ m, m ∈ (d.cs.map (downI n) ++ d.sg.filter fun k => decide (k ≤ n)) → (∀ y, y ∈ (d.cs.map (downI n) ++ d.sg.filter fun k => decide (k ≤ n)) → y ≤ m) → LastUntil d n (some m)) ∧
    ((d.cs.map (downI n) ++ d.sg.filter fun k => decide (k ≤ n)) = [] → LastUntil d n none) := by
  have low : ∀ j, memD j d = true → j ≤ n → ∃ y ∈ (d.cs.map (downI n) ++ d.sg.filter fun k => decide (k ≤ n)), j ≤ y := fun j hj hn => by
    rcases mem_cases.mp hj with h | ⟨c, hc, h⟩
    · exact ⟨j, List.mem_append.mpr (.inr (List.mem_filter.mpr ⟨h, decide_eq_true hn⟩)), Int.le_refl _⟩
    · exact ⟨downI n c, List.mem_append.mpr (.inl (List.mem_map_of_mem hc)), (down_ok (pos c hc)).2.2 j h hn⟩
  refine ⟨fun m hm hall => ⟨?_, ?_, fun j hj hn => ?_⟩, fun e j hj hn => ?_⟩
  · rcases List.mem_append.mp hm with h | h
    · obtain ⟨c, hc, rfl⟩ := List.mem_map.mp h
      exact mem_cases.mpr (.inr ⟨c, hc, (down_ok (pos c hc)).2.1⟩)
    · exact mem_cases.mpr (.inl (List.mem_filter.mp h).1)
  · rcases List.mem_append.mp hm with h | h
    · obtain ⟨c, hc, rfl⟩ := List.mem_map.mp h
      exact (down_ok (pos c hc)).1
    · exact of_decide_eq_true (List.mem_filter.mp h).2
  · obtain ⟨y, hy, hyj⟩ := low j hj hn
    exact Int.le_trans hyj (hall y hy)
  · obtain ⟨y, hy, _⟩ := low j hj hn
    rw [e] at hy
    cases hy
section
variable {P : Program} {w : World} {K : PySem.W.Frag} {mg : Str → Option Value} {base : Heap} {CN : Addr}
abbrev s_Numbers_first_from : Stmt := inClass (top 59) 24
abbrev N_Numbers_first_from : List Str := ["self", "n", "found", "r", "m", "k"]
abbrev P_Numbers_first_from : List Str := ["self", "n"]
theorem sc_Numbers_first_from : FnScope N_Numbers_first_from P_Numbers_first_from (defScope s_Numbers_first_from) := ⟨rfl, rfl, rfl, by decide +kernel, rfl, by decide +kernel, by decide +kernel⟩
theorem bn_Numbers_first_from : BindsNo "first_from" "Numbers.first_from" s_Numbers_first_from P_Numbers_first_from := fun _ _ _ _ _ _ us hl => match us, hl with | [_, _], _ => rfl
def sp_first_from (C : Addr) : Sp := fun vs H Q _ => ∃ (F : Hp) (v : V) (n : Int) (d : NumD), vs = [v, .int n] ∧ Same F H ∧ (RNum C).rel d v F ∧ NumB d ∧ n.natAbs < bigN ∧ ∀ o H', Same H H' → FirstFrom d n o → Q (ofI o) H'
theorem ok_first_from (B : Bt mg) (N : KlF K mg "Numbers" CN ["classes", "singles"]) (F : MtF K CN "first_from" "Numbers.first_from" s_Numbers_first_from []) : Met P w K mg base 1 CN "first_from" (sp_first_from CN) := by
  refine F.met N.cl sc_Numbers_first_from bn_Numbers_first_from (fun vs H Q E h => ?_) (fun f cdv A outer s H vs Q E hr h => ?_)
  · obtain ⟨_, _, _, _, rfl, _⟩ := h
    rfl
  · obtain ⟨F, v, n, d, rfl, sF, ⟨a, dx, lc, ls, h⟩, hb, hn, k⟩ := h
    obtain ⟨_, cv, ec, hlc, pdc⟩ := h.cl
    cases ec
    have hcl : cv.length = d.cs.length := pd_len pdc
    refine ⟨_, (pss_cons (ps_setLc (i := 2) (own := [("r", 3), ("m", 4)]) rfl sc_Numbers_first_from.nd rfl rfl (sw_true rfl rfl rfl (by decide +kernel)) (k_il (k_fld (pv 0) (K := K)) (K := K)) (blkOk_by (N := N_Numbers_first_from) (sc := defScope s_Numbers_first_from) (by decide +kernel)) (fun _ _ _ _ _ => (k_tup (n := 2) rfl (pgs_cons (pg_name (i := 3) sc_Numbers_first_from.nd rfl (Or.inl rfl)) (pgs_cons (pg_name (i := 4) sc_Numbers_first_from.nd rfl (Or.inl rfl)) pgs_nil)) (K := K))) (fun _ _ _ _ _ => pts_nil) (fun _ _ _ _ _ => (pe_op op_addU (pv 3) (pe_op op_mulU (pv 4) (pe_op op_fdivU (pe_op op_sub (pe_op op_addU (pe_op op_sub (pv 1) (pv 3)) (pv 4)) pe_int) (pv 4))))))
    (pss_cons (ps_set (i := 2) sc_Numbers_first_from.nd rfl (Or.inl rfl) (pe_lst (k_star (pv 2) (k_star (pe_lc (own := [("k", 5)]) rfl sc_Numbers_first_from.nd (k_il (k_fld (pv 0) (K := K)) (K := K)) (blkOk_by (N := N_Numbers_first_from) (sc := defScope s_Numbers_first_from) (by decide +kernel)) (fun _ _ _ _ _ => (pg_name (i := 5) sc_Numbers_first_from.nd rfl (Or.inl rfl))) (fun _ _ _ _ _ => (pts_one (pt_cmpR op_ge (pv 5) (pv 1) (nomark _)))) (fun _ _ _ _ _ => (pv 5))) pa_nil (K := K)) (K := K))))
    (pss_one (ps_ret (pe_callBK (kD_min (K := K)) (by rfl) B.min (by decide +kernel) (pa_cons (pe_lc (own := [("k", 5)]) rfl sc_Numbers_first_from.nd (k_il (pv 2) (K := K)) (blkOk_by (N := N_Numbers_first_from) (sc := defScope s_Numbers_first_from) (by decide +kernel)) (fun _ _ _ _ _ => (pg_name (i := 5) sc_Numbers_first_from.nd rfl (Or.inl rfl))) (fun _ _ _ _ _ => pts_nil) (fun _ _ _ _ _ => (pe_callTy call_int1 (by rfl) B.int (by decide +kernel) (pa_cons (pv 5) pa_nil)))) pa_nil) (pk_cons pe_non pk_nil)))))), ?_⟩
    refine stp [some v, some (.int n), none, none, none, none] rfl fun N1 hN1 => ?_
    refine ⟨_, rfl, a, CN, dx, _, _, h.ev, sF _ _ h.ob, N.cl, N.no _ (by decide), rfl, lc, rfl, ⟨_, SqL.of (sF _ _ hlc)⟩, fun D hD => ?_⟩
    have hc64 := h.len
    have hs64 := h.lsg
    have bN : bigN = 2 ^ 8000 := rfl
    refine go_lc (F1 := F) (walk_list (xs := cv)) Rp.int (fun i => (d.cs.map (upI n)).take i) (by omega) sF hD (by simp) (fun F1 H1 pu => SqL.of (pu.sub _ _ (pu.ff _ _ hlc))) (fun i y F1 H1 l H' N2 hi pu fD hl1 hy kt kf => ?_) (fun F1 H1 ys pu fD hl1 pd1 => ?_)
    · obtain ⟨e1, hy⟩ := hy
      subst e1
      obtain ⟨c, t, z, u, hc, rfl, ht, rfl, rfl⟩ := pair_at pdc hy
      have hcm := List.mem_of_getElem? hc
      have hp := h.pos c hcm
      obtain ⟨b1, b2⟩ := hb.cs c hcm
      refine ⟨t, _, rfl, SqT.of (pu.sub _ _ (pu.ff _ _ ht)), rfl, _, _, rfl, _, _, rfl, rfl, rfl, ?_⟩
      have q1 : (n - c.1 + c.2 - 1).natAbs < 2 ^ 8002 := by
        rw [bN] at b1 b2 hn
        have : (2 : Nat) ^ 8002 = 2 ^ 8000 * 4 := by rw [show (8002 : Nat) = 8000 + 2 from rfl, Nat.pow_add]
        omega
      have q2 : ((n - c.1 + c.2 - 1) / c.2).natAbs < 2 ^ 8003 := by
        have := Int.natAbs_ediv_le_natAbs' (n - c.1 + c.2 - 1) hp
        have e : (2 : Nat) ^ 8003 = 2 ^ 8002 * 2 := by rw [show (8003 : Nat) = 8002 + 1 from rfl, Nat.pow_add]
        omega
      refine ⟨_, rfl, _, rfl, _, rfl, _, rfl, _, _, rfl, rfl, _, rfl, .inl ⟨_, _, rfl, rfl, _, _, rfl, rfl, _, rfl, .inr ⟨_, _, rfl, rfl, wide_div hp b2 (by decide) (by decide), .inr ⟨_, _, rfl, rfl, wide_mul b2 q2 (by decide) (by decide) (by decide), .inl ⟨_, _, rfl, rfl, ?_⟩⟩⟩⟩⟩
      exact kt _ _ _ _ (Pu.refl pu.sub) rfl (take_snoc (by rw [List.getElem?_map, hc]; rfl))
    · rw [hcl, show d.cs.length = (d.cs.map (upI n)).length by simp, take_all] at pd1
      have e1 := pd_eq (f := V.int) (by exact pd1)
      subst e1
      have w1 := (Own.nil (Pu.refl sF)).lc hD pu fD hl1
      refine hN1 _ _ ?_
      clear hN1
      refine stp [some v, some (.int n), some (.ref D), none, none, none] rfl fun N1 hN1 => ?_
      refine ⟨_, rfl, D, _, rfl, .inr (SqL.of (w1.at 0)), _, rfl, a, CN, dx, _, _, h.ev, w1.sub _ _ (w1.ff _ _ h.ob), N.cl, N.no _ (by decide), rfl, ls, rfl, ⟨_, SqL.of (w1.sub _ _ (w1.ff _ _ h.sg))⟩, fun D2 hD2 => ?_⟩
      refine go_lc (F1 := F1) (walk_list (xs := d.sg.map V.int)) Rp.int (fun i => (d.sg.take i).filter fun k => decide (n ≤ k)) (by rw [List.length_map]; omega) w1.sub hD2 (by simp) (fun F1 H1 pu => SqL.of (pu.sub _ _ (pu.ff _ _ (w1.ff _ _ h.sg)))) (fun i y F3 H3 l H' N2 hi pu fD hl1 hy kt kf => ?_) (fun F3 H3 ys pu3 fD3 hl3 pd3 => ?_)
      · obtain ⟨e1, hy⟩ := hy
        subst e1
        rw [List.getElem?_map] at hy
        obtain ⟨m, hm, rfl⟩ := Option.map_eq_some_iff.mp hy
        refine ⟨rfl, _, rfl, _, rfl, _, _, rfl, rfl, _, rfl, ?_⟩
        by_cases hc : n ≤ m
        · rw [decide_eq_true hc]
          exact iteT ⟨_, rfl, kt _ _ _ _ (Pu.refl pu.sub) rfl (filter_snoc hm (decide_eq_true hc))⟩
        · rw [decide_eq_false hc]
          exact iteF (kf _ _ (Pu.refl pu.sub) (filter_skip hm (decide_eq_false hc)))
      · rw [List.length_map, take_all] at pd3
        have e3 := pd_eq (f := V.int) (by exact pd3)
        subst e3
        have w2 := w1.lc hD2 pu3 fD3 hl3
        have hfl : (d.sg.filter fun k => decide (n ≤ k)).length ≤ d.sg.length := List.length_filter_le _ _
        refine ⟨D2, _, rfl, .inr (SqL.of hl3), sz (by simp; omega), fun L hL => ?_⟩
        have w3 := w2.new (o := .lst ((d.cs.map (upI n)).map V.int ++ ((d.sg.filter fun k => decide (n ≤ k)).map V.int ++ []))) hL
        have eL : (d.cs.map (upI n)).map V.int ++ ((d.sg.filter fun k => decide (n ≤ k)).map V.int ++ []) = (d.cs.map (upI n) ++ d.sg.filter fun k => decide (n ≤ k)).map V.int := by rw [List.append_nil, List.map_append]
        rw [eL] at w3 ⊢
        generalize upd H3 L (.lst ((d.cs.map (upI n) ++ d.sg.filter fun k => decide (n ≤ k)).map V.int)) = H4 at w3
        refine hN1 _ _ ?_
        clear hN1
        refine stq [some v, some (.int n), some (.ref L), none, none, none] rfl ?_
        refine ⟨_, rfl, L, rfl, ⟨_, SqL.of (w3.at 0)⟩, fun D3 hD3 => ?_⟩
        refine go_lc (F1 := F3) (walk_list (xs := (d.cs.map (upI n) ++ d.sg.filter fun k => decide (n ≤ k)).map V.int)) Rp.int (fun i => (d.cs.map (upI n) ++ d.sg.filter fun k => decide (n ≤ k)).take i) (by simp; omega) w3.sub hD3 (by simp) (fun F1 H1 pu => SqL.of (pu.same _ _ (w3.at 0))) (fun i y F5 H5 l H' N2 hi pu fD hl1 hy kt kf => ?_) (fun F5 H5 ys pu5 fD5 hl5 pd5 => ?_)
        · obtain ⟨e1, hy⟩ := hy
          subst e1
          rw [List.getElem?_map] at hy
          obtain ⟨m, hm, rfl⟩ := Option.map_eq_some_iff.mp hy
          exact ⟨rfl, _, rfl, .inl ⟨_, rfl, kt _ _ _ _ (Pu.refl pu.sub) rfl (take_snoc hm)⟩⟩
        · rw [List.length_map, take_all] at pd5
          have e5 := pd_eq (f := V.int) (by exact pd5)
          subst e5
          have w4 := w3.lc hD3 pu5 fD5 hl5
          obtain ⟨f1, f2⟩ := first_list (n := n) h.pos
          exact ⟨D3, _, rfl, rfl, SqL.of hl5, fun e => k none H5 w4.pu.same (f2 e), fun m hm hall => k (some m) H5 w4.pu.same (f1 m hm hall)⟩
end
end TR

/-! part A11 -/
namespace TR
open PySem PySem.Spec PyProof.Rows L2 G
theorem inV_strs (z : Str) : ∀ l : List Str, inV (.str z) (l.map V.str) = decide (z ∈ l)
  | [] => rfl
  | a :: r => by
    have h := inV_strs z r
    unfold inV at h ⊢
    rw [List.map_cons, List.any_cons, h]
    show ((a == z) || _) = _
    by_cases e : a = z
    · subst e; simp
    · simp [e, Ne.symm e]
theorem flat_strs (l : List Str) : (l.map V.str).all flatV = true := by
  rw [List.all_eq_true]
  intro x hx
  obtain ⟨i, _, rfl⟩ := List.mem_map.mp hx
  rfl
structure ArrD where
  one : Str
  name : Str
  num : NumD
  other : Str
structure ArrAt (CN : Addr) (d : ArrD) (v : V) (F : Hp) (a : Addr) (nv : V) : Prop where
  ev : v = .ref a
  ob : F a = some (.tup [.str d.one, .str d.name, nv, .str d.other])
  nu : (RNum CN).rel d.num nv F
def RArr (CN : Addr) : Rp ArrD := ⟨fun d v F => ∃ a nv, ArrAt CN d v F a nv, fun s ⟨a, nv, h⟩ => ⟨a, nv, h.ev, s _ _ h.ob, (RNum CN).mono s h.nu⟩⟩
def arrGood (ks : Kinds) (st : List Str) (d : ArrD) : Prop := d.one ∈ st ∧ (ks.lookup d.name).isSome = true ∧ d.other ∈ st
/-- what is no arrow -/
inductive ArrBad (K : PySem.W.Frag) (CN : Addr) (ks : Kinds) (st : List Str) : V → Hp → Prop
  | ty {v : V} {t : Value} {F : Hp} (h : TyX K F v t) (k : PySem.W.kitOne K t (.type "tuple") = some false) : ArrBad K CN ks st v F
  | len {a : Addr} {xs : List V} {F : Hp} (h : F a = some (.tup xs)) (n : xs.length ≠ 4) : ArrBad K CN ks st (.ref a) F
  | num {a : Addr} {x y z u : V} {t : Value} {F : Hp} (h : F a = some (.tup [x, y, z, u])) (ht : TyX K F z t) (k : PySem.W.kitOne K t (.ref CN) = some false) : ArrBad K CN ks st (.ref a) F
  | str1 {a : Addr} {x u : Str} {y nv : V} {d : NumD} {F : Hp} (h : F a = some (.tup [.str x, y, nv, .str u])) (hn : (RNum CN).rel d nv F) (k : NotStr K F y) : ArrBad K CN ks st (.ref a) F
  | out {v : V} {d : ArrD} {F : Hp} (h : (RArr CN).rel d v F) (n : ¬ arrGood ks st d) : ArrBad K CN ks st v F
theorem TyX.mono {K : PySem.W.Frag} {F F' : Hp} {v : V} {t : Value} (s : Same F F') (h : TyX K F v t) : TyX K F' v t := by
  cases h with
  | base h =>
    refine .base ?_
    cases h with
    | non => exact .non
    | bl x => exact .bl x
    | int i => exact .int i
    | str x => exact .str x
    | flt x => exact .flt x
    | lst h => exact .lst (s _ _ h)
    | frz h => exact .frz (s _ _ h)
    | tup h => exact .tup (s _ _ h)
    | dK h => exact .dK (s _ _ h)
    | dT h => exact .dT (s _ _ h)
    | ins h a b c d e => exact .ins (s _ _ h) a b c d e
  | byt b => exact .byt b
  | set h => exact .set (s _ _ h)
  | kList a b => exact .kList a b
  | kTuple a b => exact .kTuple a b
  | kDict a b => exact .kDict a b
  | fTuple h => exact .fTuple (s _ _ h)
  | fDict h => exact .fDict (s _ _ h)
theorem NotStr.mono {K : PySem.W.Frag} {F F' : Hp} {v : V} (s : Same F F') : NotStr K F v → NotStr K F' v := fun ⟨t, h, k⟩ => ⟨t, TyX.mono s h, k⟩
theorem ArrBad.mono {K : PySem.W.Frag} {CN : Addr} {ks : Kinds} {st : List Str} {F F' : Hp} {v : V} (s : Same F F') (h : ArrBad K CN ks st v F) : ArrBad K CN ks st v F' := by
  cases h with
  | ty h k => exact .ty (TyX.mono s h) k
  | len h n => exact .len (s _ _ h) n
  | num h ht k => exact .num (s _ _ h) (TyX.mono s ht) k
  | str1 h hn k => exact .str1 (s _ _ h) ((RNum CN).mono s hn) (NotStr.mono s k)
  | out h n => exact .out ((RArr CN).mono s h) n
section
variable {P : Program} {w : World} {K : PySem.W.Frag} {mg : Str → Option Value} {base : Heap} {CT CN : Addr}
abbrev s_is_arrow : Stmt := top 70
abbrev N_is_arrow : List Str := ["value", "turns", "stations", "name"]
abbrev P_is_arrow : List Str := ["value", "turns", "stations"]
theorem sc_is_arrow : FnScope N_is_arrow P_is_arrow (defScope s_is_arrow) := ⟨rfl, rfl, rfl, by decide +kernel, rfl, by decide +kernel, by decide +kernel⟩
theorem bn_is_arrow : BindsNo "is_arrow" "is_arrow" s_is_arrow P_is_arrow := fun _ _ _ _ _ _ us hl => match us, hl with | [_, _, _], _ => rfl
def sp_is_arrow (K : PySem.W.Frag) (CT CN : Addr) : Sp := fun vs H Q _ => ∃ (F : Hp) (v tv sv : V) (ks : Kinds) (st : List Str) (ts : Addr), vs = [v, tv, sv] ∧ Same F H ∧ (RTurns CT).rel ks tv F ∧ sv = .ref ts ∧ F ts = some (.tup (st.map V.str)) ∧
  ((ArrBad K CN ks st v F ∧ ∀ H', Same H H' → Q (.bl false) H') ∨ (∃ d, (RArr CN).rel d v F ∧ arrGood ks st d ∧ ∀ H', Same H H' → Q (.bl true) H'))
theorem ok_is_arrow (B : Bt mg) (g_Numbers : mg "Numbers" = some (.ref CN)) (IN : InsF K CN) (m_in : Met P w K mg base 1 CT "__contains__" (sp_Turns_in K CT)) (F : FnF K mg "is_arrow" s_is_arrow []) : Cal P w K mg base 2 "is_arrow" (sp_is_arrow K CT CN) := by
  refine F.cal sc_is_arrow bn_is_arrow (fun vs H Q E h => ?_) (fun f cdv A outer s H vs Q E hr h => ?_)
  · obtain ⟨_, _, _, _, _, _, _, rfl, _⟩ := h
    rfl
  · obtain ⟨F, v, tv, sv, ks, st, ts, rfl, sF, rt, rfl, hts, h⟩ := h
    obtain ⟨ta, tdx, tp, tn, td, tr, t⟩ := id rt
    refine ⟨_, (pss_cons (ps_if (PW.pt (pw_or (pt_not (pt_val (pe_callB (k_isi (K := K)) (by rfl) B.isinstance (by decide +kernel) (pa_cons (pv 0) (pa_cons (pe_ty (n := "tuple") B.tuple) pa_nil))))) (pw_or (pt_cmpR (op_neU hr (K := K)) (pe_callB (call_lenU (K := K)) (by rfl) B.len (by decide +kernel) (pa_cons (pv 0) pa_nil)) pe_int (nomark _)) (pw_or1 (pt_not (pt_val (pe_callB (k_isi (K := K)) (by rfl) B.isinstance (by decide +kernel) (pa_cons (pe_ix (k_ix (K := K)) (pv 0) pe_int (fun _ _ => rfl)) (pa_cons (pe_gr g_Numbers) pa_nil))))))))) (pss_one (ps_ret pe_bl)) pss_nil)
    (pss_cons (ps_if (pt_not (pt_val (pe_callB (k_all (K := K)) (by rfl) B.all (by decide +kernel) (pa_cons (pe_lc (own := [("name", 3)]) rfl sc_is_arrow.nd (k_it (pe_tup (pa_cons (pe_ix (k_ix (K := K)) (pv 0) pe_int (fun _ _ => rfl)) (pa_cons (pe_ix (k_ix (K := K)) (pv 0) pe_int (fun _ _ => rfl)) (pa_cons (pe_ix (k_ix (K := K)) (pv 0) pe_int (fun _ _ => rfl)) pa_nil)))) (K := K)) (blkOk_by (N := N_is_arrow) (sc := defScope s_is_arrow) (by decide +kernel)) (fun _ _ _ _ _ => (pg_name (i := 3) sc_is_arrow.nd rfl (Or.inl rfl))) (fun _ _ _ _ _ => pts_nil) (fun _ _ _ _ _ => (pe_callB (k_isi (K := K)) (by rfl) B.isinstance (by decide +kernel) (pa_cons (pv 3) (pa_cons (pe_ty (n := "str") B.str) pa_nil))))) pa_nil)))) (pss_one (ps_ret pe_bl)) pss_nil)
    (pss_one (ps_ret (pe_and (pe_cmpR (op_inU (K := K)) (pe_ix (k_ix (K := K)) (pv 0) pe_int (fun _ _ => rfl)) (pv 2) (by rfl)) (pe_and (pe_cmpR (op_inO m_in hr (by decide) passL) (pe_ix (k_ix (K := K)) (pv 0) pe_int (fun _ _ => rfl)) (pv 1) (by rfl)) (pe_one (pe_cmpR (op_inU (K := K)) (pe_ix (k_ix (K := K)) (pv 0) pe_int (fun _ _ => rfl)) (pv 2) (by rfl))))))))), ?_⟩
    have h' : (∃ t, TyX K H v t ∧ PySem.W.kitOne K t (.type "tuple") = some false ∧ ∀ H', Same H H' → Q (.bl false) H') ∨ (∃ a xs, v = .ref a ∧ F a = some (.tup xs) ∧ xs.length ≠ 4 ∧ ∀ H', Same H H' → Q (.bl false) H') ∨
        (∃ a x y z u t, v = .ref a ∧ F a = some (.tup [x, y, z, u]) ∧ TyX K H z t ∧ PySem.W.kitOne K t (.ref CN) = some false ∧ ∀ H', Same H H' → Q (.bl false) H') ∨
        (∃ a p y nv r d, v = .ref a ∧ F a = some (.tup [.str p, y, nv, .str r]) ∧ (RNum CN).rel d nv F ∧ ((NotStr K F y ∧ ∀ H', Same H H' → Q (.bl false) H') ∨ ∃ q, y = .str q ∧ ∀ H', Same H H' → Q (.bl (decide (p ∈ st) && ((ks.lookup q).isSome && decide (r ∈ st)))) H')) := by
      rcases h with ⟨hb, k⟩ | ⟨d, ⟨a, nv, ha⟩, hg, k⟩
      · cases hb with
        | ty h1 h2 => exact .inl ⟨_, TyX.mono sF h1, h2, k⟩
        | len h1 h2 => exact .inr (.inl ⟨_, _, rfl, h1, h2, k⟩)
        | num h1 h2 h3 => exact .inr (.inr (.inl ⟨_, _, _, _, _, _, rfl, h1, TyX.mono sF h2, h3, k⟩))
        | str1 h1 h2 h3 => exact .inr (.inr (.inr ⟨_, _, _, _, _, _, rfl, h1, h2, .inl ⟨h3, k⟩⟩))
        | out h1 h2 =>
          obtain ⟨a, nv, ha⟩ := h1
          refine .inr (.inr (.inr ⟨_, _, _, _, _, _, ha.ev, ha.ob, ha.nu, .inr ⟨_, rfl, ?_⟩⟩))
          rename_i d
          rw [show (decide (d.one ∈ st) && ((ks.lookup d.name).isSome && decide (d.other ∈ st))) = false by
            cases q : (decide (d.one ∈ st) && ((ks.lookup d.name).isSome && decide (d.other ∈ st))) with
            | false => rfl
            | true =>
              obtain ⟨q1, q2⟩ := Bool.and_eq_true_iff.mp q
              obtain ⟨q2, q3⟩ := Bool.and_eq_true_iff.mp q2
              exact absurd ⟨of_decide_eq_true q1, q2, of_decide_eq_true q3⟩ h2]
          exact k
      · refine .inr (.inr (.inr ⟨_, _, _, _, _, _, ha.ev, ha.ob, ha.nu, .inr ⟨_, rfl, ?_⟩⟩))
        rw [decide_eq_true hg.1, hg.2.1, decide_eq_true hg.2.2]
        exact k
    rcases h' with ⟨ty, h1, h2, k⟩ | ⟨a, xs, rfl, ha, hn, k⟩ | ⟨a, x, y, z, u, ty, rfl, ha, h1, h2, k⟩ | ⟨a, p, y, nv, r, d, rfl, ha, ⟨na, ndx, lc, ls, hna⟩, h⟩
    · refine ⟨_, rfl, _, _, _, _, _, rfl, ClsV.ty _, h1, h2, ?_⟩
      exact ⟨_, rfl, iteT (k _ (Same.refl _))⟩
    · refine ⟨_, rfl, _, _, _, _, _, rfl, ClsV.ty _, TyX.base (TyOf.tup (sF _ _ ha)), kit_ty (r := true) (by decide +kernel), ?_⟩
      refine ⟨_, rfl, ?_⟩
      refine iteF ⟨_, rfl, .inl ⟨a, _, rfl, .inr (SqT.of (sF _ _ ha)), .inl ⟨rfl, _, rfl, ?_⟩⟩⟩
      rw [decide_eq_false (show ¬ V.int (xs.length : Nat) = V.int 4 from fun q => hn (by injection q with q; omega))]
      exact iteT (k _ (Same.refl _))
    · refine ⟨_, rfl, _, _, _, _, _, rfl, ClsV.ty _, TyX.base (TyOf.tup (sF _ _ ha)), kit_ty (r := true) (by decide +kernel), ?_⟩
      refine ⟨_, rfl, ?_⟩
      refine iteF ⟨_, rfl, .inl ⟨a, _, rfl, .inr (SqT.of (sF _ _ ha)), .inl ⟨rfl, _, rfl, ?_⟩⟩⟩
      refine iteF ⟨_, rfl, .inr (.inl ⟨a, _, 2, _, rfl, rfl, SqT.of (sF _ _ ha), atI_nat rfl, ?_⟩)⟩
      refine ⟨_, _, _, _, _, rfl, ClsV.own _, h1, h2, ?_⟩
      exact ⟨_, rfl, iteT (k _ (Same.refl _))⟩
    · refine ⟨_, rfl, _, _, _, _, _, rfl, ClsV.ty _, TyX.base (TyOf.tup (sF _ _ ha)), kit_ty (r := true) (by decide +kernel), ?_⟩
      refine ⟨_, rfl, ?_⟩
      refine iteF ⟨_, rfl, .inl ⟨a, _, rfl, .inr (SqT.of (sF _ _ ha)), .inl ⟨rfl, _, rfl, ?_⟩⟩⟩
      refine iteF ⟨_, rfl, .inr (.inl ⟨a, _, 2, _, rfl, rfl, SqT.of (sF _ _ ha), atI_nat rfl, ?_⟩)⟩
      refine ⟨_, _, _, _, _, rfl, ClsV.own _, by rw [hna.ev]; exact IN.ty (sF _ _ hna.ob), kit_self, ?_⟩
      refine ⟨_, rfl, ?_⟩
      refine iteF ?_
      refine ⟨_, rfl, .inr (.inl ⟨a, _, 0, _, rfl, rfl, SqT.of (sF _ _ ha), atI_nat rfl, ?_⟩)⟩
      refine ⟨_, rfl, .inr (.inl ⟨a, _, 1, _, rfl, rfl, SqT.of (sF _ _ ha), atI_nat rfl, ?_⟩)⟩
      refine ⟨_, rfl, .inr (.inl ⟨a, _, 3, _, rfl, rfl, SqT.of (sF _ _ ha), atI_nat rfl, ?_⟩)⟩
      refine ⟨sz (n := 3) (by decide), fun q hq => ⟨q, rfl, ⟨_, SqT.of upd_same⟩, fun D hD => ?_⟩⟩
      have s1 := Same.new (o := .tup [.str p, y, .str r]) hq
      obtain ⟨b, hb, hy⟩ : ∃ b, (∃ t, TyX K H y t ∧ PySem.W.kitOne K t (.type "str") = some b) ∧ ((b = false ∧ ∀ H', Same H H' → Q (.bl false) H') ∨ (b = true ∧ ∃ q, y = .str q ∧ ∀ H', Same H H' → Q (.bl (decide (p ∈ st) && ((ks.lookup q).isSome && decide (r ∈ st)))) H')) := by
        rcases h with ⟨⟨t, h1, h2⟩, k⟩ | ⟨q, rfl, k⟩
        · exact ⟨false, ⟨t, TyX.mono sF h1, h2⟩, .inl ⟨rfl, k⟩⟩
        · exact ⟨true, ⟨_, TyX.base (TyOf.str _), kit_ty (r := true) (by decide +kernel)⟩, .inr ⟨rfl, q, rfl, k⟩⟩
      refine go_lc (F1 := upd H q (.tup [.str p, y, .str r])) (walk_tup (xs := [.str p, y, .str r])) Rp.bl (fun i => [true, b, true].take i) (by simp) (Same.refl _) hD (by simp) (fun F1 H1 pu => SqT.of (pu.sub _ _ (pu.ff _ _ upd_same))) (fun i v F1 H1 l H' N hi pu fD hl1 hy kt kf => ?_) (fun F1 H1 ys pu fD hl1 pd1 => ?_)
      · obtain ⟨e1, hy⟩ := hy
        subst e1
        obtain ⟨ty, hty, hky⟩ := hb
        have s2 := s1.trans (pu.same)
        match i, hi, hy with
        | 0, _, hy =>
          cases hy
          exact ⟨rfl, _, rfl, _, _, _, _, _, rfl, ClsV.ty _, TyX.base (TyOf.str _), kit_ty (r := true) (by decide +kernel), kt (.bl true) H' F1 true (Pu.refl pu.sub) rfl rfl⟩
        | 1, _, hy =>
          cases hy
          exact ⟨rfl, _, rfl, _, _, _, _, _, rfl, ClsV.ty _, TyX.mono s2 hty, hky, kt (.bl b) H' F1 b (Pu.refl pu.sub) rfl rfl⟩
        | 2, _, hy =>
          cases hy
          exact ⟨rfl, _, rfl, _, _, _, _, _, rfl, ClsV.ty _, TyX.base (TyOf.str _), kit_ty (r := true) (by decide +kernel), kt (.bl true) H' F1 true (Pu.refl pu.sub) rfl rfl⟩
        | (n + 3), hi, _ => simp at hi; omega
      · have e := pd_eq (f := V.bl) (by exact pd1)
        refine ⟨D, [true, b, true], rfl, .inl (.inl (by rw [hl1, e]; rfl)), ?_⟩
        refine ⟨_, rfl, ?_⟩
        have s2 := s1.trans (pu.same)
        have sF2 := sF.trans s2
        rcases hy with ⟨rfl, k⟩ | ⟨rfl, q1, rfl, k⟩
        · exact k _ s2
        · -- value[0] in stations and value[1] in turns and (value[3] in stations)
          refine ⟨_, rfl, .inr (.inl ⟨a, _, 0, _, rfl, rfl, SqT.of (sF2 _ _ ha), atI_nat rfl, ?_⟩)⟩
          refine ⟨_, rfl, .inr ⟨ts, _, rfl, .inr (SqT.of (sF2 _ _ hts)), rfl, flat_strs st, _, rfl, ?_⟩⟩
          show if inV (.str p) (st.map V.str) = true then _ else _
          rw [inV_strs]
          by_cases hp : p ∈ st
          · rw [decide_eq_true hp] at k ⊢
            refine iteT ⟨_, rfl, .inr (.inl ⟨a, _, 1, _, rfl, rfl, SqT.of (sF2 _ _ ha), atI_nat rfl, ?_⟩)⟩
            refine ⟨_, rfl, ta, tdx, _, t.ev, sF2 _ _ t.ob, tv, .str q1, ks, rfl, (RTurns CT).mono sF2 rt, .inl ⟨q1, rfl, fun H4 s4 => ?_⟩⟩
            have s5 := s2.trans s4
            have sF5 := sF.trans s5
            refine ⟨_, rfl, _, rfl, ?_⟩
            cases hk : (ks.lookup q1).isSome with
            | false =>
              rw [hk] at k
              exact iteF (k _ s5)
            | true =>
              rw [hk] at k
              refine iteT ⟨_, rfl, .inr (.inl ⟨a, _, 3, _, rfl, rfl, SqT.of (sF5 _ _ ha), atI_nat rfl, ?_⟩)⟩
              refine ⟨_, rfl, .inr ⟨ts, _, rfl, .inr (SqT.of (sF5 _ _ hts)), rfl, flat_strs st, ?_⟩⟩
              show Q (.bl (inV (.str r) (st.map V.str))) _
              rw [inV_strs]
              exact k _ s5
          · rw [decide_eq_false hp] at k ⊢
            exact iteF (k _ s2)
end
end TR

/-! part M14 -/
/-! Sets of integers: the last member until a number, the nearest one, samples. -/
namespace TR
open PySem PySem.Spec PyProof.Rows L2 G
section
variable {P : Program} {w : World} {K : PySem.W.Frag} {mg : Str → Option Value} {base : Heap} {CN : Addr}
abbrev s_Numbers_last_until : Stmt := inClass (top 59) 25
abbrev N_Numbers_last_until : List Str := ["self", "n", "found", "r", "m", "k"]
abbrev P_Numbers_last_until : List Str := ["self", "n"]
theorem sc_Numbers_last_until : FnScope N_Numbers_last_until P_Numbers_last_until (defScope s_Numbers_last_until) := ⟨rfl, rfl, rfl, by decide +kernel, rfl, by decide +kernel, by decide +kernel⟩
theorem bn_Numbers_last_until : BindsNo "last_until" "Numbers.last_until" s_Numbers_last_until P_Numbers_last_until := fun _ _ _ _ _ _ us hl => match us, hl with | [_, _], _ => rfl
def sp_last_until (C : Addr) : Sp := fun vs H Q _ => ∃ (F : Hp) (v : V) (n : Int) (d : NumD), vs = [v, .int n] ∧ Same F H ∧ (RNum C).rel d v F ∧ NumB d ∧ n.natAbs < bigN ∧ ∀ o H', Same H H' → LastUntil d n o → Q (ofI o) H'
theorem ok_last_until (B : Bt mg) (N : KlF K mg "Numbers" CN ["classes", "singles"]) (F : MtF K CN "last_until" "Numbers.last_until" s_Numbers_last_until []) : Met P w K mg base 1 CN "last_until" (sp_last_until CN) := by
  refine F.met N.cl sc_Numbers_last_until bn_Numbers_last_until (fun vs H Q E h => ?_) (fun f cdv A outer s H vs Q E hr h => ?_)
  · obtain ⟨_, _, _, _, rfl, _⟩ := h
    rfl
  · obtain ⟨F, v, n, d, rfl, sF, ⟨a, dx, lc, ls, h⟩, hb, hn, k⟩ := h
    obtain ⟨_, cv, ec, hlc, pdc⟩ := h.cl
    cases ec
    have hcl : cv.length = d.cs.length := pd_len pdc
    refine ⟨_, (pss_cons (ps_setLc (i := 2) (own := [("r", 3), ("m", 4)]) rfl sc_Numbers_last_until.nd rfl rfl (sw_true rfl rfl rfl (by decide +kernel)) (k_il (k_fld (pv 0) (K := K)) (K := K)) (blkOk_by (N := N_Numbers_last_until) (sc := defScope s_Numbers_last_until) (by decide +kernel)) (fun _ _ _ _ _ => (k_tup (n := 2) rfl (pgs_cons (pg_name (i := 3) sc_Numbers_last_until.nd rfl (Or.inl rfl)) (pgs_cons (pg_name (i := 4) sc_Numbers_last_until.nd rfl (Or.inl rfl)) pgs_nil)) (K := K))) (fun _ _ _ _ _ => pts_nil) (fun _ _ _ _ _ => (pe_op op_addU (pv 3) (pe_op op_mulU (pv 4) (pe_op op_fdivU (pe_op op_sub (pv 1) (pv 3)) (pv 4))))))
    (pss_cons (ps_set (i := 2) sc_Numbers_last_until.nd rfl (Or.inl rfl) (pe_lst (k_star (pv 2) (k_star (pe_lc (own := [("k", 5)]) rfl sc_Numbers_last_until.nd (k_il (k_fld (pv 0) (K := K)) (K := K)) (blkOk_by (N := N_Numbers_last_until) (sc := defScope s_Numbers_last_until) (by decide +kernel)) (fun _ _ _ _ _ => (pg_name (i := 5) sc_Numbers_last_until.nd rfl (Or.inl rfl))) (fun _ _ _ _ _ => (pts_one (pt_cmpR op_le (pv 5) (pv 1) (nomark _)))) (fun _ _ _ _ _ => (pv 5))) pa_nil (K := K)) (K := K))))
    (pss_one (ps_ret (pe_callBK (kD_max (K := K)) (by rfl) B.max (by decide +kernel) (pa_cons (pe_lc (own := [("k", 5)]) rfl sc_Numbers_last_until.nd (k_il (pv 2) (K := K)) (blkOk_by (N := N_Numbers_last_until) (sc := defScope s_Numbers_last_until) (by decide +kernel)) (fun _ _ _ _ _ => (pg_name (i := 5) sc_Numbers_last_until.nd rfl (Or.inl rfl))) (fun _ _ _ _ _ => pts_nil) (fun _ _ _ _ _ => (pe_callTy call_int1 (by rfl) B.int (by decide +kernel) (pa_cons (pv 5) pa_nil)))) pa_nil) (pk_cons pe_non pk_nil)))))), ?_⟩
    refine stp [some v, some (.int n), none, none, none, none] rfl fun N1 hN1 => ?_
    refine ⟨_, rfl, a, CN, dx, _, _, h.ev, sF _ _ h.ob, N.cl, N.no _ (by decide), rfl, lc, rfl, ⟨_, SqL.of (sF _ _ hlc)⟩, fun D hD => ?_⟩
    have hc64 := h.len
    have hs64 := h.lsg
    have bN : bigN = 2 ^ 8000 := rfl
    refine go_lc (F1 := F) (walk_list (xs := cv)) Rp.int (fun i => (d.cs.map (downI n)).take i) (by omega) sF hD (by simp) (fun F1 H1 pu => SqL.of (pu.sub _ _ (pu.ff _ _ hlc))) (fun i y F1 H1 l H' N2 hi pu fD hl1 hy kt kf => ?_) (fun F1 H1 ys pu fD hl1 pd1 => ?_)
    · obtain ⟨e1, hy⟩ := hy
      subst e1
      obtain ⟨c, t, z, u, hc, rfl, ht, rfl, rfl⟩ := pair_at pdc hy
      have hcm := List.mem_of_getElem? hc
      have hp := h.pos c hcm
      obtain ⟨b1, b2⟩ := hb.cs c hcm
      refine ⟨t, _, rfl, SqT.of (pu.sub _ _ (pu.ff _ _ ht)), rfl, _, _, rfl, _, _, rfl, rfl, rfl, ?_⟩
      have q1 : (n - c.1).natAbs < 2 ^ 8002 := by
        rw [bN] at b1 b2 hn
        have : (2 : Nat) ^ 8002 = 2 ^ 8000 * 4 := by rw [show (8002 : Nat) = 8000 + 2 from rfl, Nat.pow_add]
        omega
      have q2 : ((n - c.1) / c.2).natAbs < 2 ^ 8003 := by
        have := Int.natAbs_ediv_le_natAbs' (n - c.1) hp
        have e : (2 : Nat) ^ 8003 = 2 ^ 8002 * 2 := by rw [show (8003 : Nat) = 8002 + 1 from rfl, Nat.pow_add]
        omega
      refine ⟨_, rfl, _, rfl, _, rfl, _, rfl, _, _, rfl, rfl, _, rfl, .inr ⟨_, _, rfl, rfl, wide_div hp b2 (by decide) (by decide), .inr ⟨_, _, rfl, rfl, wide_mul b2 q2 (by decide) (by decide) (by decide), .inl ⟨_, _, rfl, rfl, ?_⟩⟩⟩⟩
      exact kt _ _ _ _ (Pu.refl pu.sub) rfl (take_snoc (by rw [List.getElem?_map, hc]; rfl))
    · rw [hcl, show d.cs.length = (d.cs.map (downI n)).length by simp, take_all] at pd1
      have e1 := pd_eq (f := V.int) (by exact pd1)
      subst e1
      have w1 := (Own.nil (Pu.refl sF)).lc hD pu fD hl1
      refine hN1 _ _ ?_
      clear hN1
      refine stp [some v, some (.int n), some (.ref D), none, none, none] rfl fun N1 hN1 => ?_
      refine ⟨_, rfl, D, _, rfl, .inr (SqL.of (w1.at 0)), _, rfl, a, CN, dx, _, _, h.ev, w1.sub _ _ (w1.ff _ _ h.ob), N.cl, N.no _ (by decide), rfl, ls, rfl, ⟨_, SqL.of (w1.sub _ _ (w1.ff _ _ h.sg))⟩, fun D2 hD2 => ?_⟩
      refine go_lc (F1 := F1) (walk_list (xs := d.sg.map V.int)) Rp.int (fun i => (d.sg.take i).filter fun k => decide (k ≤ n)) (by rw [List.length_map]; omega) w1.sub hD2 (by simp) (fun F1 H1 pu => SqL.of (pu.sub _ _ (pu.ff _ _ (w1.ff _ _ h.sg)))) (fun i y F3 H3 l H' N2 hi pu fD hl1 hy kt kf => ?_) (fun F3 H3 ys pu3 fD3 hl3 pd3 => ?_)
      · obtain ⟨e1, hy⟩ := hy
        subst e1
        rw [List.getElem?_map] at hy
        obtain ⟨m, hm, rfl⟩ := Option.map_eq_some_iff.mp hy
        refine ⟨rfl, _, rfl, _, rfl, _, _, rfl, rfl, _, rfl, ?_⟩
        by_cases hc : m ≤ n
        · rw [decide_eq_true hc]
          exact iteT ⟨_, rfl, kt _ _ _ _ (Pu.refl pu.sub) rfl (filter_snoc hm (decide_eq_true hc))⟩
        · rw [decide_eq_false hc]
          exact iteF (kf _ _ (Pu.refl pu.sub) (filter_skip hm (decide_eq_false hc)))
      · rw [List.length_map, take_all] at pd3
        have e3 := pd_eq (f := V.int) (by exact pd3)
        subst e3
        have w2 := w1.lc hD2 pu3 fD3 hl3
        have hfl : (d.sg.filter fun k => decide (k ≤ n)).length ≤ d.sg.length := List.length_filter_le _ _
        refine ⟨D2, _, rfl, .inr (SqL.of hl3), sz (by simp; omega), fun L hL => ?_⟩
        have w3 := w2.new (o := .lst ((d.cs.map (downI n)).map V.int ++ ((d.sg.filter fun k => decide (k ≤ n)).map V.int ++ []))) hL
        have eL : (d.cs.map (downI n)).map V.int ++ ((d.sg.filter fun k => decide (k ≤ n)).map V.int ++ []) = (d.cs.map (downI n) ++ d.sg.filter fun k => decide (k ≤ n)).map V.int := by rw [List.append_nil, List.map_append]
        rw [eL] at w3 ⊢
        generalize upd H3 L (.lst ((d.cs.map (downI n) ++ d.sg.filter fun k => decide (k ≤ n)).map V.int)) = H4 at w3
        refine hN1 _ _ ?_
        clear hN1
        refine stq [some v, some (.int n), some (.ref L), none, none, none] rfl ?_
        refine ⟨_, rfl, L, rfl, ⟨_, SqL.of (w3.at 0)⟩, fun D3 hD3 => ?_⟩
        refine go_lc (F1 := F3) (walk_list (xs := (d.cs.map (downI n) ++ d.sg.filter fun k => decide (k ≤ n)).map V.int)) Rp.int (fun i => (d.cs.map (downI n) ++ d.sg.filter fun k => decide (k ≤ n)).take i) (by simp; omega) w3.sub hD3 (by simp) (fun F1 H1 pu => SqL.of (pu.same _ _ (w3.at 0))) (fun i y F5 H5 l H' N2 hi pu fD hl1 hy kt kf => ?_) (fun F5 H5 ys pu5 fD5 hl5 pd5 => ?_)
        · obtain ⟨e1, hy⟩ := hy
          subst e1
          rw [List.getElem?_map] at hy
          obtain ⟨m, hm, rfl⟩ := Option.map_eq_some_iff.mp hy
          exact ⟨rfl, _, rfl, .inl ⟨_, rfl, kt _ _ _ _ (Pu.refl pu.sub) rfl (take_snoc hm)⟩⟩
        · rw [List.length_map, take_all] at pd5
          have e5 := pd_eq (f := V.int) (by exact pd5)
          subst e5
          have w4 := w3.lc hD3 pu5 fD5 hl5
          obtain ⟨f1, f2⟩ := last_list (n := n) h.pos
          exact ⟨D3, _, rfl, rfl, SqL.of hl5, fun e => k none H5 w4.pu.same (f2 e), fun m hm hall => k (some m) H5 w4.pu.same (f1 m hm hall)⟩
abbrev s_Numbers_nearest : Stmt := inClass (top 59) 26
abbrev N_Numbers_nearest : List Str := ["self", "n", "below", "above"]
abbrev P_Numbers_nearest : List Str := ["self", "n"]
theorem sc_Numbers_nearest : FnScope N_Numbers_nearest P_Numbers_nearest (defScope s_Numbers_nearest) := ⟨rfl, rfl, rfl, by decide +kernel, rfl, by decide +kernel, by decide +kernel⟩
theorem bn_Numbers_nearest : BindsNo "nearest" "Numbers.nearest" s_Numbers_nearest P_Numbers_nearest := fun _ _ _ _ _ _ us hl => match us, hl with | [_, _], _ => rfl
def firstO (d : NumD) (n : Int) : Option Int := (d.cs.map (upI n) ++ d.sg.filter fun k => decide (n ≤ k)).min?
def lastO (d : NumD) (n : Int) : Option Int := (d.cs.map (downI n) ++ d.sg.filter fun k => decide (k ≤ n)).max?
theorem first_ok {d : NumD} {n : Int} (pos : Pos d.cs) : FirstFrom d n (firstO d n) := by
  obtain ⟨f1, f2⟩ := first_list (n := n) pos
  unfold firstO
  cases h : (d.cs.map (upI n) ++ d.sg.filter fun k => decide (n ≤ k)).min? with
  | none => exact f2 (List.min?_eq_none_iff.mp h)
  | some m =>
    have := List.min?_eq_some_iff.mp h
    exact f1 m this.1 this.2
theorem last_ok {d : NumD} {n : Int} (pos : Pos d.cs) : LastUntil d n (lastO d n) := by
  obtain ⟨f1, f2⟩ := last_list (n := n) pos
  unfold lastO
  cases h : (d.cs.map (downI n) ++ d.sg.filter fun k => decide (k ≤ n)).max? with
  | none => exact f2 (List.max?_eq_none_iff.mp h)
  | some m =>
    have := List.max?_eq_some_iff.mp h
    exact f1 m this.1 this.2
theorem first_uniq {d : NumD} {n : Int} : ∀ {a b : Option Int}, FirstFrom d n a → FirstFrom d n b → a = b
  | none, none, _, _ => rfl
  | none, some b, ha, hb => absurd hb.2.1 (ha b hb.1)
  | some a, none, ha, hb => absurd ha.2.1 (hb a ha.1)
  | some a, some b, ha, hb => congrArg some (Int.le_antisymm (ha.2.2 b hb.1 hb.2.1) (hb.2.2 a ha.1 ha.2.1))
theorem last_uniq {d : NumD} {n : Int} : ∀ {a b : Option Int}, LastUntil d n a → LastUntil d n b → a = b
  | none, none, _, _ => rfl
  | none, some b, ha, hb => absurd hb.2.1 (ha b hb.1)
  | some a, none, ha, hb => absurd ha.2.1 (hb a ha.1)
  | some a, some b, ha, hb => congrArg some (Int.le_antisymm (hb.2.2 a ha.1 ha.2.1) (ha.2.2 b hb.1 hb.2.1))
def pickN (n : Int) : Option Int → Option Int → Option Int
  | none, a => a
  | some b, none => some b
  | some b, some a => if n - b < a - n then some b else some a
theorem nearest_of {d : NumD} {n : Int} {a b : Option Int} (hb : LastUntil d n b) (ha : FirstFrom d n a) : Nearest d n (pickN n b a) := by
  have ex : ∀ {b : Option Int}, LastUntil d n b → (∀ j, memD j d = true → ¬ n ≤ j) → Nearest d n b := fun {b} hb hn => by
    cases b with
    | none =>
      intro j
      cases h : memD j d with
      | false => rfl
      | true =>
        have h1 := hb j h
        have h2 := hn j h
        omega
    | some b =>
      refine ⟨hb.1, fun j hj => ?_⟩
      have h1 := hn j hj
      have h2 := hb.2.2 j hj (by omega)
      have h3 := hb.2.1
      omega
  cases b with
  | none =>
    cases a with
    | none => exact ex (b := none) hb ha
    | some a =>
      refine ⟨ha.1, fun j hj => ?_⟩
      have h1 := hb j hj
      have h2 := ha.2.2 j hj (by omega)
      have h3 := ha.2.1
      omega
  | some b =>
    cases a with
    | none => exact ex (b := some b) hb ha
    | some a =>
      have key : ∀ j, memD j d = true → (j ≤ b ∨ a ≤ j) := fun j hj => by
        by_cases h : j ≤ n
        · exact .inl (hb.2.2 j hj h)
        · exact .inr (ha.2.2 j hj (by omega))
      have h1 := hb.2.1
      have h2 := ha.2.1
      show Nearest d n (if n - b < a - n then some b else some a)
      by_cases h : n - b < a - n
      · rw [if_pos h]
        exact ⟨hb.1, fun j hj => by rcases key j hj with z | z <;> omega⟩
      · rw [if_neg h]
        exact ⟨ha.1, fun j hj => by rcases key j hj with z | z <;> omega⟩
def nearO (d : NumD) (n : Int) : Option Int := pickN n (lastO d n) (firstO d n)
theorem near_ok {d : NumD} {n : Int} (pos : Pos d.cs) : Nearest d n (nearO d n) := nearest_of (last_ok pos) (first_ok pos)
def sp_nearest (C : Addr) : Sp := fun vs H Q _ => ∃ (F : Hp) (v : V) (n : Int) (d : NumD), vs = [v, .int n] ∧ Same F H ∧ (RNum C).rel d v F ∧ NumB d ∧ n.natAbs < bigN ∧ ∀ H', Same H H' → Q (ofI (nearO d n)) H'
theorem ok_nearest (N : KlF K mg "Numbers" CN ["classes", "singles"]) (m_last_until : Met P w K mg base 1 CN "last_until" (sp_last_until CN)) (m_first_from : Met P w K mg base 1 CN "first_from" (sp_first_from CN)) (F : MtF K CN "nearest" "Numbers.nearest" s_Numbers_nearest []) : Met P w K mg base 2 CN "nearest" (sp_nearest CN) := by
  refine F.met N.cl sc_Numbers_nearest bn_Numbers_nearest (fun vs H Q E h => ?_) (fun f cdv A outer s H vs Q E hr h => ?_)
  · obtain ⟨_, _, _, _, rfl, _⟩ := h
    rfl
  · obtain ⟨F, v, n, d, rfl, sF, rn, hb, hn, k⟩ := h
    obtain ⟨a, dx, lc, ls, h⟩ := id rn
    refine ⟨_, (pss_cons (ps_par (i := 2) (j := 3) (by rfl) sc_Numbers_nearest.nd rfl rfl (by decide) rfl rfl (pa_cons (pe_m m_last_until hr (by decide) (pv 0) (pa_cons (pv 1) pa_nil) passL) (pa_cons (pe_m m_first_from hr (by decide) (pv 0) (pa_cons (pv 1) pa_nil) passL) pa_nil)) (by rfl))
    (pss_cons (ps_if (PW.pt (pw_or (pt_cmpR op_isN (pv 2) pe_non (nomark _)) (pw_or1 (pt_cmpR op_isN (pv 3) pe_non (nomark _))))) (pss_one (ps_ret (pe_ifExp (pt_cmpR op_isN (pv 2) pe_non (nomark _)) (pv 3) (pv 2)))) pss_nil)
    (pss_one (ps_ret (pe_ifExp (pt_cmpR op_lt (pe_op op_sub (pv 1) (pv 2)) (pe_op op_sub (pv 3) (pv 1)) (nomark _)) (pv 2) (pv 3)))))), ?_⟩
    refine stp [some v, some (.int n), none, none] rfl fun N1 hN1 => ?_
    refine ⟨_, rfl, a, dx, _, h.ev, sF _ _ h.ob, rfl, _, rfl, F, v, n, d, rfl, sF, rn, hb, hn, fun ob H1 s1 hB => ?_⟩
    refine ⟨_, rfl, a, dx, _, h.ev, s1 _ _ (sF _ _ h.ob), rfl, _, rfl, F, v, n, d, rfl, sF.trans s1, rn, hb, hn, fun oa H2 s2 hA => ?_⟩
    have hk := k H2 (s1.trans s2)
    rw [show nearO d n = pickN n ob oa by unfold nearO; rw [last_uniq (last_ok h.pos) hB, first_uniq (first_ok h.pos) hA]] at hk
    refine ⟨_, _, rfl, ?_⟩
    refine hN1 _ _ ?_
    clear hN1
    refine stp [some v, some (.int n), some (ofI ob), some (ofI oa)] rfl fun N1 hN1 => ?_
    refine ⟨_, rfl, rfl, _, rfl, ?_⟩
    cases ob with
    | none =>
      rw [decide_eq_true (show ofI none = V.non from rfl)]
      refine iteT (iteT ⟨_, rfl, rfl, _, rfl, ?_⟩)
      rw [decide_eq_true (show ofI none = V.non from rfl)]
      exact iteT ⟨_, rfl, hk⟩
    | some b =>
      rw [decide_eq_false (show ¬ ofI (some b) = V.non from fun z => by cases z)]
      refine iteF ⟨_, rfl, rfl, _, rfl, ?_⟩
      cases oa with
      | none =>
        rw [decide_eq_true (show ofI none = V.non from rfl)]
        refine iteT ⟨_, rfl, rfl, _, rfl, ?_⟩
        rw [decide_eq_false (show ¬ ofI (some b) = V.non from fun z => by cases z)]
        exact iteF ⟨_, rfl, hk⟩
      | some a2 =>
        rw [decide_eq_false (show ¬ ofI (some a2) = V.non from fun z => by cases z)]
        refine iteF (hN1 _ _ ?_)
        refine ⟨_, rfl, _, rfl, _, _, rfl, rfl, _, rfl, _, rfl, _, _, rfl, rfl, _, _, rfl, rfl, _, rfl, ?_⟩
        by_cases hc : n - b < a2 - n
        · rw [decide_eq_true hc]
          rw [show pickN n (some b) (some a2) = some b from if_pos hc] at hk
          exact iteT ⟨_, rfl, hk⟩
        · rw [decide_eq_false hc]
          rw [show pickN n (some b) (some a2) = some a2 from if_neg hc] at hk
          exact iteF ⟨_, rfl, hk⟩
abbrev s_Numbers_bool : Stmt := inClass (top 59) 7
abbrev N_Numbers_bool : List Str := ["self"]
abbrev P_Numbers_bool : List Str := ["self"]
theorem sc_Numbers_bool : FnScope N_Numbers_bool P_Numbers_bool (defScope s_Numbers_bool) := ⟨rfl, rfl, rfl, by decide +kernel, rfl, by decide +kernel, by decide +kernel⟩
theorem bn_Numbers_bool : BindsNo "__bool__" "Numbers.__bool__" s_Numbers_bool P_Numbers_bool := fun _ _ _ _ _ _ us hl => match us, hl with | [_], _ => rfl
def sp_Num_bool (C : Addr) : Sp := fun vs H Q _ => ∃ (F : Hp) (v : V) (d : NumD), vs = [v] ∧ Same F H ∧ (RNum C).rel d v F ∧ ∀ H', Same H H' → Q (.bl (!(d.cs.isEmpty && d.sg.isEmpty))) H'
theorem ok_Num_bool (B : Bt mg) (N : KlF K mg "Numbers" CN ["classes", "singles"]) (F : MtF K CN "__bool__" "Numbers.__bool__" s_Numbers_bool []) : Met P w K mg base 1 CN "__bool__" (sp_Num_bool CN) := by
  refine F.met N.cl sc_Numbers_bool bn_Numbers_bool (fun vs H Q E h => ?_) (fun f cdv A outer s H vs Q E hr h => ?_)
  · obtain ⟨_, _, _, rfl, _⟩ := h
    rfl
  · obtain ⟨F, v, d, rfl, sF, ⟨a, dx, lc, ls, h⟩, k⟩ := h
    obtain ⟨_, cv, ec, hlc, pdc⟩ := h.cl
    cases ec
    have hcl : cv.length = d.cs.length := pd_len pdc
    have hk := k H (Same.refl _)
    refine ⟨_, (pss_one (ps_ret (pe_or (pe_cmpR op_gt (pe_callB (call_lenU (K := K)) (by rfl) B.len (by decide +kernel) (pa_cons (k_fld (pv 0) (K := K)) pa_nil)) pe_int (nomark _)) (pe_one (pe_cmpR op_gt (pe_callB (call_lenU (K := K)) (by rfl) B.len (by decide +kernel) (pa_cons (k_fld (pv 0) (K := K)) pa_nil)) pe_int (nomark _)))))), ?_⟩
    refine ⟨_, rfl, a, CN, dx, _, _, h.ev, sF _ _ h.ob, N.cl, N.no _ (by decide), rfl, .inl ⟨lc, cv, rfl, .inl (SqL.of (sF _ _ hlc)), _, _, rfl, rfl, _, rfl, ?_⟩⟩
    cases hc : d.cs with
    | cons c r =>
      rw [hc] at hk hcl
      rw [List.length_cons] at hcl
      rw [decide_eq_true (show ((cv.length : Nat) : Int) > 0 by omega)]
      exact iteT hk
    | nil =>
      rw [hc] at hk hcl
      rw [List.length_nil] at hcl
      rw [decide_eq_false (show ¬ ((cv.length : Nat) : Int) > 0 by omega)]
      refine iteF ⟨_, rfl, a, CN, dx, _, _, h.ev, sF _ _ h.ob, N.cl, N.no _ (by decide), rfl, .inl ⟨ls, _, rfl, .inl (SqL.of (sF _ _ h.sg)), _, _, rfl, rfl, ?_⟩⟩
      cases hs : d.sg with
      | nil =>
        rw [hs] at hk
        exact hk
      | cons x r =>
        rw [hs] at hk
        have e : decide ((((((x :: r).map V.int).length : Nat) : Int)) > 0) = true := decide_eq_true (by simp only [List.length_map, List.length_cons]; omega)
        show Q (.bl (decide ((((((x :: r).map V.int).length : Nat) : Int)) > 0))) H
        rw [e]
        exact hk
/-- what the samples tell -/
structure SampleOk (d : NumD) (zs : List Int) : Prop where
  mem : ∀ z ∈ zs, memD z d = true
  gcd : ∀ p x : Int, (∀ z ∈ zs, p ∣ z - x) → ∀ y, memD y d = true → p ∣ y - x
  bd : ∀ z ∈ zs, z.natAbs < 2 ^ 8001
def sampL (d : NumD) : List Int := d.sg ++ (d.cs.map (·.1) ++ d.cs.map fun c => c.1 + c.2)
theorem sample_ok {d : NumD} (pos : Pos d.cs) (hb : NumB d) : SampleOk d (sampL d) where
  mem := fun z hz => by
    rcases List.mem_append.mp hz with h | h
    · exact mem_cases.mpr (.inl h)
    · rcases List.mem_append.mp h with h | h
      · obtain ⟨c, hc, rfl⟩ := List.mem_map.mp h
        exact mem_cases.mpr (.inr ⟨c, hc, by rw [Int.sub_self]; exact Int.zero_emod _⟩)
      · obtain ⟨c, hc, rfl⟩ := List.mem_map.mp h
        exact mem_cases.mpr (.inr ⟨c, hc, by rw [show c.1 + c.2 - c.1 = c.2 by omega]; exact Int.emod_self⟩)
  gcd := fun p x hall y hy => by
    rcases mem_cases.mp hy with h | ⟨c, hc, h⟩
    · exact hall y (List.mem_append.mpr (.inl h))
    · have h1 := hall c.1 (List.mem_append.mpr (.inr (List.mem_append.mpr (.inl (List.mem_map_of_mem hc)))))
      have h2 := hall (c.1 + c.2) (List.mem_append.mpr (.inr (List.mem_append.mpr (.inr (List.mem_map_of_mem (f := fun c : Int × Int => c.1 + c.2) hc)))))
      obtain ⟨a, ha⟩ := h1
      obtain ⟨b, hb⟩ := h2
      obtain ⟨t, ht⟩ := Int.dvd_of_emod_eq_zero h
      refine ⟨a + (b - a) * t, ?_⟩
      have e1 : c.2 = p * (b - a) := by rw [Int.mul_sub]; omega
      have e2 : p * (a + (b - a) * t) = p * a + p * (b - a) * t := by rw [Int.mul_add, Int.mul_assoc]
      rw [e2, ← e1]
      omega
  bd := fun z hz => by
    have e : (2 : Nat) ^ 8001 = 2 ^ 8000 * 2 := by rw [show (8001 : Nat) = 8000 + 1 from rfl, Nat.pow_add]
    have bN : bigN = 2 ^ 8000 := rfl
    rcases List.mem_append.mp hz with h | h
    · have := hb.sg z h
      rw [bN] at this
      omega
    · rcases List.mem_append.mp h with h | h
      · obtain ⟨c, hc, rfl⟩ := List.mem_map.mp h
        have := (hb.cs c hc).1
        rw [bN] at this
        omega
      · obtain ⟨c, hc, rfl⟩ := List.mem_map.mp h
        obtain ⟨b1, b2⟩ := hb.cs c hc
        rw [bN] at b1 b2
        omega
abbrev s_Numbers_samples : Stmt := inClass (top 59) 10
abbrev N_Numbers_samples : List Str := ["self", "r", "m"]
abbrev P_Numbers_samples : List Str := ["self"]
theorem sc_Numbers_samples : FnScope N_Numbers_samples P_Numbers_samples (defScope s_Numbers_samples) := ⟨rfl, rfl, rfl, by decide +kernel, rfl, by decide +kernel, by decide +kernel⟩
theorem bn_Numbers_samples : BindsNo "samples" "Numbers.samples" s_Numbers_samples P_Numbers_samples := fun _ _ _ _ _ _ us hl => match us, hl with | [_], _ => rfl
def sp_samples (C : Addr) : Sp := fun vs H Q _ => ∃ (F : Hp) (v : V) (d : NumD), vs = [v] ∧ Same F H ∧ (RNum C).rel d v F ∧ NumB d ∧ ∀ r F' H', Pu F H F' H' → (sampL d).length ≤ 1000 → F' r = some (.lst ((sampL d).map V.int)) → Q (.ref r) H'
theorem ok_samples (N : KlF K mg "Numbers" CN ["classes", "singles"]) (F : MtF K CN "samples" "Numbers.samples" s_Numbers_samples []) : Met P w K mg base 1 CN "samples" (sp_samples CN) := by
  refine F.met N.cl sc_Numbers_samples bn_Numbers_samples (fun vs H Q E h => ?_) (fun f cdv A outer s H vs Q E hr h => ?_)
  · obtain ⟨_, _, _, rfl, _⟩ := h
    rfl
  · obtain ⟨F, v, d, rfl, sF, ⟨a, dx, lc, ls, h⟩, hb, k⟩ := h
    obtain ⟨_, cv, ec, hlc, pdc⟩ := h.cl
    cases ec
    have hcl : cv.length = d.cs.length := pd_len pdc
    have hc64 := h.len
    have hs64 := h.lsg
    refine ⟨_, (pss_one (ps_ret (pe_lst (k_star (k_fld (pv 0) (K := K)) (k_star (pe_lc (own := [("r", 1), ("m", 2)]) rfl sc_Numbers_samples.nd (k_il (k_fld (pv 0) (K := K)) (K := K)) (blkOk_by (N := N_Numbers_samples) (sc := defScope s_Numbers_samples) (by decide +kernel)) (fun _ _ _ _ _ => (k_tup (n := 2) rfl (pgs_cons (pg_name (i := 1) sc_Numbers_samples.nd rfl (Or.inl rfl)) (pgs_cons (pg_name (i := 2) sc_Numbers_samples.nd rfl (Or.inl rfl)) pgs_nil)) (K := K))) (fun _ _ _ _ _ => pts_nil) (fun _ _ _ _ _ => (pv 1))) (k_star (pe_lc (own := [("r", 1), ("m", 2)]) rfl sc_Numbers_samples.nd (k_il (k_fld (pv 0) (K := K)) (K := K)) (blkOk_by (N := N_Numbers_samples) (sc := defScope s_Numbers_samples) (by decide +kernel)) (fun _ _ _ _ _ => (k_tup (n := 2) rfl (pgs_cons (pg_name (i := 1) sc_Numbers_samples.nd rfl (Or.inl rfl)) (pgs_cons (pg_name (i := 2) sc_Numbers_samples.nd rfl (Or.inl rfl)) pgs_nil)) (K := K))) (fun _ _ _ _ _ => pts_nil) (fun _ _ _ _ _ => (pe_op op_addU (pv 1) (pv 2)))) pa_nil (K := K)) (K := K)) (K := K))))), ?_⟩
    refine ⟨_, rfl, a, CN, dx, _, _, h.ev, sF _ _ h.ob, N.cl, N.no _ (by decide), rfl, ls, _, rfl, .inr (SqL.of (sF _ _ h.sg)), ?_⟩
    refine ⟨_, rfl, a, CN, dx, _, _, h.ev, sF _ _ h.ob, N.cl, N.no _ (by decide), rfl, lc, rfl, ⟨_, SqL.of (sF _ _ hlc)⟩, fun D hD => ?_⟩
    refine go_lc (F1 := F) (walk_list (xs := cv)) Rp.int (fun i => (d.cs.map (·.1)).take i) (by omega) sF hD (by simp) (fun F1 H1 pu => SqL.of (pu.sub _ _ (pu.ff _ _ hlc))) (fun i y F1 H1 l H' N2 hi pu fD hl1 hy kt kf => ?_) (fun F1 H1 ys pu fD hl1 pd1 => ?_)
    · obtain ⟨e1, hy⟩ := hy
      subst e1
      obtain ⟨c, t, z, u, hc, rfl, ht, rfl, rfl⟩ := pair_at pdc hy
      refine ⟨t, _, rfl, SqT.of (pu.sub _ _ (pu.ff _ _ ht)), rfl, _, _, rfl, _, _, rfl, rfl, rfl, ?_⟩
      exact ⟨_, rfl, kt _ _ _ _ (Pu.refl pu.sub) rfl (take_snoc (by rw [List.getElem?_map, hc]; rfl))⟩
    · rw [hcl, show d.cs.length = (d.cs.map (·.1)).length by simp, take_all] at pd1
      have e1 := pd_eq (f := V.int) (by exact pd1)
      subst e1
      have w1 := (Own.nil (Pu.refl sF)).lc hD pu fD hl1
      refine ⟨D, _, rfl, .inr (SqL.of (w1.at 0)), ?_⟩
      refine ⟨_, rfl, a, CN, dx, _, _, h.ev, w1.sub _ _ (w1.ff _ _ h.ob), N.cl, N.no _ (by decide), rfl, lc, rfl, ⟨_, SqL.of (w1.sub _ _ (w1.ff _ _ hlc))⟩, fun D2 hD2 => ?_⟩
      refine go_lc (F1 := F1) (walk_list (xs := cv)) Rp.int (fun i => (d.cs.map fun c => c.1 + c.2).take i) (by omega) w1.sub hD2 (by simp) (fun F2 H2 pu2 => SqL.of (pu2.sub _ _ (pu2.ff _ _ (w1.ff _ _ hlc)))) (fun i y F3 H3 l H' N2 hi pu3 fD3 hl3 hy kt kf => ?_) (fun F3 H3 ys pu3 fD3 hl3 pd3 => ?_)
      · obtain ⟨e1, hy⟩ := hy
        subst e1
        obtain ⟨c, t, z, u, hc, rfl, ht, rfl, rfl⟩ := pair_at pdc hy
        refine ⟨t, _, rfl, SqT.of (pu3.sub _ _ (pu3.ff _ _ (w1.ff _ _ ht))), rfl, _, _, rfl, _, _, rfl, rfl, rfl, ?_⟩
        exact ⟨_, rfl, _, rfl, .inl ⟨_, _, rfl, rfl, kt _ _ _ _ (Pu.refl pu3.sub) rfl (take_snoc (by rw [List.getElem?_map, hc]; rfl))⟩⟩
      · rw [hcl, show d.cs.length = (d.cs.map fun c => c.1 + c.2).length by simp, take_all] at pd3
        have e3 := pd_eq (f := V.int) (by exact pd3)
        subst e3
        have w2 := w1.lc hD2 pu3 fD3 hl3
        refine ⟨D2, _, rfl, .inr (SqL.of hl3), sz (by simp; omega), fun L hL => ?_⟩
        have eL : d.sg.map V.int ++ ((d.cs.map (·.1)).map V.int ++ ((d.cs.map fun c => c.1 + c.2).map V.int ++ [])) = (d.sg ++ (d.cs.map (·.1) ++ d.cs.map fun c => c.1 + c.2)).map V.int := by rw [List.append_nil, List.map_append, List.map_append]
        rw [eL]
        have w3 := w2.add (o := .lst ((d.sg ++ (d.cs.map (·.1) ++ d.cs.map fun c => c.1 + c.2)).map V.int)) hL
        exact k L _ _ w3.pu (by unfold sampL; simp; omega) upd_same
end
end TR

/-! part A12 -/
namespace TR
open PySem PySem.Spec PyProof.Rows L2 G
/-- an exception of the class at C goes out, its field told -/
def Rz (F H0 : Hp) (C : Addr) (fld : Str) (v : V) (E : XK) : Prop := ∀ (F' H' : Hp) (d : Addr), Pu F H0 F' H' → H' d = some (.xd [(fld, v)]) → E (.ref C) (some d) H'
/-- the names so far -/
structure StOk (ss : List V) (st : List Str) : Prop where
  pre : ss.take st.length = st.map V.str
  le : st.length ≤ ss.length
  ok : ∀ z ∈ st, nameOk z = true ∧ z.length ≤ 1000
  nd : st.Nodup
/-- a value that is no name -/
def BadName (K : PySem.W.Frag) (F : Hp) (v : V) : Prop := (∃ z : Str, v = .str z ∧ z.length ≤ 1000 ∧ nameOk z = false) ∨ NotStr K F v
/-- a value that is none of the stations -/
def NoSt (K : PySem.W.Frag) (F : Hp) (st : List Str) (v : V) : Prop := (∃ z : Str, v = .str z ∧ z ∉ st) ∨ NotStr K F v
theorem cut_take {xs : List V} {i : Nat} (h : i ≤ xs.length) : cutV xs none (some (i : Int)) = xs.take i := by
  have e1 : HT.sIx xs.length 0 none = 0 := rfl
  have e2 : HT.sIx xs.length xs.length (some (i : Int)) = i := by
    rw [HT.sIx_nat]
    omega
  unfold cutV
  rw [e1, e2]
  simp
section
variable {P : Program} {w : World} {K : PySem.W.Frag} {mg : Str → Option Value} {base : Heap} {CT CN CP EN ET EA ES : Addr}
abbrev s_Plan_init : Stmt := inClass (top 71) 0
abbrev N_Plan_init : List Str := ["self", "turns", "stations", "arrows", "begin", "end", "at", "name", "arrow"]
abbrev P_Plan_init : List Str := ["self", "turns", "stations", "arrows", "begin", "end"]
theorem sc_Plan_init : FnScope N_Plan_init P_Plan_init (defScope s_Plan_init) := ⟨rfl, rfl, rfl, by decide +kernel, rfl, by decide +kernel, by decide +kernel⟩
theorem bn_Plan_init : BindsNo "__init__" "Plan.__init__" s_Plan_init P_Plan_init := fun _ _ _ _ _ _ us hl => match us, hl with | [_, _, _, _, _, _], _ => rfl
def sp_Plan_init (K : PySem.W.Frag) (CT CN CP EN ET EA ES : Addr) : Sp := fun vs H Q E => ∃ (F H0 : Hp) (x dx ls la : Addr) (tv bv ev : V) (ks : Kinds) (ss as : List V) (st : List Str) (ds : List ArrD), vs = [.ref x, tv, .ref ls, .ref la, bv, ev] ∧ New CP F H0 H x dx ∧ (RTurns CT).rel ks tv F ∧
  F ls = some (.lst ss) ∧ F la = some (.lst as) ∧ ss.length ≤ 100 ∧ as.length ≤ 100 ∧ StOk ss st ∧ Paired (fun d v => (RArr CN).rel d v F ∧ arrGood ks st d) ds (as.take ds.length) ∧ ds.length ≤ as.length ∧
  ((∃ y, ss[st.length]? = some y ∧ BadName K F y ∧ Rz F H0 EN "name" y E) ∨
   (∃ z, ss[st.length]? = some (.str z) ∧ z ∈ st ∧ Rz F H0 ET "name" (.str z) E) ∨
   (st.length = ss.length ∧ ∃ y, as[ds.length]? = some y ∧ ArrBad K CN ks st y F ∧ Rz F H0 EA "index" (.int ds.length) E) ∨
   (st.length = ss.length ∧ ds.length = as.length ∧ NoSt K F st bv ∧ Rz F H0 ES "name" bv E) ∨
   (st.length = ss.length ∧ ds.length = as.length ∧ (∃ b, bv = .str b ∧ b ∈ st) ∧ NoSt K F st ev ∧ Rz F H0 ES "name" ev E) ∨
   (st.length = ss.length ∧ ds.length = as.length ∧ (∃ b, bv = .str b ∧ b ∈ st) ∧ (∃ b, ev = .str b ∧ b ∈ st) ∧
     ∀ F' H' dx ts ta, Pu F H0 F' H' → F' x = some (.ins CP dx [("turns", tv), ("stations", .ref ts), ("arrows", .ref ta), ("begin", bv), ("end", ev)]) → F' ts = some (.tup ss) → F' ta = some (.tup as) → Q .non H'))
theorem ok_Plan_init (B : Bt mg) {q1 q2 q3 q4 : Str} {st1 st2 st3 st4 : Stmt} (PL : KlF K mg "Plan" CP ["turns", "stations", "arrows", "begin", "end"]) (c_is_name : Cal P w K mg base 1 "is_name" (sp_is_name K)) (c_is_arrow : Cal P w K mg base 2 "is_arrow" (sp_is_arrow K CT CN))
    (x_BadName : XTxt P K mg "BadName" q1 "name" st1 EN) (x_TwiceNamed : XTxt P K mg "TwiceNamed" q2 "name" st2 ET) (x_BadArrow : XTxt P K mg "BadArrow" q3 "index" st3 EA) (x_NoStation : XTxt P K mg "NoStation" q4 "name" st4 ES)
    (F : MkF K mg "Plan" CP "Plan.__init__" s_Plan_init []) : Mak P w K mg base 3 "Plan" CP (sp_Plan_init K CT CN CP EN ET EA ES) := by
  refine F.mak sc_Plan_init bn_Plan_init (fun vs H Q E h => ?_) (fun f cdv A outer s H vs Q E hr h => ?_)
  · obtain ⟨_, _, _, _, _, _, _, _, _, _, _, _, _, _, rfl, _⟩ := h
    rfl
  · obtain ⟨F, H0, x, dx, ls, la, tv, bv, ev, ks, ss, as, st, ds, rfl, nw, rt, hls, hla, hs100, ha100, so, pda, hdl, h⟩ := h
    have w0 := nw.own
    refine ⟨_, (pss_cons (ps_fld (pv 0) (pv 1) rfl)
    (pss_cons (ps_fld (pv 0) (pe_callTy (k_tuple (K := K)) (by rfl) B.tuple (by decide +kernel) (pa_cons (pv 2) pa_nil)) rfl)
    (pss_cons (ps_fld (pv 0) (pe_callTy (k_tuple (K := K)) (by rfl) B.tuple (by decide +kernel) (pa_cons (pv 3) pa_nil)) rfl)
    (pss_cons (ps_fld (pv 0) (pv 4) rfl)
    (pss_cons (ps_fld (pv 0) (pv 5) rfl)
    (pss_cons (ps_for (passes_of rfl) rfl (pi_enumT (by rfl) B.enumerate (pa_cons (k_fld (pv 0) (K := K)) pa_nil) (K := K)) (k_tup (n := 2) rfl (pgs_cons (pg_name (i := 6) sc_Plan_init.nd rfl (Or.inl rfl)) (pgs_cons (pg_name (i := 7) sc_Plan_init.nd rfl (Or.inl rfl)) pgs_nil)) (K := K))
    (pss_cons (ps_if (pt_not (pt_val (pe_c c_is_name hr (by decide) (pa_cons (pv 7) pa_nil) passL))) (pss_one (ps_x rfl x_BadName hr (takes_of rfl rfl rfl rfl) (pa_cons (pv 7) pa_nil))) pss_nil)
    (pss_one (ps_if (pt_cmpR (op_inU (K := K)) (pv 7) (pe_slice (k_sl_tup (K := K)) (k_fld (pv 0) (K := K)) po_none (po_some (pv 6))) (by rfl)) (pss_one (ps_x rfl x_TwiceNamed hr (takes_of rfl rfl rfl rfl) (pa_cons (pv 7) pa_nil))) pss_nil))))
    (pss_cons (ps_for (passes_of rfl) rfl (pi_enumT (by rfl) B.enumerate (pa_cons (k_fld (pv 0) (K := K)) pa_nil) (K := K)) (k_tup (n := 2) rfl (pgs_cons (pg_name (i := 6) sc_Plan_init.nd rfl (Or.inl rfl)) (pgs_cons (pg_name (i := 8) sc_Plan_init.nd rfl (Or.inl rfl)) pgs_nil)) (K := K))
    (pss_one (ps_if (pt_not (pt_val (pe_c c_is_arrow hr (by decide) (pa_cons (pv 8) (pa_cons (pv 1) (pa_cons (k_fld (pv 0) (K := K)) pa_nil))) passL))) (pss_one (ps_x rfl x_BadArrow hr (takes_of rfl rfl rfl rfl) (pa_cons (pv 6) pa_nil))) pss_nil)))
    (pss_one (ps_for (passes_of rfl) rfl (k_it (pe_tup (pa_cons (pv 4) (pa_cons (pv 5) pa_nil))) (K := K)) (pg_name (i := 7) sc_Plan_init.nd rfl (Or.inl rfl))
    (pss_one (ps_if (PW.pt (pw_or (pt_not (pt_val (pe_callB (k_isi (K := K)) (by rfl) B.isinstance (by decide +kernel) (pa_cons (pv 7) (pa_cons (pe_ty (n := "str") B.str) pa_nil))))) (pw_or1 (pt_cmpR (op_niU (K := K)) (pv 7) (k_fld (pv 0) (K := K)) (by rfl))))) (pss_one (ps_x rfl x_NoStation hr (takes_of rfl rfl rfl rfl) (pa_cons (pv 7) pa_nil))) pss_nil))))))))))), ?_⟩
    refine ⟨_, rfl, _, rfl, st_fld w0 PL.cl (PL.no _ (by decide)) 0 [] rfl rfl (by decide +kernel) (by decide) fun w1 => ?_⟩
    refine ⟨_, rfl, ls, ss, rfl, .inl ⟨SqL.of (w1.sub _ _ hls), fun ts hts => ?_⟩⟩
    have w2 := w1.add (o := .tup ss) hts
    have s2 := Same.new (o := .tup ss) (w1.sub.free hts)
    refine ⟨_, rfl, st_fld w2 PL.cl (PL.no _ (by decide)) 0 ["turns"] rfl rfl (by decide +kernel) (by decide) fun w3 => ?_⟩
    refine ⟨_, rfl, la, as, rfl, .inl ⟨SqL.of (w3.sub _ _ (w3.ff _ _ hla)), fun ta hta => ?_⟩⟩
    have w4 := w3.add (o := .tup as) hta
    have s4 := Same.new (o := .tup as) (w3.sub.free hta)
    refine ⟨_, rfl, st_fld w4 PL.cl (PL.no _ (by decide)) 0 ["turns", "stations"] rfl rfl (by decide +kernel) (by decide) fun w5 => ?_⟩
    refine ⟨_, rfl, _, rfl, st_fld w5 PL.cl (PL.no _ (by decide)) 0 ["turns", "stations", "arrows"] rfl rfl (by decide +kernel) (by decide) fun w6 => ?_⟩
    refine ⟨_, rfl, _, rfl, st_fld w6 PL.cl (PL.no _ (by decide)) 0 ["turns", "stations", "arrows", "begin"] rfl rfl (by decide +kernel) (by decide) fun w7 => ?_⟩
    have hts2 := s4 _ _ (show upd F ts (.tup ss) ts = some (.tup ss) from upd_same)
    have hta2 : upd (upd F ts (.tup ss)) ta (.tup as) ta = some (.tup as) := upd_same
    generalize upd (upd F ts (.tup ss)) ta (.tup as) = F2 at w7 hts2 hta2
    have hget : ∀ i, i < st.length → ∃ z, st[i]? = some z ∧ ss[i]? = some (.str z) := fun i hi => by
      have e : (ss.take st.length)[i]? = (st.map V.str)[i]? := by rw [so.pre]
      rw [List.getElem?_take_of_lt hi, List.getElem?_map, List.getElem?_eq_getElem hi] at e
      exact ⟨st[i], List.getElem?_eq_getElem hi, e⟩
    have htake : ∀ i, i ≤ st.length → ss.take i = (st.take i).map V.str := fun i hi => by
      have e : (ss.take st.length).take i = (st.map V.str).take i := by rw [so.pre]
      rw [List.take_take, Nat.min_eq_left hi, ← List.map_take] at e
      exact e
    -- the stations
    refine ⟨_, rfl, x, CP, dx, _, _, rfl, w7.at 0, PL.cl, PL.no _ (by decide), rfl, ts, ss, rfl, SqT.of (w7.sub _ _ hts2), ?_⟩
    refine for_it (walk_enumT (xs := ss)) (fun i σ H' => ∃ (n m : Option V), Own F H0 F2 H' [(x, .ins CP dx [("turns", tv), ("stations", .ref ts), ("arrows", .ref ta), ("begin", bv), ("end", ev)])] ∧ i ≤ st.length ∧ σ = [some (.ref x), some tv, some (.ref ls), some (.ref la), some bv, some ev, n, m, none]) ⟨none, none, w7, Nat.zero_le _, rfl⟩ (fun i σ H' _ ⟨n, m, w8, _⟩ => SqT.of (w8.sub _ _ hts2)) ?_ ?_
    · rintro i y σ H' H'' hi ⟨n0, m0, w8, hil, rfl⟩ ⟨T, x1, x2, rfl, hT, rfl, e1, hy⟩
      cases e1
      replace hy : ss[i]? = some x2 := hy
      have w9 := w8.tmp (Same.new (o := .tup [.int (i : Nat), x2]) hT)
      refine ⟨T, _, rfl, SqT.of upd_same, rfl, _, _, rfl, _, _, rfl, rfl, ?_⟩
      have w10 : ∀ H4, Same (upd H' T (.tup [.int (i : Nat), x2])) H4 → Own F H0 F2 H4 [(x, .ins CP dx [("turns", tv), ("stations", .ref ts), ("arrows", .ref ta), ("begin", bv), ("end", ev)])] := fun H4 s4 => w9.tmp s4
      have at0 : ∀ H4, Own F H0 F2 H4 [(x, .ins CP dx [("turns", tv), ("stations", .ref ts), ("arrows", .ref ta), ("begin", bv), ("end", ev)])] → H4 x = some (.ins CP dx [("turns", tv), ("stations", .ref ts), ("arrows", .ref ta), ("begin", bv), ("end", ev)]) := fun H4 w => w.at 0
      have nfull : ¬(HT.sIx ss.length 0 none = 0 ∧ HT.sIx ss.length ss.length (some (i : Int)) = ss.length) := fun q => by
        have := q.2
        rw [HT.sIx_nat] at this
        omega
      by_cases hlt : i < st.length
      · obtain ⟨z, hz, hsz⟩ := hget i hlt
        rw [hsz] at hy
        cases hy
        have hok := so.ok z (List.mem_of_getElem? hz)
        refine ⟨_, rfl, .str z, rfl, .inl ⟨z, rfl, hok.2, fun H4 s4 => ?_⟩⟩
        rw [hok.1]
        refine ⟨_, rfl, ?_⟩
        have w11 := w10 _ s4
        refine ⟨_, rfl, _, rfl, x, CP, dx, _, _, rfl, at0 _ w11, PL.cl, PL.no _ (by decide), rfl, _, rfl, _, rfl, ts, ss, rfl, SqT.of (w11.sub _ _ hts2), nfull, fun c hc => ?_⟩
        rw [cut_take (by omega), htake i hil]
        refine .inr ⟨c, _, rfl, .inr (SqT.of upd_same), rfl, flat_strs _, ?_⟩
        have w12 := w11.tmp (Same.new (o := .tup ((st.take i).map V.str)) hc)
        refine ⟨_, rfl, ?_⟩
        show (if inV (.str z) ((st.take i).map V.str) = true then _ else _ : Prop)
        rw [inV_strs, decide_eq_false (fun q => by
          obtain ⟨j, hj⟩ := List.getElem?_of_mem q
          have hji : j < i := by
            by_cases h : j < i
            · exact h
            · rw [List.getElem?_eq_none (by simp; omega)] at hj; cases hj
          rw [List.getElem?_take_of_lt hji] at hj
          have := nd_ix so.nd hj hz
          omega)]
        exact ⟨_, _, w12, hlt, rfl⟩
      · have hie : i = st.length := by omega
        subst hie
        rcases h with ⟨y, hy2, hb, rz⟩ | ⟨z, hy2, hz, rz⟩ | ⟨hl, _⟩ | ⟨hl, _⟩ | ⟨hl, _⟩ | ⟨hl, _⟩
        · rw [hy] at hy2
          cases hy2
          have raise : ∀ H4, Own F H0 F2 H4 [(x, .ins CP dx [("turns", tv), ("stations", .ref ts), ("arrows", .ref ta), ("begin", bv), ("end", ev)])] → ∀ d, H4 d = none → E (.ref EN) (some d) (upd H4 d (.xd [("name", x2)])) := fun H4 w d hd => rz _ _ d (w.tmp (Same.new (o := .xd [("name", x2)]) hd)).pu upd_same
          rcases hb with ⟨z, rfl, hz, hn⟩ | hn
          · refine ⟨_, rfl, .str z, rfl, .inl ⟨z, rfl, hz, fun H4 s4 => ?_⟩⟩
            rw [hn]
            exact ⟨_, rfl, _, rfl, _, rfl, fun d hd => raise _ (w10 _ s4) d hd⟩
          · exact ⟨_, rfl, x2, rfl, .inr ⟨NotStr.mono (w9.ff.trans w9.sub) hn, fun H4 s4 => ⟨_, rfl, _, rfl, _, rfl, fun d hd => raise _ (w10 _ s4) d hd⟩⟩⟩
        · rw [hy] at hy2
          cases hy2
          have hok := so.ok z hz
          refine ⟨_, rfl, .str z, rfl, .inl ⟨z, rfl, hok.2, fun H4 s4 => ?_⟩⟩
          rw [hok.1]
          refine ⟨_, rfl, ?_⟩
          have w11 := w10 _ s4
          refine ⟨_, rfl, _, rfl, x, CP, dx, _, _, rfl, at0 _ w11, PL.cl, PL.no _ (by decide), rfl, _, rfl, _, rfl, ts, ss, rfl, SqT.of (w11.sub _ _ hts2), nfull, fun c hc => ?_⟩
          rw [cut_take (by omega), htake _ hil]
          refine .inr ⟨c, _, rfl, .inr (SqT.of upd_same), rfl, flat_strs _, ?_⟩
          have w12 := w11.tmp (Same.new (o := .tup ((st.take st.length).map V.str)) hc)
          refine ⟨_, rfl, ?_⟩
          show (if inV (.str z) ((st.take st.length).map V.str) = true then _ else _ : Prop)
          rw [inV_strs, decide_eq_true (by rw [take_all]; exact hz)]
          exact iteT ⟨_, rfl, _, rfl, fun d hd => rz _ _ d (w12.tmp (Same.new (o := .xd [("name", .str z)]) hd)).pu upd_same⟩
        · exact absurd hl (by omega)
        · exact absurd hl (by omega)
        · exact absurd hl (by omega)
        · exact absurd hl (by omega)
    · rintro σ H' ⟨n0, m0, w8, hil, rfl⟩
      have hsl : st.length = ss.length := by have := so.le; omega
      have hss : ss = st.map V.str := by
        have := so.pre
        rw [hsl, take_all] at this
        exact this
      have rt2 := (RTurns CT).mono w7.ff rt
      have hts3 : F2 ts = some (.tup (st.map V.str)) := by rw [← hss]; exact hts2
      have noend : ∀ y, ss[st.length]? = some y → False := fun y hy => by rw [hsl, List.getElem?_eq_none (Nat.le_refl _)] at hy; cases hy
      -- the arrows
      refine ⟨_, rfl, x, CP, dx, _, _, rfl, w8.at 0, PL.cl, PL.no _ (by decide), rfl, ta, as, rfl, SqT.of (w8.sub _ _ hta2), ?_⟩
      refine for_it (walk_enumT (xs := as)) (fun i σ H' => ∃ (n m k : Option V), Own F H0 F2 H' [(x, .ins CP dx [("turns", tv), ("stations", .ref ts), ("arrows", .ref ta), ("begin", bv), ("end", ev)])] ∧ i ≤ ds.length ∧ σ = [some (.ref x), some tv, some (.ref ls), some (.ref la), some bv, some ev, n, m, k]) ⟨_, _, none, w8, Nat.zero_le _, rfl⟩ (fun i σ H' _ ⟨n, m, k, w9, _⟩ => SqT.of (w9.sub _ _ hta2)) ?_ ?_
      · rintro i y σ H' H'' hi ⟨n1, m1, k1, w9, hil, rfl⟩ ⟨T, x1, x2, rfl, hT, rfl, e1, hy⟩
        cases e1
        replace hy : as[i]? = some x2 := hy
        have w10 := w9.tmp (Same.new (o := .tup [.int (i : Nat), x2]) hT)
        refine ⟨T, _, rfl, SqT.of upd_same, rfl, _, _, rfl, _, _, rfl, rfl, ?_⟩
        refine ⟨_, rfl, _, rfl, _, rfl, x, CP, dx, _, _, rfl, w10.at 0, PL.cl, PL.no _ (by decide), rfl, F2, x2, tv, .ref ts, ks, st, ts, rfl, w10.sub, rt2, rfl, hts3, ?_⟩
        by_cases hlt : i < ds.length
        · obtain ⟨d, _, rd, gd⟩ := pd_get pda (show (as.take ds.length)[i]? = some x2 by rw [List.getElem?_take_of_lt hlt]; exact hy)
          exact .inr ⟨d, (RArr CN).mono w10.ff rd, gd, fun H4 s4 => ⟨_, rfl, _, _, _, w10.tmp s4, hlt, rfl⟩⟩
        · have hie : i = ds.length := by omega
          subst hie
          rcases h with ⟨y, hy2, _⟩ | ⟨z, hy2, _⟩ | ⟨_, y, hy2, hb, rz⟩ | ⟨_, hl, _⟩ | ⟨_, hl, _⟩ | ⟨_, hl, _⟩
          · exact (noend _ hy2).elim
          · exact (noend _ hy2).elim
          · rw [hy] at hy2
            cases hy2
            refine .inl ⟨ArrBad.mono w10.ff hb, fun H4 s4 => ⟨_, rfl, _, rfl, _, rfl, fun d hd => ?_⟩⟩
            exact rz _ _ d ((w10.tmp s4).tmp (Same.new (o := .xd [("index", .int ds.length)]) hd)).pu upd_same
          · exact absurd hl (by omega)
          · exact absurd hl (by omega)
          · exact absurd hl (by omega)
      · rintro σ H' ⟨n1, m1, k1, w9, hil, rfl⟩
        have noarr : ∀ y, as[ds.length]? = some y → False := fun y hy => by
          have := (List.getElem?_eq_some_iff.mp hy).1
          omega
        obtain ⟨r, hr2, hgood, hbad, hdone⟩ : ∃ r : Nat, r ≤ 2 ∧ (∀ (i : Nat) (v : V), i < r → [bv, ev][i]? = some v → ∃ b, v = .str b ∧ b ∈ st) ∧ (∀ v, [bv, ev][r]? = some v → NoSt K F st v ∧ Rz F H0 ES "name" v E) ∧
            (r = 2 → ∀ F' H' dx ts ta, Pu F H0 F' H' → F' x = some (.ins CP dx [("turns", tv), ("stations", .ref ts), ("arrows", .ref ta), ("begin", bv), ("end", ev)]) → F' ts = some (.tup ss) → F' ta = some (.tup as) → Q .non H') := by
          rcases h with ⟨y, hy2, _⟩ | ⟨z, hy2, _⟩ | ⟨_, y, hy2, _⟩ | ⟨_, _, hb, rz⟩ | ⟨_, _, hb, he, rz⟩ | ⟨_, _, hb, he, k⟩
          · exact (noend _ hy2).elim
          · exact (noend _ hy2).elim
          · exact (noarr _ hy2).elim
          · exact ⟨0, by omega, fun i v h => by omega, fun v hv => by cases hv; exact ⟨hb, rz⟩, fun h => by cases h⟩
          · refine ⟨1, by omega, fun i v h hv => ?_, fun v hv => by cases hv; exact ⟨he, rz⟩, fun h => by cases h⟩
            obtain rfl : i = 0 := by omega
            cases hv
            exact hb
          · refine ⟨2, by omega, fun i v h hv => ?_, (fun v hv => by cases hv), fun _ => k⟩
            rcases (by omega : i = 0 ∨ i = 1) with rfl | rfl
            · cases hv; exact hb
            · cases hv; exact he
        -- begin and end
        refine ⟨_, rfl, _, rfl, sz (n := 2) (by decide), fun c hc => ⟨c, rfl, ⟨_, SqT.of upd_same⟩, ?_⟩⟩
        have w10 := w9.new (o := .tup [bv, ev]) hc
        refine for_it (walk_tup (xs := [bv, ev])) (fun i σ H' => ∃ (n m k : Option V), Own F H0 F2 H' ((c, .tup [bv, ev]) :: [(x, .ins CP dx [("turns", tv), ("stations", .ref ts), ("arrows", .ref ta), ("begin", bv), ("end", ev)])]) ∧ i ≤ r ∧ σ = [some (.ref x), some tv, some (.ref ls), some (.ref la), some bv, some ev, n, m, k]) ⟨_, _, _, w10, Nat.zero_le _, rfl⟩ (fun i σ H' _ ⟨n, m, k, w11, _⟩ => SqT.of (w11.at 0)) ?_ ?_
        · rintro i y σ H' H'' hi ⟨n2, m2, k2, w11, hir, rfl⟩ ⟨e1, hy⟩
          subst e1
          by_cases hlt : i < r
          · obtain ⟨b, rfl, hb⟩ := hgood i y hlt hy
            refine ⟨_, rfl, _, _, _, _, _, rfl, ClsV.ty _, TyX.base (TyOf.str _), kit_ty (r := true) (by decide +kernel), ?_⟩
            refine ⟨_, rfl, ?_⟩
            refine iteF ⟨_, rfl, _, rfl, x, CP, dx, _, _, rfl, w11.at 1, PL.cl, PL.no _ (by decide), rfl, .inr ⟨ts, _, rfl, .inr (SqT.of (w11.sub _ _ hts3)), rfl, flat_strs st, _, rfl, ?_⟩⟩
            show (if (!inV (.str b) (st.map V.str)) = true then _ else _ : Prop)
            rw [inV_strs, decide_eq_true hb]
            exact iteF ⟨_, _, _, w11, hlt, rfl⟩
          · have hie : i = r := by omega
            subst hie
            obtain ⟨hno, rz⟩ := hbad y hy
            rcases hno with ⟨b, rfl, hb⟩ | ⟨ty, hty, hk⟩
            · refine ⟨_, rfl, _, _, _, _, _, rfl, ClsV.ty _, TyX.base (TyOf.str _), kit_ty (r := true) (by decide +kernel), ?_⟩
              refine ⟨_, rfl, ?_⟩
              refine iteF ⟨_, rfl, _, rfl, x, CP, dx, _, _, rfl, w11.at 1, PL.cl, PL.no _ (by decide), rfl, .inr ⟨ts, _, rfl, .inr (SqT.of (w11.sub _ _ hts3)), rfl, flat_strs st, _, rfl, ?_⟩⟩
              show (if (!inV (.str b) (st.map V.str)) = true then _ else _ : Prop)
              rw [inV_strs, decide_eq_false hb]
              exact iteT ⟨_, rfl, _, rfl, fun d hd => rz _ _ d (w11.tmp (Same.new (o := .xd [("name", .str b)]) hd)).pu upd_same⟩
            · refine ⟨_, rfl, _, _, _, _, _, rfl, ClsV.ty _, TyX.mono (w11.ff.trans w11.sub) hty, hk, ?_⟩
              refine ⟨_, rfl, ?_⟩
              exact iteT ⟨_, rfl, _, rfl, fun d hd => rz _ _ d (w11.tmp (Same.new (o := .xd [("name", y)]) hd)).pu upd_same⟩
        · rintro σ H' ⟨n2, m2, k2, w11, hir, rfl⟩
          have w12 := w11.fix 1
          exact hdone (by simp at hir; omega) _ _ dx ts ta w12.pu upd_same ((w11.ext 1) _ _ hts2) ((w11.ext 1) _ _ hta2)
end
end TR

/-! part A13 -/
namespace TR
open PySem PySem.Spec PyProof.Rows L2 G
structure PlanD where
  ks : Kinds
  st : List Str
  ds : List ArrD
  b : Str
  e : Str
structure PlanAt (CT CN CP : Addr) (d : PlanD) (v : V) (F : Hp) (a dx ts ta : Addr) (tv : V) : Prop where
  ev : v = .ref a
  ob : F a = some (.ins CP dx [("turns", tv), ("stations", .ref ts), ("arrows", .ref ta), ("begin", .str d.b), ("end", .str d.e)])
  tu : (RTurns CT).rel d.ks tv F
  st : F ts = some (.tup (d.st.map V.str))
  ar : (Rp.tup (RArr CN)).rel d.ds (.ref ta) F
  gd : ∀ x ∈ d.ds, arrGood d.ks d.st x
  la : d.ds.length ≤ 100
def RPlan (CT CN CP : Addr) : Rp PlanD := ⟨fun d v F => ∃ a dx ts ta tv, PlanAt CT CN CP d v F a dx ts ta tv,
  fun s ⟨a, dx, ts, ta, tv, h⟩ => ⟨a, dx, ts, ta, tv, h.ev, s _ _ h.ob, (RTurns CT).mono s h.tu, s _ _ h.st, (Rp.tup (RArr CN)).mono s h.ar, h.gd, h.la⟩⟩
/-- what stands for a step of a run: an arrow's number and a member, or nothing of that kind -/
inductive PairV (K : PySem.W.Frag) : V → Hp → Option (Int × Int) → Prop
  | ok {a : Addr} {i n : Int} {F : Hp} (h : Sq2 F a [.int i, .int n]) : PairV K (.ref a) F (some (i, n))
  | ty {v : V} {t : Value} {F : Hp} (h : TyX K F v t) (k : PySem.W.kitAny K t [.type "list", .type "tuple"] = some false) : PairV K v F none
  | len {a : Addr} {xs : List V} {F : Hp} (h : Sq2 F a xs) (n : xs.length ≠ 2) : PairV K (.ref a) F none
  | nint {a : Addr} {x y : V} {t : Value} {b : Bool} {F : Hp} (h : Sq2 F a [x, y]) (hx : TyX K F x t) (k : PySem.W.kitOne K t (.type "bool") = some b) (k2 : b = true ∨ PySem.W.kitOne K t (.type "int") = some false) : PairV K (.ref a) F none
theorem PairV.mono {K : PySem.W.Frag} {F F' : Hp} {v : V} {p : Option (Int × Int)} (s : Same F F') (h : PairV K v F p) : PairV K v F' p := by
  cases h with
  | ok h => exact .ok (h.mono s)
  | ty h k => exact .ty (TyX.mono s h) k
  | len h n => exact .len (h.mono s) n
  | nint h hx k k2 => exact .nint (h.mono s) (TyX.mono s hx) k k2
def arrAt (ds : List ArrD) (i : Int) : Option ArrD := if 0 ≤ i then ds[i.toNat]? else none
def takesB (ds : List ArrD) (here : Str) : Option (Int × Int) → Bool
  | none => false
  | some p => match arrAt ds p.1 with
    | none => false
    | some a => decide (a.one = here) && memD p.2 a.num
theorem takesB_some {ds : List ArrD} {here : Str} {i n : Int} {a : ArrD} (h : arrAt ds i = some a) : takesB ds here (some (i, n)) = (decide (a.one = here) && memD n a.num) := by
  show (match arrAt ds i with
    | none => false
    | some a => decide (a.one = here) && memD n a.num) = _
  rw [h]
theorem takesB_none {ds : List ArrD} {here : Str} {i n : Int} (h : arrAt ds i = none) : takesB ds here (some (i, n)) = false := by
  show (match arrAt ds i with
    | none => false
    | some a => decide (a.one = here) && memD n a.num) = _
  rw [h]
theorem arrAt_lt {ds : List ArrD} {i : Int} (h : 0 ≤ i ∧ i < ds.length) : ∃ a, arrAt ds i = some a ∧ ds[i.toNat]? = some a := by
  have hl : i.toNat < ds.length := by omega
  exact ⟨ds[i.toNat], by unfold arrAt; rw [if_pos h.1, List.getElem?_eq_getElem hl], List.getElem?_eq_getElem hl⟩
theorem arrAt_ge {ds : List ArrD} {i : Int} (h : ¬ (0 ≤ i ∧ i < ds.length)) : arrAt ds i = none := by
  unfold arrAt
  split
  · exact List.getElem?_eq_none (by omega)
  · rfl
section
variable {P : Program} {w : World} {K : PySem.W.Frag} {mg : Str → Option Value} {base : Heap} {CT CN CP EN ET EA ES CR : Addr}
theorem ty_sq2 {H : Hp} {a : Addr} {xs : List V} (h : Sq2 H a xs) : ∃ t, TyX K H (.ref a) t ∧ PySem.W.kitAny K t [.type "list", .type "tuple"] = some true := by
  rcases h with h | h
  · exact ⟨_, TyX.base (TyOf.lst h), kitAny_cons (kit_ty (r := true) (by decide +kernel)) (fun h => by cases h) (fun _ => rfl)⟩
  · exact ⟨_, TyX.base (TyOf.tup h), kitAny_cons (kit_ty (r := false) (by decide +kernel)) (fun _ => kitAny_cons (kit_ty (r := true) (by decide +kernel)) (fun h => by cases h) (fun _ => rfl)) (fun h => by cases h)⟩
abbrev s_Plan_takes : Stmt := inClass (top 71) 1
abbrev N_Plan_takes : List Str := ["self", "pair", "station", "index", "exponent"]
abbrev P_Plan_takes : List Str := ["self", "pair", "station"]
theorem sc_Plan_takes : FnScope N_Plan_takes P_Plan_takes (defScope s_Plan_takes) := ⟨rfl, rfl, rfl, by decide +kernel, rfl, by decide +kernel, by decide +kernel⟩
theorem bn_Plan_takes : BindsNo "takes" "Plan.takes" s_Plan_takes P_Plan_takes := fun _ _ _ _ _ _ us hl => match us, hl with | [_, _, _], _ => rfl
def sp_takes (K : PySem.W.Frag) (CT CN CP : Addr) : Sp := fun vs H Q _ => ∃ (F : Hp) (v pv : V) (here : Str) (d : PlanD) (p : Option (Int × Int)), vs = [v, pv, .str here] ∧ Same F H ∧ (RPlan CT CN CP).rel d v F ∧ PairV K pv H p ∧ ∀ H', Same H H' → Q (.bl (takesB d.ds here p)) H'
theorem ok_takes (B : Bt mg) (PL : KlF K mg "Plan" CP ["turns", "stations", "arrows", "begin", "end"]) (m_Num_in : Met P w K mg base 2 CN "__contains__" (sp_Num_in CN)) (F : MtF K CP "takes" "Plan.takes" s_Plan_takes []) : Met P w K mg base 3 CP "takes" (sp_takes K CT CN CP) := by
  refine F.met PL.cl sc_Plan_takes bn_Plan_takes (fun vs H Q E h => ?_) (fun f cdv A outer s H vs Q E hr h => ?_)
  · obtain ⟨_, _, _, _, _, _, rfl, _⟩ := h
    rfl
  · obtain ⟨F, v, ww, here, d, p, rfl, sF, ⟨a, dx, ts, ta, tv, hp⟩, hpv, k⟩ := h
    refine ⟨_, (pss_cons (ps_if (PW.pt (pw_or (pt_not (pt_val (pe_callB (k_isiT (K := K)) (by rfl) B.isinstance (by decide +kernel) (pa_cons (pv 1) (pa_cons (pe_tup (pa_cons (pe_ty (n := "list") B.list) (pa_cons (pe_ty (n := "tuple") B.tuple) pa_nil))) pa_nil))))) (pw_or1 (pt_cmpR (op_neU hr (K := K)) (pe_callB (call_lenU (K := K)) (by rfl) B.len (by decide +kernel) (pa_cons (pv 1) pa_nil)) pe_int (nomark _))))) (pss_one (ps_ret pe_bl)) pss_nil)
    (pss_cons (ps_asg (pv 1) (k_seq (n := 2) rfl (pgs_cons (pg_name (i := 3) sc_Plan_takes.nd rfl (Or.inl rfl)) (pgs_cons (pg_name (i := 4) sc_Plan_takes.nd rfl (Or.inl rfl)) pgs_nil)) (K := K)))
    (pss_cons (ps_if (PW.pt (pw_or (pt_val (pe_callB (k_isi (K := K)) (by rfl) B.isinstance (by decide +kernel) (pa_cons (pv 3) (pa_cons (pe_ty (n := "bool") B.bool) pa_nil)))) (pw_or (pt_not (pt_val (pe_callB (k_isi (K := K)) (by rfl) B.isinstance (by decide +kernel) (pa_cons (pv 3) (pa_cons (pe_ty (n := "int") B.int) pa_nil))))) (pw_or1 (pt_not (pt_chain op_le op_lt pe_int (pv 3) (pe_callB (call_lenU (K := K)) (by rfl) B.len (by decide +kernel) (pa_cons (k_fld (pv 0) (K := K)) pa_nil)))))))) (pss_one (ps_ret pe_bl)) pss_nil)
    (pss_one (ps_ret (pe_and (pe_cmpR (op_eqU hr (K := K)) (pe_ix (k_ix (K := K)) (pe_ix (k_ix (K := K)) (k_fld (pv 0) (K := K)) (pv 3) (fun _ _ => rfl)) pe_int (fun _ _ => rfl)) (pv 2) (nomark _)) (pe_one (pe_cmpR (op_inO m_Num_in hr (by decide) passL) (pv 4) (pe_ix (k_ix (K := K)) (pe_ix (k_ix (K := K)) (k_fld (pv 0) (K := K)) (pv 3) (fun _ _ => rfl)) pe_int (fun _ _ => rfl)) (by rfl))))))))), ?_⟩
    obtain ⟨tb, as, etb, hta, pda⟩ := hp.ar
    cases etb
    have hal : as.length = d.ds.length := pd_len pda
    have len : ∀ {a : Addr} {xs : List V}, Sq2 H a xs → SqL K H a xs ∨ SqT K H a xs := fun h => h.sq
    cases hpv with
    | ty h1 h2 =>
      refine ⟨_, rfl, sz (n := 2) (by decide), fun c hc => ?_⟩
      have s1 : Same H (upd H c (.tup [.ty "list", .ty "tuple"])) := Same.new hc
      refine ⟨_, c, _, _, [.type "list", .type "tuple"], false, rfl, upd_same, .cons (ClsV.ty _) (.cons (ClsV.ty _) .nil), TyX.mono s1 h1, h2, ?_⟩
      exact ⟨_, rfl, iteT (k _ s1)⟩
    | @len b xs _ h1 h2 =>
      refine ⟨_, rfl, sz (n := 2) (by decide), fun c hc => ?_⟩
      have s1 : Same H (upd H c (.tup [.ty "list", .ty "tuple"])) := Same.new hc
      obtain ⟨t, ht, hk⟩ := ty_sq2 (K := K) (h1.mono s1)
      refine ⟨_, c, _, _, [.type "list", .type "tuple"], true, rfl, upd_same, .cons (ClsV.ty _) (.cons (ClsV.ty _) .nil), ht, hk, ?_⟩
      refine ⟨_, rfl, iteF ⟨_, rfl, .inl ⟨b, xs, rfl, (h1.mono s1).sq, .inl ⟨rfl, _, rfl, ?_⟩⟩⟩⟩
      rw [decide_eq_false (show ¬ V.int (xs.length : Nat) = V.int 2 from fun q => h2 (by injection q with q; omega))]
      exact iteT (k _ s1)
    | @nint b x y t bb _ h1 h2 h3 h4 =>
      refine ⟨_, rfl, sz (n := 2) (by decide), fun c hc => ?_⟩
      have s1 : Same H (upd H c (.tup [.ty "list", .ty "tuple"])) := Same.new hc
      obtain ⟨t, ht, hk⟩ := ty_sq2 (K := K) (h1.mono s1)
      refine ⟨_, c, _, _, [.type "list", .type "tuple"], true, rfl, upd_same, .cons (ClsV.ty _) (.cons (ClsV.ty _) .nil), ht, hk, ?_⟩
      refine ⟨_, rfl, iteF ⟨_, rfl, .inl ⟨b, _, rfl, (h1.mono s1).sq, .inl ⟨rfl, _, rfl, ?_⟩⟩⟩⟩
      refine iteF ⟨_, rfl, gseq (h1.mono s1) rfl ⟨_, _, rfl, _, _, rfl, rfl, ?_⟩⟩
      refine ⟨_, rfl, _, _, _, _, _, rfl, ClsV.ty _, TyX.mono s1 h2, h3, ?_⟩
      rcases h4 with rfl | h4
      · exact ⟨_, rfl, iteT (k _ s1)⟩
      · refine ⟨_, rfl, ?_⟩
        cases bb with
        | true => exact iteT (k _ s1)
        | false =>
          refine iteF ⟨_, rfl, _, _, _, _, _, rfl, ClsV.ty _, TyX.mono s1 h2, h4, ?_⟩
          exact ⟨_, rfl, iteT (k _ s1)⟩
    | @ok b i n _ h1 =>
      refine ⟨_, rfl, sz (n := 2) (by decide), fun c hc => ?_⟩
      have s1 : Same H (upd H c (.tup [.ty "list", .ty "tuple"])) := Same.new hc
      have sF1 := sF.trans s1
      obtain ⟨t, ht, hk⟩ := ty_sq2 (K := K) (h1.mono s1)
      refine ⟨_, c, _, _, [.type "list", .type "tuple"], true, rfl, upd_same, .cons (ClsV.ty _) (.cons (ClsV.ty _) .nil), ht, hk, ?_⟩
      refine ⟨_, rfl, iteF ⟨_, rfl, .inl ⟨b, _, rfl, (h1.mono s1).sq, .inl ⟨rfl, _, rfl, ?_⟩⟩⟩⟩
      refine iteF ⟨_, rfl, gseq (h1.mono s1) rfl ⟨_, _, rfl, _, _, rfl, rfl, ?_⟩⟩
      refine ⟨_, rfl, _, _, _, _, _, rfl, ClsV.ty _, TyX.base (TyOf.int _), kit_ty (r := false) (by decide +kernel), ?_⟩
      refine ⟨_, rfl, iteF ⟨_, rfl, _, _, _, _, _, rfl, ClsV.ty _, TyX.base (TyOf.int _), kit_ty (r := true) (by decide +kernel), ?_⟩⟩
      refine ⟨_, rfl, iteF ?_⟩
      by_cases h0 : (0 : Int) ≤ i
      · refine ⟨_, rfl, _, _, rfl, rfl, _, rfl, ?_⟩
        rw [decide_eq_true h0]
        refine iteT ⟨_, rfl, a, CP, dx, _, _, hp.ev, sF1 _ _ hp.ob, PL.cl, PL.no _ (by decide), rfl, .inl ⟨ta, as, rfl, .inr (SqT.of (sF1 _ _ hta)), ?_⟩⟩
        refine ⟨_, _, rfl, rfl, _, rfl, ?_⟩
        by_cases h1 : i < (as.length : Int)
        · rw [decide_eq_true h1]
          obtain ⟨x, e1, e2⟩ := arrAt_lt (ds := d.ds) ⟨h0, by rw [← hal]; exact h1⟩
          obtain ⟨y, hy, b2, nv, hx⟩ := pd_get' pda e2
          have ek : takesB d.ds here (some (i, n)) = (decide (x.one = here) && memD n x.num) := takesB_some e1
          rw [ek] at k
          have ix : ∀ Q : VK, Q y (upd H c (.tup [.ty "list", .ty "tuple"])) → rIx K (.ref ta) (.int i) (upd H c (.tup [.ty "list", .ty "tuple"])) Q := fun Q q => .inr (.inl ⟨ta, as, i, y, rfl, rfl, SqT.of (sF1 _ _ hta), atI_int h0 hy, q⟩)
          refine iteF ⟨_, rfl, a, CP, dx, _, _, hp.ev, sF1 _ _ hp.ob, PL.cl, PL.no _ (by decide), rfl, _, rfl, ix _ (.inr (.inl ⟨b2, _, 0, _, hx.ev, rfl, SqT.of (sF1 _ _ hx.ob), atI_nat rfl, ?_⟩))⟩
          refine ⟨_, rfl, .inl ⟨rfl, _, rfl, ?_⟩⟩
          by_cases h2 : x.one = here
          · rw [decide_eq_true (congrArg V.str h2)]
            rw [decide_eq_true h2] at k
            obtain ⟨na, ndx, lc, ls, hn⟩ := id hx.nu
            refine iteT ⟨_, rfl, _, rfl, a, CP, dx, _, _, hp.ev, sF1 _ _ hp.ob, PL.cl, PL.no _ (by decide), rfl, _, rfl, ix _ (.inr (.inl ⟨b2, _, 2, _, hx.ev, rfl, SqT.of (sF1 _ _ hx.ob), atI_nat rfl, ?_⟩))⟩
            refine ⟨na, ndx, _, hn.ev, sF1 _ _ hn.ob, F, nv, n, x.num, rfl, sF1, hx.nu, fun H2 s2 => ⟨_, rfl, ?_⟩⟩
            exact k _ (s1.trans s2)
          · rw [decide_eq_false (fun q => h2 (V.str.inj q))]
            rw [decide_eq_false h2] at k
            exact iteF (k _ s1)
        · rw [decide_eq_false h1]
          have ek : takesB d.ds here (some (i, n)) = false := takesB_none (arrAt_ge (fun q => h1 (by rw [hal]; exact q.2)))
          rw [ek] at k
          exact iteT (k _ s1)
      · refine ⟨_, rfl, _, _, rfl, rfl, _, rfl, ?_⟩
        rw [decide_eq_false h0]
        have ek : takesB d.ds here (some (i, n)) = false := takesB_none (arrAt_ge (fun q => h0 q.1))
        rw [ek] at k
        exact iteF ⟨_, rfl, iteT (k _ s1)⟩
end
end TR

/-! part M15 -/
/-! Which stations are met. -/
namespace TR
open PySem PySem.Spec PyProof.Rows L2 G
/-- a set that has a member -/
def neB (d : NumD) : Bool := !(d.cs.isEmpty && d.sg.isEmpty)
def srcA (ahead : Bool) (d : ArrD) : Str := if ahead = true then d.one else d.other
def dstA (ahead : Bool) (d : ArrD) : Str := if ahead = true then d.other else d.one
def metArr (ahead : Bool) (x : Str) (fs : List Str) (d : ArrD) : List Str := if srcA ahead d = x ∧ neB d.num = true ∧ dstA ahead d ∉ fs then fs ++ [dstA ahead d] else fs
def metStep (ds : List ArrD) (ahead : Bool) (fs : List Str) (x : Str) : List Str := ds.foldl (metArr ahead x) fs
def metGo (ds : List ArrD) (ahead : Bool) : Nat → List Str → Nat → List Str
  | 0, fs, _ => fs
  | n + 1, fs, at_ => match fs[at_]? with
    | none => fs
    | some x => metGo ds ahead n (metStep ds ahead fs x) (at_ + 1)
def metL (d : PlanD) (ahead : Bool) (x : Str) : List Str := metGo d.ds ahead (d.st.length + 1) [x] 0
structure MetOk (st fs : List Str) : Prop where
  nd : fs.Nodup
  sub : ∀ z ∈ fs, z ∈ st
theorem List.Subset.length_le_of_nodup' {α : Type} [DecidableEq α] : ∀ {l l' : List α}, l.Nodup → (∀ z ∈ l, z ∈ l') → l.length ≤ l'.length
  | [], _, _, _ => Nat.zero_le _
  | a :: r, l', nd, h => by
    rw [List.nodup_cons] at nd
    have ha := h a List.mem_cons_self
    have := List.Subset.length_le_of_nodup' (l' := l'.erase a) nd.2 (fun z hz => (List.mem_erase_of_ne (fun e => nd.1 (by rw [← e]; exact hz))).mpr (h z (List.mem_cons_of_mem _ hz)))
    rw [List.length_erase_of_mem ha] at this
    have hp : 0 < l'.length := List.length_pos_of_mem ha
    simp only [List.length_cons]
    omega
theorem MetOk.len {st fs : List Str} (h : MetOk st fs) : fs.length ≤ st.length := List.Subset.length_le_of_nodup' h.nd h.sub
theorem metArr_ok {st : List Str} {ahead : Bool} {x : Str} {fs : List Str} {d : ArrD} (h : MetOk st fs) (g1 : d.one ∈ st) (g2 : d.other ∈ st) : MetOk st (metArr ahead x fs d) ∧ ∃ r, metArr ahead x fs d = fs ++ r := by
  unfold metArr
  split
  · rename_i c
    refine ⟨⟨?_, fun z hz => ?_⟩, _, rfl⟩
    · rw [List.nodup_append]
      refine ⟨h.nd, by simp, fun a ha b hb e => ?_⟩
      rw [List.mem_singleton.mp hb] at e
      exact c.2.2 (e ▸ ha)
    · rcases List.mem_append.mp hz with y | y
      · exact h.sub z y
      · rw [List.mem_singleton.mp y]
        unfold dstA
        split
        · exact g2
        · exact g1
  · exact ⟨h, [], by simp⟩
section
variable {P : Program} {w : World} {K : PySem.W.Frag} {mg : Str → Option Value} {base : Heap} {CT CN CP : Addr}
abbrev s_Plan_met : Stmt := inClass (top 71) 5
abbrev N_Plan_met : List Str := ["self", "start", "ahead", "found", "at", "one", "name", "among", "other", "here", "there"]
abbrev P_Plan_met : List Str := ["self", "start", "ahead"]
theorem sc_Plan_met : FnScope N_Plan_met P_Plan_met (defScope s_Plan_met) := ⟨rfl, rfl, rfl, by decide +kernel, rfl, by decide +kernel, by decide +kernel⟩
theorem bn_Plan_met : BindsNo "met" "Plan.met" s_Plan_met P_Plan_met := fun _ _ _ _ _ _ us hl => match us, hl with | [_, _, _], _ => rfl
def sp_met (CT CN CP : Addr) : Sp := fun vs H Q _ => ∃ (F : Hp) (v : V) (d : PlanD) (x : Str) (ahead : Bool), vs = [v, .str x, .bl ahead] ∧ Same F H ∧ (RPlan CT CN CP).rel d v F ∧ x ∈ d.st ∧ d.st.length ≤ 1000 ∧
  ∀ L F' H', Pu F H F' H' → F' L = some (.lst ((metL d ahead x).map V.str)) → MetOk d.st (metL d ahead x) → Q (.ref L) H'
theorem ok_met (B : Bt mg) (PL : KlF K mg "Plan" CP ["turns", "stations", "arrows", "begin", "end"]) (m_Num_bool : Met P w K mg base 1 CN "__bool__" (sp_Num_bool CN)) (F : MtF K CP "met" "Plan.met" s_Plan_met []) : Met P w K mg base 2 CP "met" (sp_met CT CN CP) := by
  refine F.met PL.cl sc_Plan_met bn_Plan_met (fun vs H Q E h => ?_) (fun f cdv A outer s H vs Q E hr h => ?_)
  · obtain ⟨_, _, _, _, _, rfl, _⟩ := h
    rfl
  · obtain ⟨F, v, d, x, ahead, rfl, sF, rp, hx, hst, k⟩ := h
    obtain ⟨a, dx, ts, ta, tv, hp⟩ := id rp
    obtain ⟨_, as, eta, hta, pda⟩ := hp.ar
    cases eta
    have hal : as.length = d.ds.length := pd_len pda
    have sF' : Same F F := Same.refl _
    refine ⟨_, (pss_cons (ps_par (i := 3) (j := 4) (by rfl) sc_Plan_met.nd rfl rfl (by decide) rfl rfl (pa_cons (pe_lst (pa_cons (pv 1) pa_nil)) (pa_cons pe_int pa_nil)) (by rfl))
    (pss_cons (ps_while (passes_of rfl) (pt_cmpR op_lt (pv 4) (pe_callB (call_lenU (K := K)) (by rfl) B.len (by decide +kernel) (pa_cons (pv 3) pa_nil)) (nomark _))
    (pss_cons (ps_for (passes_of rfl) rfl (k_it (k_fld (pv 0) (K := K)) (K := K)) (k_tup (n := 4) rfl (pgs_cons (pg_name (i := 5) sc_Plan_met.nd rfl (Or.inl rfl)) (pgs_cons (pg_name (i := 6) sc_Plan_met.nd rfl (Or.inl rfl)) (pgs_cons (pg_name (i := 7) sc_Plan_met.nd rfl (Or.inl rfl)) (pgs_cons (pg_name (i := 8) sc_Plan_met.nd rfl (Or.inl rfl)) pgs_nil)))) (K := K))
    (pss_cons (ps_asg (pe_ifExp (pt_truth (pv 2) (by intro _; rfl)) (pe_tup (pa_cons (pv 5) (pa_cons (pv 8) pa_nil))) (pe_tup (pa_cons (pv 8) (pa_cons (pv 5) pa_nil)))) (k_tup (n := 2) rfl (pgs_cons (pg_name (i := 9) sc_Plan_met.nd rfl (Or.inl rfl)) (pgs_cons (pg_name (i := 10) sc_Plan_met.nd rfl (Or.inl rfl)) pgs_nil)) (K := K)))
    (pss_one (ps_if (PW.pt (pw_and (pt_cmpR (op_eqU hr (K := K)) (pv 9) (pe_ix (k_ix (K := K)) (pv 3) (pv 4) (fun _ _ => rfl)) (nomark _)) (pw_and (pt_trO m_Num_bool hr (by decide) (pv 7) passL) (pw_and1 (pt_cmpR (op_niU (K := K)) (pv 10) (pv 3) (by rfl)))))) (pss_one (ps_expr (pe_bm PySem.F.plainAttrs_list PySem.F.slot_list_append PySem.F.type_list_append mt_append (pv 3) (pa_cons (pv 10) pa_nil)))) pss_nil))))
    (pss_one (ps_aug (i := 4) sc_Plan_met.nd rfl (Or.inl rfl) pe_int ip_add))))
    (pss_one (ps_ret (pv 3))))), ?_⟩
    refine stp [some v, some (.str x), some (.bl ahead), none, none, none, none, none, none, none, none] rfl fun N hN => ?_
    refine ⟨_, rfl, sz (n := 1) (by decide), fun L hL => ⟨_, _, rfl, ?_⟩⟩
    have w0 := (Own.nil (Pu.refl sF)).new (o := .lst [.str x]) hL
    refine hN _ _ ?_
    clear hN
    refine stp [some v, some (.str x), some (.bl ahead), some (.ref L), some (.int 0), none, none, none, none, none, none] rfl fun N hN => ?_
    refine ⟨fun m σ H' => ∃ (fs : List Str) (at_ : Nat) (x5 x6 x7 x8 x9 x10 : Option V), m = d.st.length + 1 - at_ ∧ at_ ≤ fs.length ∧ MetOk d.st fs ∧ metL d ahead x = metGo d.ds ahead (d.st.length + 1 - at_) fs at_ ∧ Own F H F H' [(L, .lst (fs.map V.str))] ∧
      σ = [some v, some (.str x), some (.bl ahead), some (.ref L), some (.int (at_ : Nat)), x5, x6, x7, x8, x9, x10], ⟨_, [x], 0, none, none, none, none, none, none, rfl, Nat.zero_le _, ⟨by simp, fun z hz => by rw [List.mem_singleton.mp hz]; exact hx⟩, rfl, w0, rfl⟩, ?_⟩
    rintro m σ H' ⟨fs, at_, x5, x6, x7, x8, x9, x10, rfl, hat, mo, hgo, w1, rfl⟩
    have hfl := mo.len
    refine ⟨_, rfl, _, rfl, .inl ⟨L, _, rfl, .inl (SqL.of (w1.at 0)), _, _, rfl, rfl, _, rfl, ?_⟩⟩
    by_cases hlt : at_ < fs.length
    · rw [decide_eq_true (show ((at_ : Nat) : Int) < (((fs.map V.str).length : Nat) : Int) by rw [List.length_map]; omega)]
      refine iteT ⟨_, fun _ _ h => h, ?_⟩
      obtain ⟨cur, hcur⟩ : ∃ c, fs[at_]? = some c := ⟨_, List.getElem?_eq_getElem hlt⟩
      have hstep : metGo d.ds ahead (d.st.length + 1 - at_) fs at_ = metGo d.ds ahead (d.st.length + 1 - (at_ + 1)) (metStep d.ds ahead fs cur) (at_ + 1) := by
        obtain ⟨n, hn⟩ : ∃ n, d.st.length + 1 - at_ = n + 1 := ⟨d.st.length - at_, by omega⟩
        rw [show d.st.length + 1 - (at_ + 1) = n by omega, hn]
        show (match fs[at_]? with
          | none => fs
          | some x => metGo d.ds ahead n (metStep d.ds ahead fs x) (at_ + 1)) = _
        rw [hcur]
      rw [hstep] at hgo
      clear hstep
      refine stp [some v, some (.str x), some (.bl ahead), some (.ref L), some (.int (at_ : Nat)), x5, x6, x7, x8, x9, x10] rfl fun N2 hN2 => ?_
      refine ⟨_, rfl, a, CP, dx, _, _, hp.ev, w1.sub _ _ (sF' _ _ hp.ob), PL.cl, PL.no _ (by decide), rfl, ta, rfl, ⟨as, SqT.of (w1.sub _ _ (sF' _ _ hta))⟩, ?_⟩
      refine for_it (walk_tup (xs := as)) (fun i σ H' => ∃ (fi : List Str) (x5 x6 x7 x8 x9 x10 : Option V), (d.ds.take i).foldl (metArr ahead cur) fs = fi ∧ MetOk d.st fi ∧ at_ < fi.length ∧ fi[at_]? = some cur ∧ Own F H F H' [(L, .lst (fi.map V.str))] ∧
        σ = [some v, some (.str x), some (.bl ahead), some (.ref L), some (.int (at_ : Nat)), x5, x6, x7, x8, x9, x10]) ⟨fs, _, _, _, _, _, _, rfl, mo, hlt, hcur, w1, rfl⟩ (fun i σ H' _ ⟨_, _, _, _, _, _, _, _, _, _, _, w2, _⟩ => SqT.of (w2.sub _ _ (sF' _ _ hta))) ?_ ?_
      · rintro i y σ H0 H2 hi ⟨fi, y5, y6, y7, y8, y9, y10, hfi, mi, hli, hci, w2, rfl⟩ ⟨e2, hy⟩
        subst e2
        obtain ⟨r, hr1, b2, nv, hx2⟩ := pd_get pda hy
        have hrm : r ∈ d.ds := List.mem_of_getElem? hr1
        obtain ⟨g1, _, g2⟩ := hp.gd r hrm
        have mi2 := metArr_ok (ahead := ahead) (x := cur) mi g1 g2
        have hfi2 : (d.ds.take (i + 1)).foldl (metArr ahead cur) fs = metArr ahead cur fi r := by
          rw [take_snoc hr1, List.foldl_append, hfi]
          rfl
        refine ⟨b2, _, hx2.ev, SqT.of (w2.sub _ _ (sF' _ _ hx2.ob)), rfl, _, _, rfl, _, _, rfl, _, _, rfl, _, _, rfl, rfl, ?_⟩
        have hdone : ∀ (H3 : Hp) (z9 z10 : Option V), Own F H F H3 [(L, .lst ((metArr ahead cur fi r).map V.str))] → ∃ (fi : List Str) (x5 x6 x7 x8 x9 x10 : Option V), (d.ds.take (i + 1)).foldl (metArr ahead cur) fs = fi ∧ MetOk d.st fi ∧ at_ < fi.length ∧ fi[at_]? = some cur ∧ Own F H F H3 [(L, .lst (fi.map V.str))] ∧
            ([some v, some (.str x), some (.bl ahead), some (.ref L), some (.int (at_ : Nat)), some (.str r.one), some (.str r.name), some nv, some (.str r.other), z9, z10] : L2.St) = [some v, some (.str x), some (.bl ahead), some (.ref L), some (.int (at_ : Nat)), x5, x6, x7, x8, x9, x10] := by
          intro H3 z9 z10 w3
          obtain ⟨mo2, rr, er⟩ := mi2
          refine ⟨_, _, _, _, _, _, _, hfi2, mo2, ?_, ?_, w3, rfl⟩
          · rw [er, List.length_append]
            omega
          · rw [er, List.getElem?_append_left hli]
            exact hci
        refine stp [some v, some (.str x), some (.bl ahead), some (.ref L), some (.int (at_ : Nat)), some (.str r.one), some (.str r.name), some nv, some (.str r.other), y9, y10] rfl fun N3 hN3 => ?_
        have hgo2 : ∀ c, Own F H F (upd H2 c (.tup [.str (srcA ahead r), .str (dstA ahead r)])) [(L, .lst (fi.map V.str))] → N3 [some v, some (.str x), some (.bl ahead), some (.ref L), some (.int (at_ : Nat)), some (.str r.one), some (.str r.name), some nv, some (.str r.other), some (.str (srcA ahead r)), some (.str (dstA ahead r))] (upd H2 c (.tup [.str (srcA ahead r), .str (dstA ahead r)])) := by
          intro c w3
          refine hN3 _ _ ?_
          clear hN3
          refine stq [some v, some (.str x), some (.bl ahead), some (.ref L), some (.int (at_ : Nat)), some (.str r.one), some (.str r.name), some nv, some (.str r.other), some (.str (srcA ahead r)), some (.str (dstA ahead r))] rfl ?_
          refine ⟨_, rfl, _, rfl, _, rfl, .inl ⟨L, _, _, _, rfl, rfl, SqL.of (w3.at 0), atI_nat (by rw [List.getElem?_map, hci]; rfl), .inl ⟨rfl, _, rfl, ?_⟩⟩⟩
          by_cases c1 : srcA ahead r = cur
          · rw [decide_eq_true (congrArg V.str c1)]
            refine iteT ?_
            obtain ⟨na, ndx, lc, ls, hn⟩ := id hx2.nu
            refine ⟨_, rfl, na, ndx, _, hn.ev, w3.sub _ _ (sF' _ _ hn.ob), F, nv, r.num, rfl, w3.sub, hx2.nu, fun H4 s4 => ⟨_, rfl, ?_⟩⟩
            have w4 := w3.tmp s4
            by_cases c2 : neB r.num = true
            · rw [show (!(r.num.cs.isEmpty && r.num.sg.isEmpty)) = true from c2]
              refine iteT ⟨_, rfl, _, rfl, .inr ⟨L, _, rfl, .inl (SqL.of (w4.at 0)), rfl, flat_strs _, ?_⟩⟩
              rw [inV_strs]
              by_cases c3 : dstA ahead r ∈ fi
              · rw [decide_eq_true c3]
                refine ⟨_, rfl, iteF ?_⟩
                refine hdone _ _ _ ?_
                rw [show metArr ahead cur fi r = fi by unfold metArr; exact if_neg fun q => q.2.2 c3]
                exact w4
              · rw [decide_eq_false c3]
                refine ⟨_, rfl, iteT ?_⟩
                have hl2 : fi.length < 1000 + 1 := by have := mi.len; omega
                refine ⟨_, rfl, .inl ⟨rfl, _, SqL.of (w4.at 0)⟩, _, rfl, ?_⟩
                refine ⟨L, _, _, rfl, rfl, w4.at 0, szl (by rw [List.length_map]; have := mi.len; omega), ?_⟩
                refine hdone _ _ _ ?_
                rw [show metArr ahead cur fi r = fi ++ [dstA ahead r] by unfold metArr; exact if_pos ⟨c1, c2, c3⟩, List.map_append]
                exact w4.mut 0
            · rw [show (!(r.num.cs.isEmpty && r.num.sg.isEmpty)) = false from Bool.eq_false_iff.mpr c2]
              refine iteF ?_
              refine iteF ?_
              refine hdone _ _ _ ?_
              rw [show metArr ahead cur fi r = fi by unfold metArr; exact if_neg fun q => c2 q.2.1]
              exact w4
          · rw [decide_eq_false (fun q => c1 (V.str.inj q))]
            refine iteF (iteF ?_)
            refine hdone _ _ _ ?_
            rw [show metArr ahead cur fi r = fi by unfold metArr; exact if_neg fun q => c1 q.1]
            exact w3
        have tup : ∀ c, H2 c = none → Own F H F (upd H2 c (.tup [.str (srcA ahead r), .str (dstA ahead r)])) [(L, .lst (fi.map V.str))] := fun c hc => w2.tmp (Same.new hc)
        refine ⟨_, rfl, _, rfl, ?_⟩
        cases ahead with
        | true =>
          refine iteT ⟨_, rfl, _, rfl, sz (n := 2) (by decide), fun c hc => ⟨c, _, rfl, SqT.of upd_same, rfl, _, _, rfl, _, _, rfl, rfl, hgo2 c (tup c hc)⟩⟩
        | false =>
          refine iteF ⟨_, rfl, _, rfl, sz (n := 2) (by decide), fun c hc => ⟨c, _, rfl, SqT.of upd_same, rfl, _, _, rfl, _, _, rfl, rfl, hgo2 c (tup c hc)⟩⟩
      · rintro σ H2 ⟨fi, y5, y6, y7, y8, y9, y10, hfi, mi, hli, hci, w2, rfl⟩
        rw [hal, List.take_length] at hfi
        refine hN2 _ _ ?_
        clear hN2
        refine stq [some v, some (.str x), some (.bl ahead), some (.ref L), some (.int (at_ : Nat)), y5, y6, y7, y8, y9, y10] rfl ?_
        refine ⟨_, rfl, _, _, rfl, rfl, ?_⟩
        exact ⟨_, by show d.st.length + 1 - (at_ + 1) < _; omega, fi, at_ + 1, _, _, _, _, _, _, rfl, hli, mi, by rw [hgo, ← hfi]; rfl, w2, rfl⟩
    · rw [decide_eq_false (show ¬ ((at_ : Nat) : Int) < (((fs.map V.str).length : Nat) : Int) by rw [List.length_map]; omega)]
      refine iteF (hN _ _ ?_)
      have e : metGo d.ds ahead (d.st.length + 1 - at_) fs at_ = fs := by
        cases d.st.length + 1 - at_ with
        | zero => rfl
        | succ n =>
          unfold metGo
          rw [List.getElem?_eq_none (by omega)]
      rw [e] at hgo
      have w2 := w1.fix 0
      exact ⟨_, rfl, k L _ _ w2.pu (by rw [hgo]; exact upd_same) (by rw [hgo]; exact mo)⟩
end
end TR

/-! part M16 -/
/-! Which stations are useful; how to come to the end from one. -/
namespace TR
open PySem PySem.Spec PyProof.Rows L2 G
def usefulL (d : PlanD) : List Str := (metL d true d.b).filter fun z => decide (z ∈ metL d false d.e)
section
variable {P : Program} {w : World} {K : PySem.W.Frag} {mg : Str → Option Value} {base : Heap} {CT CN CP : Addr}
abbrev s_Plan_useful : Stmt := inClass (top 71) 6
abbrev N_Plan_useful : List Str := ["self", "back", "name"]
abbrev P_Plan_useful : List Str := ["self"]
theorem sc_Plan_useful : FnScope N_Plan_useful P_Plan_useful (defScope s_Plan_useful) := ⟨rfl, rfl, rfl, by decide +kernel, rfl, by decide +kernel, by decide +kernel⟩
theorem bn_Plan_useful : BindsNo "useful" "Plan.useful" s_Plan_useful P_Plan_useful := fun _ _ _ _ _ _ us hl => match us, hl with | [_], _ => rfl
def sp_useful (CT CN CP : Addr) : Sp := fun vs H Q _ => ∃ (F : Hp) (v : V) (d : PlanD), vs = [v] ∧ Same F H ∧ (RPlan CT CN CP).rel d v F ∧ d.b ∈ d.st ∧ d.e ∈ d.st ∧ d.st.length ≤ 1000 ∧
  ∀ L F' H', Pu F H F' H' → F' L = some (.lst ((usefulL d).map V.str)) → (usefulL d).length ≤ 1000 → Q (.ref L) H'
theorem ok_useful (B : Bt mg) (PL : KlF K mg "Plan" CP ["turns", "stations", "arrows", "begin", "end"]) (m_met : Met P w K mg base 2 CP "met" (sp_met CT CN CP)) (F : MtF K CP "useful" "Plan.useful" s_Plan_useful []) : Met P w K mg base 3 CP "useful" (sp_useful CT CN CP) := by
  refine F.met PL.cl sc_Plan_useful bn_Plan_useful (fun vs H Q E h => ?_) (fun f cdv A outer s H vs Q E hr h => ?_)
  · obtain ⟨_, _, _, rfl, _⟩ := h
    rfl
  · obtain ⟨F, v, d, rfl, sF, rp, hb, he, hst, k⟩ := h
    obtain ⟨a, dx, ts, ta, tv, hp⟩ := id rp
    refine ⟨_, (pss_cons (ps_set (i := 1) sc_Plan_useful.nd rfl (Or.inr rfl) (pe_m m_met hr (by decide) (pv 0) (pa_cons (k_fld (pv 0) (K := K)) (pa_cons pe_bl pa_nil)) passL))
    (pss_one (ps_ret (pe_lc (own := [("name", 2)]) rfl sc_Plan_useful.nd (k_il (pe_m m_met hr (by decide) (pv 0) (pa_cons (k_fld (pv 0) (K := K)) (pa_cons pe_bl pa_nil)) passL) (K := K)) (blkOk_by (N := N_Plan_useful) (sc := defScope s_Plan_useful) (by decide +kernel)) (fun _ _ _ _ _ => (pg_name (i := 2) sc_Plan_useful.nd rfl (Or.inl rfl))) (fun _ _ _ _ _ => (pts_one (pt_cmpR (op_inU (K := K)) (pv 2) (pv 1) (by rfl)))) (fun _ _ _ _ _ => (pv 2)))))), ?_⟩
    refine stp [some v, none, none] rfl fun N hN => ?_
    refine ⟨_, rfl, a, dx, _, hp.ev, sF _ _ hp.ob, rfl, _, rfl, a, CP, dx, _, _, hp.ev, sF _ _ hp.ob, PL.cl, PL.no _ (by decide), rfl, F, v, d, d.e, false, rfl, sF, rp, he, hst, fun L1 F1 H1 pu1 hL1 mo1 => ?_⟩
    try dsimp only
    refine hN _ _ ?_
    clear hN
    refine stq [some v, some (.ref L1), none] rfl ?_
    have sF1 := pu1.sub
    refine ⟨_, rfl, a, dx, _, hp.ev, sF1 _ _ (pu1.ff _ _ hp.ob), rfl, _, rfl, a, CP, dx, _, _, hp.ev, sF1 _ _ (pu1.ff _ _ hp.ob), PL.cl, PL.no _ (by decide), rfl, F1, v, d, d.b, true, rfl, sF1, (RPlan CT CN CP).mono pu1.ff rp, hb, hst, fun L2 F2 H2 pu2 hL2 mo2 => ?_⟩
    have hl2 := mo2.len
    refine ⟨L2, rfl, ⟨_, SqL.of (pu2.sub _ _ hL2)⟩, fun D hD => ?_⟩
    refine go_lc (F1 := F2) (walk_list (xs := (metL d true d.b).map V.str)) Rp.str (fun i => ((metL d true d.b).take i).filter fun z => decide (z ∈ metL d false d.e)) (by rw [List.length_map]; omega) pu2.sub hD (by simp) (fun F1 H1 pu => SqL.of (pu.sub _ _ (pu.ff _ _ hL2))) (fun i y F3 H3 l H' N hi pu fD hl1 hy kt kf => ?_) (fun F3 H3 ys pu fD hl1 pd1 => ?_)
    · obtain ⟨e1, hy⟩ := hy
      subst e1
      obtain ⟨z, hz, rfl⟩ : ∃ z, (metL d true d.b)[i]? = some z ∧ y = .str z := by
        rw [List.getElem?_map] at hy
        cases h : (metL d true d.b)[i]? with
        | none => rw [h] at hy; cases hy
        | some z => rw [h] at hy; cases hy; exact ⟨z, rfl, rfl⟩
      have hL1 := pu.sub _ _ (pu.ff _ _ (pu2.ff _ _ hL1))
      refine ⟨rfl, _, rfl, _, rfl, .inr ⟨L1, _, rfl, .inl (SqL.of hL1), rfl, flat_strs _, ?_⟩⟩
      show ∃ b, V.bl (inV (.str z) _) = .bl b ∧ _
      rw [inV_strs]
      by_cases c : z ∈ metL d false d.e
      · rw [decide_eq_true c]
        exact ⟨_, rfl, iteT ⟨_, rfl, kt _ _ _ z (Pu.refl pu.sub) rfl (filter_snoc hz (decide_eq_true c))⟩⟩
      · rw [decide_eq_false c]
        exact ⟨_, rfl, iteF (kf _ _ (Pu.refl pu.sub) (filter_skip hz (decide_eq_false c)))⟩
    · rw [List.length_map, take_all] at pd1
      have e1 := pd_eq (f := V.str) (by exact pd1)
      subst e1
      have w1 := ((Own.nil pu1).step pu2).lc hD pu fD hl1
      have w2 := w1.fix 0
      exact k D _ _ w2.pu upd_same (by unfold usefulL; have := List.length_filter_le (fun z => decide (z ∈ metL d false d.e)) (metL d true d.b); omega)
end
end TR

/-! part KD -/
/-! Dicts by names, read as lists of pairs. -/
namespace TR
open PySem PySem.Spec PyProof.Rows L2 G
variable {β : Type}
def KdP (A : Rp β) (F : Hp) : List (Str × β) → List (L2.Key × V) → Prop := Paired fun (p : Str × β) (q : L2.Key × V) => q.1 = Sum.inr p.1 ∧ A.rel p.2 q.2 F
theorem KdP.mono {A : Rp β} {F F' : Hp} {l : List (Str × β)} {kvs : List (L2.Key × V)} (s : Same F F') (h : KdP A F l kvs) : KdP A F' l kvs := pd_mono (fun _ _ q => ⟨q.1, A.mono s q.2⟩) h
theorem KdP.len {A : Rp β} {F : Hp} {l : List (Str × β)} {kvs : List (L2.Key × V)} (h : KdP A F l kvs) : kvs.length = l.length := pd_len h
theorem KdP.none {A : Rp β} {F : Hp} {n : Str} {l : List (Str × β)} {kvs : List (L2.Key × V)} (h : KdP A F l kvs) (hn : n ∉ l.map (·.1)) : valV kvs (Sum.inr n) = Option.none := by
  unfold KdP at h
  induction h with
  | nil => rfl
  | @cons p q l kvs r _ ih =>
    rw [List.map_cons, List.mem_cons, not_or] at hn
    rw [valV_neg (fun z => hn.1 (by rw [r.1] at z; exact (Sum.inr.inj z).symm))]
    exact ih hn.2
theorem KdP.get {A : Rp β} {F : Hp} {n : Str} {b : β} {l : List (Str × β)} {kvs : List (L2.Key × V)} (h : KdP A F l kvs) (hn : l.lookup n = some b) : ∃ x, valV kvs (Sum.inr n) = some x ∧ A.rel b x F := by
  unfold KdP at h
  induction h with
  | nil => cases hn
  | @cons p q l kvs r _ ih =>
    obtain ⟨m, c⟩ := p
    rw [List.lookup_cons] at hn
    by_cases e : n = m
    · subst e
      rw [show (n == n) = true by simp] at hn
      cases hn
      exact ⟨q.2, valV_pos r.1, r.2⟩
    · rw [show (n == m) = false by simp [e]] at hn
      obtain ⟨x, h1, h2⟩ := ih hn
      exact ⟨x, by rw [valV_neg (fun z => e (by rw [r.1] at z; exact (Sum.inr.inj z).symm))]; exact h1, h2⟩
theorem KdP.put {A : Rp β} {F : Hp} {n : Str} {b : β} {v : V} {l : List (Str × β)} {kvs : List (L2.Key × V)} (h : KdP A F l kvs) (hn : n ∉ l.map (·.1)) (hv : A.rel b v F) : putK kvs (Sum.inr n) v = kvs ++ [(Sum.inr n, v)] ∧ KdP A F (l ++ [(n, b)]) (kvs ++ [(Sum.inr n, v)]) :=
  ⟨putK_new v (h.none hn), pd_snoc h ⟨rfl, hv⟩⟩
theorem look_mem {n : Str} : ∀ {l : List (Str × β)}, n ∈ l.map (·.1) → ∃ b, l.lookup n = some b
  | [], h => by simp at h
  | (m, c) :: r, h => by
    rw [List.lookup_cons]
    by_cases e : n = m
    · subst e
      exact ⟨c, by simp⟩
    · rw [show (n == m) = false by simp [e]]
      refine look_mem ?_
      rw [List.map_cons, List.mem_cons] at h
      rcases h with h | h
      · exact absurd h e
      · exact h
theorem look_none {n : Str} : ∀ {l : List (Str × β)}, n ∉ l.map (·.1) → l.lookup n = none
  | [], _ => rfl
  | (m, c) :: r, h => by
    rw [List.map_cons, List.mem_cons, not_or] at h
    rw [List.lookup_cons, show (n == m) = false by simp [h.1]]
    exact look_none h.2
theorem mem_of_look {n : Str} {b : β} : ∀ {l : List (Str × β)}, l.lookup n = some b → (n, b) ∈ l
  | [], h => by cases h
  | (m, c) :: r, h => by
    rw [List.lookup_cons] at h
    by_cases e : n = m
    · subst e
      rw [show (n == n) = true by simp] at h
      cases h
      exact List.mem_cons_self
    · rw [show (n == m) = false by simp [e]] at h
      exact List.mem_cons_of_mem _ (mem_of_look h)
end TR

/-! part M17 -/
/-! The way to the end from a station. -/
namespace TR
open PySem PySem.Spec PyProof.Rows L2 G
abbrev Tails := List (Str × List (Int × Int))
theorem big0 : (0 : Int).natAbs < bigN := Nat.two_pow_pos 8000
def nr0 (d : NumD) : Int := (nearO d 0).getD 0
theorem nr0_ok {d : NumD} (pos : Pos d.cs) (h : neB d = true) : nearO d 0 = some (nr0 d) ∧ memD (nr0 d) d = true := by
  have n := near_ok (n := 0) pos
  unfold nr0
  cases e : nearO d 0 with
  | some k =>
    rw [e] at n
    exact ⟨rfl, n.1⟩
  | none =>
    rw [e] at n
    have n : ∀ j, memD j d = false := n
    exfalso
    unfold neB at h
    cases hs : d.sg with
    | cons k r =>
      have := mem_cases.mpr (.inl (show k ∈ d.sg by rw [hs]; exact List.mem_cons_self))
      rw [n] at this
      cases this
    | nil =>
      cases hc : d.cs with
      | nil =>
        rw [hs, hc] at h
        cases h
      | cons c r =>
        have := mem_cases.mpr (.inr ⟨c, (show c ∈ d.cs by rw [hc]; exact List.mem_cons_self), (show (c.1 - c.1) % c.2 = 0 by rw [Int.sub_self]; exact Int.zero_emod _)⟩)
        rw [n] at this
        cases this
def RPr : Rp (Int × Int) := Rp.pair Rp.int Rp.int
def RLs : Rp (List (Int × Int)) := Rp.lst RPr
def tailAt (ts : Tails) (x : Str) : List (Int × Int) := (ts.lookup x).getD []
def wayArr (cur : Str) (ts : Tails) (p : ArrD × Nat) : Tails := if p.1.other = cur ∧ neB p.1.num = true ∧ p.1.one ∉ ts.map (·.1) then ts ++ [(p.1.one, ((p.2 : Int), nr0 p.1.num) :: tailAt ts p.1.other)] else ts
def wayStep (ds : List ArrD) (ts : Tails) (cur : Str) : Tails := ds.zipIdx.foldl (wayArr cur) ts
def wayGo (ds : List ArrD) : Nat → Tails → Nat → Tails
  | 0, ts, _ => ts
  | n + 1, ts, at_ => match ts[at_]? with
    | none => ts
    | some x => wayGo ds n (wayStep ds ts x.1) (at_ + 1)
def wayL (d : PlanD) : Tails := wayGo d.ds (d.st.length + 1) [(d.e, [])] 0
structure WayOk (st : List Str) (ts : Tails) : Prop where
  nd : (ts.map (·.1)).Nodup
  sub : ∀ z ∈ ts.map (·.1), z ∈ st
  len : ∀ p ∈ ts, p.2.length < ts.length
theorem WayOk.le {st : List Str} {ts : Tails} (h : WayOk st ts) : ts.length ≤ st.length := by
  have := List.Subset.length_le_of_nodup' h.nd h.sub
  rwa [List.length_map] at this
theorem wayArr_ok {st : List Str} {cur : Str} {ts : Tails} {p : ArrD × Nat} (h : WayOk st ts) (g1 : p.1.one ∈ st) (hc : cur ∈ ts.map (·.1)) : WayOk st (wayArr cur ts p) ∧ ∃ r, wayArr cur ts p = ts ++ r := by
  unfold wayArr
  split
  · rename_i c
    refine ⟨⟨?_, fun z hz => ?_, fun q hq => ?_⟩, _, rfl⟩
    · rw [List.map_append, List.nodup_append]
      refine ⟨h.nd, by simp, fun a ha b hb e => ?_⟩
      rw [List.map_cons, List.map_nil, List.mem_singleton] at hb
      rw [hb] at e
      have e : a = p.1.one := e
      exact c.2.2 (e ▸ ha)
    · rw [List.map_append] at hz
      rcases List.mem_append.mp hz with y | y
      · exact h.sub z y
      · rw [List.map_cons, List.map_nil, List.mem_singleton] at y
        rw [y]
        exact g1
    · rw [List.length_append]
      rcases List.mem_append.mp hq with y | y
      · have := h.len q y
        omega
      · rw [List.mem_singleton.mp y]
        show (tailAt ts p.1.other).length + 1 < ts.length + 1
        obtain ⟨b, hb⟩ := look_mem (l := ts) (show p.1.other ∈ ts.map (·.1) by rw [c.1]; exact hc)
        have := h.len _ (mem_of_look hb)
        have : b.length < ts.length := this
        unfold tailAt
        rw [hb]
        simp only [Option.getD_some]
        omega
  · exact ⟨h, [], by simp⟩
section
variable {P : Program} {w : World} {K : PySem.W.Frag} {mg : Str → Option Value} {base : Heap} {CT CN CP : Addr}
abbrev s_Plan_way_out : Stmt := inClass (top 71) 7
abbrev N_Plan_way_out : List Str := ["self", "station", "tails", "at", "found", "index", "one", "name", "among", "other"]
abbrev P_Plan_way_out : List Str := ["self", "station"]
theorem sc_Plan_way_out : FnScope N_Plan_way_out P_Plan_way_out (defScope s_Plan_way_out) := ⟨rfl, rfl, rfl, by decide +kernel, rfl, by decide +kernel, by decide +kernel⟩
theorem bn_Plan_way_out : BindsNo "way_out" "Plan.way_out" s_Plan_way_out P_Plan_way_out := fun _ _ _ _ _ _ us hl => match us, hl with | [_, _], _ => rfl
def sp_way_out (CT CN CP : Addr) : Sp := fun vs H Q _ => ∃ (F : Hp) (v : V) (d : PlanD) (x : Str) (t : List (Int × Int)), vs = [v, .str x] ∧ Same F H ∧ (RPlan CT CN CP).rel d v F ∧ d.e ∈ d.st ∧ d.st.length ≤ 1000 ∧ (∀ r ∈ d.ds, NumB r.num) ∧ (wayL d).lookup x = some t ∧
  ∀ v F' H', Pu F H F' H' → RLs.rel t v F' → t.length ≤ 1000 → Q v H'
theorem ok_way_out (B : Bt mg) (PL : KlF K mg "Plan" CP ["turns", "stations", "arrows", "begin", "end"]) (m_Num_bool : Met P w K mg base 1 CN "__bool__" (sp_Num_bool CN)) (m_nearest : Met P w K mg base 2 CN "nearest" (sp_nearest CN)) (F : MtF K CP "way_out" "Plan.way_out" s_Plan_way_out []) : Met P w K mg base 3 CP "way_out" (sp_way_out CT CN CP) := by
  refine F.met PL.cl sc_Plan_way_out bn_Plan_way_out (fun vs H Q E h => ?_) (fun f cdv A outer s H vs Q E hr h => ?_)
  · obtain ⟨_, _, _, _, _, rfl, _⟩ := h
    rfl
  · obtain ⟨F, v, d, x, t, rfl, sF, rp, he, hst, hnb, hlk, k⟩ := h
    obtain ⟨a, dx, ts, ta, tv, hp⟩ := id rp
    obtain ⟨_, as, eta, hta, pda⟩ := hp.ar
    cases eta
    have hal : as.length = d.ds.length := pd_len pda
    refine ⟨_, (pss_cons (ps_par (i := 2) (j := 3) (by rfl) sc_Plan_way_out.nd rfl rfl (by decide) rfl rfl (pa_cons (pe_disp (pps_cons (k_fld (pv 0) (K := K)) (pe_lst pa_nil) pps_nil) (by rfl) (by rfl) (fun z => by cases z) (by decide)) (pa_cons pe_int pa_nil)) (by rfl))
    (pss_cons (ps_set (i := 4) sc_Plan_way_out.nd rfl (Or.inl rfl) (pe_lst (pa_cons (k_fld (pv 0) (K := K)) pa_nil)))
    (pss_cons (ps_while (passes_of rfl) (pt_cmpR op_lt (pv 3) (pe_callB (call_lenU (K := K)) (by rfl) B.len (by decide +kernel) (pa_cons (pv 4) pa_nil)) (nomark _))
    (pss_cons (ps_for (passes_of rfl) rfl (pi_enumT (by rfl) B.enumerate (pa_cons (k_fld (pv 0) (K := K)) pa_nil) (K := K)) (k_tup (n := 2) rfl (pgs_cons (pg_name (i := 5) sc_Plan_way_out.nd rfl (Or.inl rfl)) (pgs_cons (k_tup (n := 4) rfl (pgs_cons (pg_name (i := 6) sc_Plan_way_out.nd rfl (Or.inl rfl)) (pgs_cons (pg_name (i := 7) sc_Plan_way_out.nd rfl (Or.inl rfl)) (pgs_cons (pg_name (i := 8) sc_Plan_way_out.nd rfl (Or.inl rfl)) (pgs_cons (pg_name (i := 9) sc_Plan_way_out.nd rfl (Or.inl rfl)) pgs_nil)))) (K := K)) pgs_nil)) (K := K))
    (pss_one (ps_if (PW.pt (pw_and (pt_cmpR (op_eqU hr (K := K)) (pv 9) (pe_ix (k_ix (K := K)) (pv 4) (pv 3) (fun _ _ => rfl)) (nomark _)) (pw_and (pt_trO m_Num_bool hr (by decide) (pv 8) passL) (pw_and1 (pt_cmp (pc_dnotin (hu_of hr) (pv 6) (pv 2))))))) (pss_cons (ps_dput (hu_of hr) (pv 2) (pv 6) (pe_lst (pa_cons (pe_tup (pa_cons (pv 5) (pa_cons (pe_m m_nearest hr (by decide) (pv 8) (pa_cons pe_int pa_nil) passL) pa_nil))) (k_star (pe_dget (hu_of hr) (pv 2) (pv 9) (fun _ _ => rfl)) pa_nil (K := K)))) rfl)
    (pss_one (ps_expr (pe_bm PySem.F.plainAttrs_list PySem.F.slot_list_append PySem.F.type_list_append mt_append (pv 4) (pa_cons (pv 6) pa_nil))))) pss_nil)))
    (pss_one (ps_aug (i := 3) sc_Plan_way_out.nd rfl (Or.inl rfl) pe_int ip_add))))
    (pss_one (ps_ret (pe_dget (hu_of hr) (pv 2) (pv 1) (fun _ _ => rfl))))))), ?_⟩
    refine stp [some v, some (.str x), none, none, none, none, none, none, none, none] rfl fun N hN => ?_
    intro D hD
    have w0 := (Own.nil (Pu.refl sF)).new (o := .dK []) hD
    refine ⟨_, rfl, a, CP, dx, _, _, hp.ev, w0.sub _ _ hp.ob, PL.cl, PL.no _ (by decide), rfl, sz (n := 0) (by decide), fun L0 hL0 => ?_⟩
    have w1 := w0.add (o := .lst []) hL0
    refine ⟨w1.at 0, [(Sum.inr d.e, .ref L0)], rfl, (show 1 ≤ 15 by decide), _, _, rfl, ?_⟩
    have em : mergeK [] [((Sum.inr d.e : L2.Key), V.ref L0)] = [(Sum.inr d.e, V.ref L0)] := rfl
    rw [em]
    have w2 := w1.mut (o' := .dK [(Sum.inr d.e, .ref L0)]) 0
    refine hN _ _ ?_
    clear hN
    refine stp [some v, some (.str x), some (.ref D), some (.int 0), none, none, none, none, none, none] rfl fun N hN => ?_
    refine ⟨_, rfl, a, CP, dx, _, _, hp.ev, w2.sub _ _ (w2.ff _ _ hp.ob), PL.cl, PL.no _ (by decide), rfl, sz (n := 1) (by decide), fun L hL => ?_⟩
    have w3 := w2.new (o := .lst [.str d.e]) hL
    refine hN _ _ ?_
    clear hN
    refine stp [some v, some (.str x), some (.ref D), some (.int 0), some (.ref L), none, none, none, none, none] rfl fun N hN => ?_
    have kd0 : KdP RLs (upd F L0 (.lst [])) [(d.e, [])] [(Sum.inr d.e, .ref L0)] := .cons ⟨rfl, L0, [], rfl, upd_same, .nil⟩ .nil
    refine ⟨fun m σ H' => ∃ (ts : Tails) (F' : Hp) (kvs : List (L2.Key × V)) (at_ : Nat) (x5 x6 x7 x8 x9 : Option V), m = d.st.length + 1 - at_ ∧ at_ ≤ ts.length ∧ WayOk d.st ts ∧ wayL d = wayGo d.ds (d.st.length + 1 - at_) ts at_ ∧ KdP RLs F' ts kvs ∧ Own F H F' H' [(L, .lst (ts.map fun (p : Str × List (Int × Int)) => V.str p.1)), (D, .dK kvs)] ∧
      σ = [some v, some (.str x), some (.ref D), some (.int (at_ : Nat)), some (.ref L), x5, x6, x7, x8, x9], ⟨_, [(d.e, [])], _, _, 0, none, none, none, none, none, rfl, Nat.zero_le _, ⟨by simp, fun z hz => by simp at hz; rw [hz]; exact he, fun p hp => by simp at hp; rw [hp]; exact Nat.zero_lt_one⟩, rfl, kd0, w3, rfl⟩, ?_⟩
    rintro m σ H' ⟨ts, F', kvs, at_, x5, x6, x7, x8, x9, rfl, hat, mo, hgo, kd, w4, rfl⟩
    have hfl := mo.le
    refine ⟨_, rfl, _, rfl, .inl ⟨L, _, rfl, .inl (SqL.of (w4.at 0)), _, _, rfl, rfl, _, rfl, ?_⟩⟩
    by_cases hlt : at_ < ts.length
    · rw [decide_eq_true (show ((at_ : Nat) : Int) < (((ts.map fun (p : Str × List (Int × Int)) => V.str p.1).length : Nat) : Int) by rw [List.length_map]; omega)]
      refine iteT ⟨_, fun _ _ h => h, ?_⟩
      obtain ⟨cur, hcur⟩ : ∃ c, ts[at_]? = some c := ⟨_, List.getElem?_eq_getElem hlt⟩
      have hstep : wayGo d.ds (d.st.length + 1 - at_) ts at_ = wayGo d.ds (d.st.length + 1 - (at_ + 1)) (wayStep d.ds ts cur.1) (at_ + 1) := by
        obtain ⟨n, hn⟩ : ∃ n, d.st.length + 1 - at_ = n + 1 := ⟨d.st.length - at_, by omega⟩
        rw [show d.st.length + 1 - (at_ + 1) = n by omega, hn]
        show (match ts[at_]? with
          | none => ts
          | some x => wayGo d.ds n (wayStep d.ds ts x.1) (at_ + 1)) = _
        rw [hcur]
      rw [hstep] at hgo
      clear hstep
      refine stp [some v, some (.str x), some (.ref D), some (.int (at_ : Nat)), some (.ref L), x5, x6, x7, x8, x9] rfl fun N2 hN2 => ?_
      refine ⟨_, rfl, a, CP, dx, _, _, hp.ev, w4.sub _ _ (w4.ff _ _ hp.ob), PL.cl, PL.no _ (by decide), rfl, ta, as, rfl, SqT.of (w4.sub _ _ (w4.ff _ _ hta)), ?_⟩
      refine for_it (walk_enumT (xs := as)) (fun i σ H' => ∃ (ti : Tails) (F' : Hp) (kvs : List (L2.Key × V)) (x5 x6 x7 x8 x9 : Option V), (d.ds.zipIdx.take i).foldl (wayArr cur.1) ts = ti ∧ WayOk d.st ti ∧ at_ < ti.length ∧ ti[at_]? = some cur ∧ KdP RLs F' ti kvs ∧ Own F H F' H' [(L, .lst (ti.map fun (p : Str × List (Int × Int)) => V.str p.1)), (D, .dK kvs)] ∧
        σ = [some v, some (.str x), some (.ref D), some (.int (at_ : Nat)), some (.ref L), x5, x6, x7, x8, x9]) ⟨ts, _, _, _, _, _, _, _, rfl, mo, hlt, hcur, kd, w4, rfl⟩ (fun i σ H' _ ⟨_, _, _, _, _, _, _, _, _, _, _, _, _, w2, _⟩ => SqT.of (w2.sub _ _ (w2.ff _ _ hta))) ?_ ?_
      · rintro i y σ H0 H2 hi ⟨ti, F2, kv2, y5, y6, y7, y8, y9, hfi, mi, hli, hci, kd2, w5, rfl⟩ ⟨T, z1, z2, rfl, hT, rfl, e1, hy⟩
        cases e1
        replace hy : as[i]? = some z2 := hy
        obtain ⟨r, hr1, b2, nv, hx2⟩ := pd_get pda hy
        have hrm : r ∈ d.ds := List.mem_of_getElem? hr1
        obtain ⟨g1, _, g2⟩ := hp.gd r hrm
        have w6 := w5.tmp (Same.new (o := .tup [.int (i : Nat), z2]) hT)
        have hcm : cur.1 ∈ ti.map (·.1) := List.mem_map_of_mem (List.mem_of_getElem? hci)
        have mi2 := wayArr_ok (p := (r, i)) mi g1 hcm
        have hfi2 : (d.ds.zipIdx.take (i + 1)).foldl (wayArr cur.1) ts = wayArr cur.1 ti (r, i) := by
          rw [take_snoc (d := (r, i)) (by rw [List.getElem?_zipIdx, hr1]; simp), List.foldl_append, hfi]
          rfl
        refine ⟨T, _, rfl, SqT.of upd_same, rfl, _, _, rfl, _, _, rfl, b2, _, hx2.ev, SqT.of (w6.sub _ _ (w6.ff _ _ hx2.ob)), rfl, _, _, rfl, _, _, rfl, _, _, rfl, _, _, rfl, rfl, rfl, ?_⟩
        have hdone : ∀ (H3 F3 : Hp) (kv3 : List (L2.Key × V)), KdP RLs F3 (wayArr cur.1 ti (r, i)) kv3 → Own F H F3 H3 [(L, .lst ((wayArr cur.1 ti (r, i)).map fun (p : Str × List (Int × Int)) => V.str p.1)), (D, .dK kv3)] → ∃ (ti : Tails) (F' : Hp) (kvs : List (L2.Key × V)) (x5 x6 x7 x8 x9 : Option V), (d.ds.zipIdx.take (i + 1)).foldl (wayArr cur.1) ts = ti ∧ WayOk d.st ti ∧ at_ < ti.length ∧ ti[at_]? = some cur ∧ KdP RLs F' ti kvs ∧ Own F H F' H3 [(L, .lst (ti.map fun (p : Str × List (Int × Int)) => V.str p.1)), (D, .dK kvs)] ∧
            ([some v, some (.str x), some (.ref D), some (.int (at_ : Nat)), some (.ref L), some (.int (i : Nat)), some (.str r.one), some (.str r.name), some nv, some (.str r.other)] : L2.St) = [some v, some (.str x), some (.ref D), some (.int (at_ : Nat)), some (.ref L), x5, x6, x7, x8, x9] := by
          intro H3 F3 kv3 kd3 w9
          obtain ⟨mo2, rr, er⟩ := mi2
          refine ⟨_, F3, kv3, _, _, _, _, _, hfi2, mo2, ?_, ?_, kd3, w9, rfl⟩
          · rw [er, List.length_append]
            omega
          · rw [er, List.getElem?_append_left hli]
            exact hci
        try dsimp only
        refine stq [some v, some (.str x), some (.ref D), some (.int (at_ : Nat)), some (.ref L), some (.int (i : Nat)), some (.str r.one), some (.str r.name), some nv, some (.str r.other)] rfl ?_
        refine ⟨_, rfl, _, rfl, _, rfl, .inl ⟨L, _, _, _, rfl, rfl, SqL.of (w6.at 0), atI_nat (by rw [List.getElem?_map, hci]; rfl), .inl ⟨rfl, _, rfl, ?_⟩⟩⟩
        by_cases c1 : r.other = cur.1
        · rw [decide_eq_true (congrArg V.str c1)]
          refine iteT ?_
          obtain ⟨na, ndx, lc, ls, hn⟩ := id hx2.nu
          have rn := (RNum CN).mono w6.ff hx2.nu
          refine ⟨_, rfl, na, ndx, _, hn.ev, w6.sub _ _ (w6.ff _ _ hn.ob), F2, nv, r.num, rfl, w6.sub, rn, fun H4 s4 => ⟨_, rfl, ?_⟩⟩
          have w7 := w6.tmp s4
          by_cases c2 : neB r.num = true
          · rw [show (!(r.num.cs.isEmpty && r.num.sg.isEmpty)) = true from c2]
            refine iteT ⟨_, rfl, _, rfl, D, valV kv2 (Sum.inr r.one), rfl, DGet.k (k := Sum.inr r.one) (w7.at 1), _, rfl, ?_⟩
            by_cases c3 : r.one ∈ ti.map (·.1)
            · obtain ⟨b, hb⟩ := look_mem c3
              obtain ⟨u, hu, _⟩ := kd2.get hb
              rw [hu]
              refine iteF (hdone _ F2 kv2 ?_ ?_)
              · rw [show wayArr cur.1 ti (r, i) = ti by unfold wayArr; exact if_neg fun q => q.2.2 c3]
                exact kd2
              · rw [show wayArr cur.1 ti (r, i) = ti by unfold wayArr; exact if_neg fun q => q.2.2 c3]
                exact w7
            · rw [kd2.none c3]
              refine iteT ?_
              have he : wayArr cur.1 ti (r, i) = ti ++ [(r.one, ((i : Int), nr0 r.num) :: tailAt ti r.other)] := by unfold wayArr; exact if_pos ⟨c1, c2, c3⟩
              refine stp [some v, some (.str x), some (.ref D), some (.int (at_ : Nat)), some (.ref L), some (.int (i : Nat)), some (.str r.one), some (.str r.name), some nv, some (.str r.other)] rfl fun N3 hN3 => ?_
              refine ⟨_, rfl, _, rfl, na, ndx, _, hn.ev, w7.sub _ _ (w7.ff _ _ hn.ob), rfl, F2, nv, 0, r.num, rfl, w7.sub, rn, hnb r hrm, big0, fun H5 s5 => ?_⟩
              have w8 := w7.tmp s5
              rw [(nr0_ok hn.pos c2).1]
              refine ⟨sz (n := 2) (by decide), fun q hq => ?_⟩
              have w9 := w8.add (o := .tup [.int (i : Nat), .int (nr0 r.num)]) hq
              obtain ⟨b, hb⟩ := look_mem (l := ti) (n := r.other) (by rw [c1]; exact hcm)
              obtain ⟨u, hu, lu, xs, rfl, hlu, pdx⟩ := kd2.get hb
              have hbl : b.length < ti.length := mi.len _ (mem_of_look hb)
              have hxl : xs.length = b.length := pd_len pdx
              have s9 : Same F2 (upd F2 q (.tup [.int (i : Nat), .int (nr0 r.num)])) := Same.new (w8.sub.free hq)
              refine ⟨_, rfl, _, rfl, D, _, rfl, hu ▸ DGet.k (k := Sum.inr r.other) (w9.at 1), lu, xs, rfl, .inr (SqL.of (w9.sub _ _ (s9 _ _ hlu))), sz (by simp only [List.length_cons, List.length_append, List.length_nil]; have := mi.le; omega), fun M hM => ?_⟩
              have w10 := w9.add (o := .lst (.ref q :: (xs ++ []))) hM
              have s10 := s9.trans (Same.new (o := .lst (.ref q :: (xs ++ []))) (w9.sub.free hM))
              have hkl : kv2.length < 100000 := by have := kd2.len; have := mi.le; omega
              try dsimp only
              refine ⟨_, rfl, _, rfl, D, _, rfl, DPut.k (k := Sum.inr r.one) (w10.at 1) (szl (Nat.le_of_lt hkl)), ?_⟩
              have w11 := w10.mut (o' := .dK (putK kv2 (Sum.inr r.one) (.ref M))) 1
              obtain ⟨ep, kd4⟩ := (kd2.mono s10).put (b := ((i : Int), nr0 r.num) :: b) (v := .ref M) c3 ⟨M, _, rfl, upd_same, .cons ⟨q, _, _, rfl, (Same.new (w9.sub.free hM)) _ _ upd_same, rfl, rfl⟩ (by have z := pd_mono (fun _ _ => RPr.mono s10) pdx; simpa only [List.append_nil] using z)⟩
              rw [ep] at w11 ⊢
              refine hN3 _ _ ?_
              clear hN3
              refine stq [some v, some (.str x), some (.ref D), some (.int (at_ : Nat)), some (.ref L), some (.int (i : Nat)), some (.str r.one), some (.str r.name), some nv, some (.str r.other)] rfl ?_
              refine ⟨_, rfl, .inl ⟨rfl, _, SqL.of (w11.at 0)⟩, _, rfl, L, _, _, rfl, rfl, w11.at 0, szl (by rw [List.length_map]; have := mi.le; omega), ?_⟩
              have w12 := w11.mut (o' := .lst ((ti.map fun (p : Str × List (Int × Int)) => V.str p.1) ++ [.str r.one])) 0
              refine hdone _ (upd (upd F2 q (.tup [.int (i : Nat), .int (nr0 r.num)])) M (.lst (.ref q :: (xs ++ [])))) (kv2 ++ [(Sum.inr r.one, .ref M)]) ?_ ?_
              · rw [he, show tailAt ti r.other = b by unfold tailAt; rw [hb]; rfl]
                exact kd4
              · rw [he, List.map_append]
                exact w12
          · rw [show (!(r.num.cs.isEmpty && r.num.sg.isEmpty)) = false from Bool.eq_false_iff.mpr c2]
            refine iteF (iteF (hdone _ F2 kv2 ?_ ?_))
            · rw [show wayArr cur.1 ti (r, i) = ti by unfold wayArr; exact if_neg fun q => c2 q.2.1]
              exact kd2
            · rw [show wayArr cur.1 ti (r, i) = ti by unfold wayArr; exact if_neg fun q => c2 q.2.1]
              exact w7
        · rw [decide_eq_false (fun q => c1 (V.str.inj q))]
          refine iteF (iteF (hdone _ F2 kv2 ?_ ?_))
          · rw [show wayArr cur.1 ti (r, i) = ti by unfold wayArr; exact if_neg fun q => c1 q.1]
            exact kd2
          · rw [show wayArr cur.1 ti (r, i) = ti by unfold wayArr; exact if_neg fun q => c1 q.1]
            exact w6
      · rintro σ H2 ⟨ti, F2, kv2, y5, y6, y7, y8, y9, hfi, mi, hli, hci, kd2, w5, rfl⟩
        rw [hal, List.take_of_length_le (by rw [List.length_zipIdx]; exact Nat.le_refl _)] at hfi
        refine hN2 _ _ ?_
        clear hN2
        refine stq [some v, some (.str x), some (.ref D), some (.int (at_ : Nat)), some (.ref L), y5, y6, y7, y8, y9] rfl ?_
        refine ⟨_, rfl, _, _, rfl, rfl, ?_⟩
        exact ⟨_, by show d.st.length + 1 - (at_ + 1) < _; omega, ti, F2, kv2, at_ + 1, _, _, _, _, _, rfl, hli, mi, by rw [hgo, ← hfi]; rfl, kd2, w5, rfl⟩
    · rw [decide_eq_false (show ¬ ((at_ : Nat) : Int) < (((ts.map fun (p : Str × List (Int × Int)) => V.str p.1).length : Nat) : Int) by rw [List.length_map]; omega)]
      refine iteF (hN _ _ ?_)
      have e : wayGo d.ds (d.st.length + 1 - at_) ts at_ = ts := by
        cases d.st.length + 1 - at_ with
        | zero => rfl
        | succ n =>
          unfold wayGo
          rw [List.getElem?_eq_none (by omega)]
      rw [e] at hgo
      rw [hgo] at hlk
      obtain ⟨u, hu1, hu2⟩ := kd.get hlk
      have htl := mo.len _ (mem_of_look hlk)
      exact ⟨_, rfl, _, rfl, D, u, rfl, hu1 ▸ DGet.k (k := Sum.inr x) (w4.at 1), k u _ _ w4.pu hu2 (Nat.le_trans (Nat.le_of_lt htl) (Nat.le_trans hfl hst))⟩
end
end TR

/-! part B1 -/
namespace TR
open PySem PySem.Spec PyProof.Rows L2 G
section
variable {P : Program} {w : World} {K : PySem.W.Frag} {mg : Str → Option Value} {base : Heap}
abbrev s_w_bag : Stmt := top 78
abbrev N_w_bag : List Str := ["_law_script", "_law_fold", "_law_cell"]
abbrev P_w_bag : List Str := ["_law_script"]
theorem sc_w_bag : FnScope N_w_bag P_w_bag (defScope s_w_bag) := ⟨rfl, rfl, rfl, by decide +kernel, rfl, by decide +kernel, by decide +kernel⟩
theorem bn_w_bag : BindsNo "_law_bag" "_law_bag" s_w_bag P_w_bag := fun _ _ _ _ _ _ us hl => match us, hl with | [_], _ => rfl
def sp_bag (K : PySem.W.Frag) : Sp := fun vs H Q _ => ∃ (F : Hp) (a : Addr) (ns : List Int), vs = [.ref a] ∧ Same F H ∧ SqL K F a (ns.map V.int) ∧ (∀ H', Same F H' → SqL K H' a (ns.map V.int)) ∧ ns.length ≤ 1000 ∧
  ∀ (b : Addr) (F' H' : Hp), Pu F H F' H' → H b = none → F' b = none → BagIn F' b 0 H' → Q (.ref b) H'
theorem ok_bag (B : Bt mg) (F : FnF K mg "_law_bag" s_w_bag []) : Cal P w K mg base 1 "_law_bag" (sp_bag K) := by
  refine F.cal sc_w_bag bn_w_bag (fun vs H Q E h => ?_) (fun f cdv A outer s H vs Q E hr h => ?_)
  · obtain ⟨_, _, _, rfl, _⟩ := h
    rfl
  · obtain ⟨F, a, ns, rfl, sF, ha, hk, hlen, k⟩ := h
    refine ⟨_, (pss_cons (ps_set (i := 1) sc_w_bag.nd rfl (Or.inl rfl) pe_int)
    (pss_cons (ps_for (passes_of rfl) rfl (k_il (pv 0) (K := K)) (pg_name (i := 2) sc_w_bag.nd rfl (Or.inl rfl))
    (pss_one (ps_set (i := 1) sc_w_bag.nd rfl (Or.inl rfl) (pe_op op_mod (pe_callTy call_int1 (by rfl) B.int (by decide +kernel) (pa_cons (pe_op op_addU (pe_op op_mulU (pv 1) pe_int) (pv 2)) pa_nil)) pe_int))))
    (pss_one (ps_ret (pe_disp (pps_cons pe_str (pe_callTy (k_list (K := K)) (by rfl) B.list (by decide +kernel) (pa_cons (pv 0) pa_nil)) (pps_cons pe_str pe_int (pps_cons pe_str pe_int (pps_cons pe_str pe_int (pps_cons pe_str (pv 1) pps_nil))))) (by rfl) (by rfl) (fun z => by cases z) (by decide)))))), ?_⟩
    refine ⟨_, rfl, a, rfl, ⟨_, hk _ sF⟩, ?_⟩
    refine for_it (walk_list (xs := ns.map V.int)) (fun i σ H' => ∃ (fo : Int) (c : Option V), H' = H ∧ 0 ≤ fo ∧ fo < 1000000009 ∧ σ = [some (.ref a), some (.int fo), c]) ⟨0, none, rfl, by omega, by omega, rfl⟩ (fun i σ H' _ ⟨fo, c, e, _⟩ => by rw [e]; exact hk _ sF) ?_ ?_
    · rintro i y σ H' H'' hi ⟨fo, c, rfl, h1, h2, rfl⟩ ⟨e1, hy⟩
      subst e1
      rw [List.getElem?_map] at hy
      cases hp : ns[i]? with
      | none => rw [hp] at hy; cases hy
      | some m =>
        rw [hp] at hy
        cases hy
        refine ⟨_, rfl, .inl ⟨_, _, rfl, rfl, .inl ⟨by omega, by omega⟩, _, rfl, .inl ⟨_, _, rfl, rfl, .inl ⟨_, rfl, _, _, rfl, rfl, (by show (0 : Int) < 1000000009; decide), ?_⟩⟩⟩⟩
        exact ⟨_, _, rfl, Int.emod_nonneg _ (by decide), Int.emod_lt_of_pos _ (by decide), rfl⟩
    · rintro σ H' ⟨fo, c, rfl, h1, h2, rfl⟩
      refine fun p hp => ?_
      have w1 : Own F H' F (upd H' p (.dK [])) [(p, .dK [])] := (Own.nil (Pu.refl sF)).new hp
      refine ⟨_, rfl, a, _, rfl, .inl (hk _ w1.sub), fun l hl => ?_⟩
      refine ⟨_, rfl, ?_⟩
      have w2 := w1.add (o := .lst (ns.map V.int)) hl
      refine ⟨w2.at 0, [(Sum.inr "cells", .ref l), (Sum.inr "at", .int 0), (Sum.inr "digits", .int 0), (Sum.inr "count", .int 0), (Sum.inr "fold", .int fo)], rfl, Nat.le_of_ble_eq_true rfl, ?_⟩
      have e : mergeK [] [(Sum.inr "cells", V.ref l), (Sum.inr "at", .int 0), (Sum.inr "digits", .int 0), (Sum.inr "count", .int 0), (Sum.inr "fold", .int fo)] = bagKv l ⟨ns, 0, 0, 0, fo⟩ := by
        have n1 : ¬ (("cells" : Str) = "at") := by decide +kernel
        have n2 : ¬ (("cells" : Str) = "digits") := by decide +kernel
        have n3 : ¬ (("cells" : Str) = "count") := by decide +kernel
        have n4 : ¬ (("cells" : Str) = "fold") := by decide +kernel
        have n5 : ¬ (("at" : Str) = "digits") := by decide +kernel
        have n6 : ¬ (("at" : Str) = "count") := by decide +kernel
        have n7 : ¬ (("at" : Str) = "fold") := by decide +kernel
        have n8 : ¬ (("digits" : Str) = "count") := by decide +kernel
        have n9 : ¬ (("digits" : Str) = "fold") := by decide +kernel
        have n10 : ¬ (("count" : Str) = "fold") := by decide +kernel
        simp [mergeK, putK, bagKv, n1, n2, n3, n4, n5, n6, n7, n8, n9, n10]
      rw [e]
      have w3 := w2.mut (o' := .dK (bagKv l ⟨ns, 0, 0, 0, fo⟩)) 0
      exact k p _ _ w3.pu hp (w3.nf 0) ⟨l, _, w3.at 0, upd_same, Nat.zero_le _, hlen, by show (0 : Int) ≤ 0; omega, Nat.le_refl 0, h1, by show fo < 2147483587; omega⟩
abbrev s_w_draw : Stmt := top 79
abbrev N_w_draw : List Str := ["_law_bag_here", "_law_limit", "_law_cell", "_law_digit", "_law_base"]
abbrev P_w_draw : List Str := ["_law_bag_here", "_law_limit"]
theorem sc_w_draw : FnScope N_w_draw P_w_draw (defScope s_w_draw) := ⟨rfl, rfl, rfl, by decide +kernel, rfl, by decide +kernel, by decide +kernel⟩
theorem bn_w_draw : BindsNo "_law_draw" "_law_draw" s_w_draw P_w_draw := fun _ _ _ _ _ _ us hl => match us, hl with | [_, _], _ => rfl
def sp_draw : Sp := fun vs H Q _ => ∃ (F : Hp) (b : Addr) (n : Nat) (lim : Int), vs = [.ref b, .int lim] ∧ Same F H ∧ F b = none ∧ BagIn F b n H ∧ 0 < lim ∧ lim < 100000 ∧ n < 1000000000 ∧
  ∀ i H', 0 ≤ i → i < lim → Pb b F H F H' → BagIn F b (n + 1) H' → Q (.int i) H'
theorem ok_draw (B : Bt mg) (F : FnF K mg "_law_draw" s_w_draw []) : Cal P w K mg base 1 "_law_draw" sp_draw := by
  refine F.cal sc_w_draw bn_w_draw (fun vs H Q E h => ?_) (fun f cdv A outer s H vs Q E hr h => ?_)
  · obtain ⟨_, _, _, _, rfl, _⟩ := h
    rfl
  · obtain ⟨F, b, n, lim, rfl, sF, fb, ⟨cl, t, g⟩, l0, l1, hn, k⟩ := h
    refine ⟨_, (pss_cons (ps_dput (hu_of hr) (pv 0) pe_str (pe_op op_addU (pe_dget (hu_of hr) (pv 0) pe_str (fun _ _ => rfl)) pe_int) rfl)
    (pss_cons (ps_if (PW.pt (pw_and (pt_cmpR (op_eqU hr (K := K)) (pe_dget (hu_of hr) (pv 0) pe_str (fun _ _ => rfl)) pe_int (nomark _)) (pw_and1 (pt_cmpR op_lt (pe_dget (hu_of hr) (pv 0) pe_str (fun _ _ => rfl)) (pe_callB (call_lenU (K := K)) (by rfl) B.len (by decide +kernel) (pa_cons (pe_dget (hu_of hr) (pv 0) pe_str (fun _ _ => rfl)) pa_nil)) (nomark _))))) (pss_cons (ps_set (i := 2) sc_w_draw.nd rfl (Or.inl rfl) (pe_ix (k_ix (K := K)) (pe_dget (hu_of hr) (pv 0) pe_str (fun _ _ => rfl)) (pe_dget (hu_of hr) (pv 0) pe_str (fun _ _ => rfl)) (fun _ _ => rfl)))
    (pss_cons (ps_dput (hu_of hr) (pv 0) pe_str (pe_op op_addU (pe_dget (hu_of hr) (pv 0) pe_str (fun _ _ => rfl)) pe_int) rfl)
    (pss_one (ps_if (pt_cmpR op_ge (pv 2) (pe_op op_pow pe_int pe_int) (nomark _)) (pss_one (ps_dput (hu_of hr) (pv 0) pe_str (pe_op op_sub (pv 2) (pe_op op_pow pe_int pe_int)) rfl)) (pss_one (ps_dput (hu_of hr) (pv 0) pe_str (pe_op op_mod (pe_callTy call_int1 (by rfl) B.int (by decide +kernel) (pa_cons (pe_op op_addU (pe_op op_mulU (pe_dget (hu_of hr) (pv 0) pe_str (fun _ _ => rfl)) pe_int) (pv 2)) pa_nil)) pe_int) rfl)))))) pss_nil)
    (pss_cons (ps_if (pt_cmpR op_gt (pe_dget (hu_of hr) (pv 0) pe_str (fun _ _ => rfl)) pe_int (nomark _)) (pss_cons (ps_set (i := 3) sc_w_draw.nd rfl (Or.inl rfl) (pe_op op_mod (pe_callTy call_int1 (by rfl) B.int (by decide +kernel) (pa_cons (pe_dget (hu_of hr) (pv 0) pe_str (fun _ _ => rfl)) pa_nil)) (pv 1)))
    (pss_cons (ps_dput (hu_of hr) (pv 0) pe_str (pe_op op_fdivU (pe_dget (hu_of hr) (pv 0) pe_str (fun _ _ => rfl)) (pv 1)) rfl)
    (pss_one (ps_ret (pv 3))))) pss_nil)
    (pss_cons (ps_set (i := 4) sc_w_draw.nd rfl (Or.inl rfl) (pe_op op_addU (pe_op op_addU (pe_dget (hu_of hr) (pv 0) pe_str (fun _ _ => rfl)) (pe_op op_mulU (pe_dget (hu_of hr) (pv 0) pe_str (fun _ _ => rfl)) pe_int)) pe_int))
    (pss_one (ps_ret (pe_op op_mod (pe_op op_fdivU (pe_callTy call_int1 (by rfl) B.int (by decide +kernel) (pa_cons (pe_op op_mod (pe_op op_pow (pv 4) pe_int) pe_int) pa_nil)) pe_int) (pv 1)))))))), ?_⟩
    have hc := g.co
    have hnb : cl ≠ b := fun e => by have := g.ce; rw [e, fb] at this; cases this
    -- what is left of the heap
    have sm : ∀ o, Same F (upd H b o) := fun o a u e => by
      rw [upd_ne (fun z => by subst z; rw [fb] at e; cases e)]
      exact sF a u e
    have uu : ∀ (o o' : HO), upd (upd H b o) b o' = upd H b o' := fun o o' => by
      funext x
      by_cases e : x = b
      · subst e; rw [upd_same, upd_same]
      · rw [upd_ne e, upd_ne e, upd_ne e]
    have kl : ∀ t : BagS, (bagKv cl t).length < sizeLine := fun t => szl (by show 5 ≤ 100000; decide)
    have hcel : ∀ o, SqL K (upd H b o) cl (t.cells.map V.int) := fun o => SqL.of (sm o _ _ g.ce)
    -- count
    refine ⟨_, rfl, b, _, rfl, (kv_at cl t).2.2.2.1 ▸ DGet.k (k := Sum.inr "count") g.ob, ?_⟩
    refine .inl ⟨_, _, rfl, rfl, ?_⟩
    refine ⟨_, rfl, b, _, rfl, DPut.k (k := Sum.inr "count") g.ob (kl _), ?_⟩
    rw [show (t.count : Int) + 1 = ((t.count + 1 : Nat) : Int) by omega, (kv_put cl t 0 (t.count + 1)).2.2.1]
    dsimp only
    refine sj (R := fun σ2 H2 => ∃ (t2 : BagS) (c : Option V), H2 = upd H b (.dK (bagKv cl t2)) ∧ t2.cells = t.cells ∧ t2.at_ ≤ t2.cells.length ∧ 0 ≤ t2.digits ∧ t2.count = t.count + 1 ∧ 0 ≤ t2.fold ∧ t2.fold < 2147483587 ∧ σ2 = [some (.ref b), some (.int lim), c, none, none]) ?_ (fun go => ?_)
    · rintro σ2 H2 ⟨t2, c, rfl, c1, c2, c3, c4, c5, c6, rfl⟩
      have hb : ∀ o, (upd H b o) b = some o := fun o => upd_same
      refine ⟨_, rfl, b, _, rfl, (kv_at cl t2).2.2.1 ▸ DGet.k (k := Sum.inr "digits") (hb _), ?_⟩
      refine ⟨_, _, rfl, rfl, _, rfl, ?_⟩
      by_cases hd : t2.digits > 0
      · rw [decide_eq_true hd]
        refine ⟨_, rfl, b, _, rfl, (kv_at cl t2).2.2.1 ▸ DGet.k (k := Sum.inr "digits") (hb _), .inl ⟨_, rfl, ?_⟩⟩
        refine ⟨_, rfl, _, _, rfl, rfl, l0, ?_⟩
        refine ⟨_, rfl, b, _, rfl, (kv_at cl t2).2.2.1 ▸ DGet.k (k := Sum.inr "digits") (hb _), ?_⟩
        refine ⟨_, rfl, .inl ⟨_, _, rfl, rfl, ⟨l0, by omega⟩, ?_⟩⟩
        refine ⟨_, rfl, b, _, rfl, DPut.k (k := Sum.inr "digits") (hb _) (kl _), ?_⟩
        rw [(kv_put cl t2 (t2.digits / lim) 0).2.1, uu]
        refine ⟨_, rfl, k _ _ (Int.emod_nonneg _ (by omega)) (Int.emod_lt_of_pos _ l0) (Pb.self sF fb) ⟨cl, _, upd_same, by show F cl = _; rw [c1]; exact g.ce, c2, by rw [c1]; exact g.cl, Int.ediv_nonneg (by omega) (by omega), by show t2.count ≤ _; omega, c5, c6⟩⟩
      · rw [decide_eq_false hd]
        refine ⟨_, rfl, b, _, rfl, (kv_at cl t2).2.2.2.2 ▸ DGet.k (k := Sum.inr "fold") (hb _), ?_⟩
        refine ⟨_, rfl, b, _, rfl, (kv_at cl t2).2.2.2.1 ▸ DGet.k (k := Sum.inr "count") (hb _), ?_⟩
        have hcnt : (t2.count : Int) ≤ 1000000000 := by omega
        have hcnt0 : (0 : Int) ≤ t2.count := by omega
        refine .inl ⟨_, _, rfl, rfl, .inl ⟨by omega, by omega⟩, .inl ⟨_, _, rfl, rfl, .inl ⟨_, _, rfl, rfl, ?_⟩⟩⟩
        refine ⟨_, rfl, _, _, rfl, rfl, ⟨by decide, by decide, ?_⟩, ?_⟩
        · have : 0 ≤ t2.fold + (t2.count : Int) * 7907 + 31 := by omega
          omega
        refine ⟨_, _, rfl, rfl, (by show (0 : Int) < 2305843009213693951; decide), .inl ⟨_, rfl, ?_⟩⟩
        refine .inl ⟨_, _, rfl, rfl, (by show (0 : Int) < 128 ∧ (128 : Int) < 1073741824; decide), ?_⟩
        refine ⟨_, rfl, _, _, rfl, rfl, l0, ?_⟩
        exact k _ _ (Int.emod_nonneg _ (by omega)) (Int.emod_lt_of_pos _ l0) (Pb.self sF fb) ⟨cl, _, upd_same, by show F cl = _; rw [c1]; exact g.ce, c2, by rw [c1]; exact g.cl, c3, by show t2.count ≤ _; omega, c5, c6⟩
    · have hb : ∀ o, (upd H b o) b = some o := fun o => upd_same
      refine ⟨_, rfl, b, _, rfl, (kv_at cl ({ t with count := t.count + 1 } : BagS)).2.2.1 ▸ DGet.k (k := Sum.inr "digits") (hb _), .inl ⟨rfl, _, rfl, ?_⟩⟩
      by_cases hd : t.digits = 0
      · rw [decide_eq_true (congrArg V.int hd)]
        refine iteT ⟨_, rfl, b, _, rfl, (kv_at cl ({ t with count := t.count + 1 } : BagS)).1 ▸ DGet.k (k := Sum.inr "at") (hb _), ?_⟩
        refine ⟨_, rfl, b, _, rfl, (kv_at cl ({ t with count := t.count + 1 } : BagS)).2.1 ▸ DGet.k (k := Sum.inr "cells") (hb _), .inl ⟨cl, _, rfl, .inl (hcel _), ?_⟩⟩
        refine ⟨_, _, rfl, rfl, _, rfl, ?_⟩
        rw [List.length_map]
        by_cases ha : t.at_ < t.cells.length
        · rw [decide_eq_true (show (t.at_ : Int) < (t.cells.length : Nat) by omega)]
          have hat : (t.cells.map V.int)[t.at_]? = some (.int t.cells[t.at_]) := by rw [List.getElem?_map, List.getElem?_eq_getElem ha]; rfl
          refine ⟨_, rfl, b, _, rfl, (kv_at cl ({ t with count := t.count + 1 } : BagS)).2.1 ▸ DGet.k (k := Sum.inr "cells") (hb _), ?_⟩
          refine ⟨_, rfl, b, _, rfl, (kv_at cl ({ t with count := t.count + 1 } : BagS)).1 ▸ DGet.k (k := Sum.inr "at") (hb _), .inl ⟨cl, _, _, _, rfl, rfl, hcel _, atI_nat hat, ?_⟩⟩
          refine ⟨_, rfl, b, _, rfl, (kv_at cl ({ t with count := t.count + 1 } : BagS)).1 ▸ DGet.k (k := Sum.inr "at") (hb _), .inl ⟨_, _, rfl, rfl, ?_⟩⟩
          refine ⟨_, rfl, b, _, rfl, DPut.k (k := Sum.inr "at") (hb _) (kl _), ?_⟩
          rw [show (t.at_ : Int) + 1 = ((t.at_ + 1 : Nat) : Int) by omega, (kv_put cl ({ t with count := t.count + 1 } : BagS) 0 (t.at_ + 1)).1, uu]
          refine ⟨_, rfl, _, _, rfl, rfl, ⟨by decide, by decide, by decide⟩, _, _, rfl, rfl, _, rfl, ?_⟩
          by_cases hbig : t.cells[t.at_] ≥ (10 : Int) ^ (18 : Int).toNat
          · rw [decide_eq_true hbig]
            refine ⟨_, rfl, _, _, rfl, rfl, ⟨by decide, by decide, by decide⟩, _, _, rfl, rfl, ?_⟩
            refine ⟨_, rfl, b, _, rfl, DPut.k (k := Sum.inr "digits") (hb _) (kl _), ?_⟩
            rw [(kv_put cl ({ t with count := t.count + 1, at_ := t.at_ + 1 } : BagS) (t.cells[t.at_] - (10 : Int) ^ (18 : Int).toNat) 0).2.1, uu]
            exact go _ _ ⟨_, some (.int t.cells[t.at_]), rfl, rfl, ha, by show 0 ≤ t.cells[t.at_] - (10 : Int) ^ (18 : Int).toNat; omega, rfl, g.f0, g.f1, rfl⟩
          · rw [decide_eq_false hbig]
            refine ⟨_, rfl, b, _, rfl, (kv_at cl ({ t with count := t.count + 1, at_ := t.at_ + 1 } : BagS)).2.2.2.2 ▸ DGet.k (k := Sum.inr "fold") (hb _), ?_⟩
            refine .inl ⟨_, _, rfl, rfl, .inl ⟨by have := g.f0; show -2 ^ 64 < t.fold; omega, by have := g.f1; show t.fold < 2 ^ 64; omega⟩, _, rfl, .inl ⟨_, _, rfl, rfl, .inl ⟨_, rfl, _, _, rfl, rfl, (by show (0 : Int) < 2147483587; decide), ?_⟩⟩⟩
            refine ⟨_, rfl, b, _, rfl, DPut.k (k := Sum.inr "fold") (hb _) (kl _), ?_⟩
            rw [(kv_put cl ({ t with count := t.count + 1, at_ := t.at_ + 1 } : BagS) ((t.fold * 69069 + t.cells[t.at_]) % 2147483587) 0).2.2.2, uu]
            exact go _ _ ⟨_, some (.int t.cells[t.at_]), rfl, rfl, ha, by show (0 : Int) ≤ t.digits; omega, rfl, Int.emod_nonneg _ (by decide), Int.emod_lt_of_pos _ (by decide), rfl⟩
        · rw [decide_eq_false (show ¬ (t.at_ : Int) < (t.cells.length : Nat) by omega)]
          exact iteF (go _ _ ⟨_, none, rfl, rfl, g.al, g.dg, rfl, g.f0, g.f1, rfl⟩)
      · rw [decide_eq_false (fun q => hd (V.int.inj q))]
        exact iteF (go _ _ ⟨_, none, rfl, rfl, g.al, g.dg, rfl, g.f0, g.f1, rfl⟩)
end
end TR

/-! part B2 -/
namespace TR
open PySem PySem.Spec PyProof.Rows L2 G
def IdP (k : Nat) (z : Str) : Prop := nameOk z = true ∧ z.length ≤ 1000 ∧ z.cps.toList.getLast? = some (48 + k % 10)
def numS (k : Nat) : Str := Str.ofString (toString (k : Int))
theorem numS_ok : ∀ k : Fin 100, (numS k).cps.toList.all isDig = true ∧ 1 ≤ (numS k).cps.toList.length ∧ (numS k).cps.toList.length ≤ 2 ∧ (numS k).cps.toList.getLast? = some (48 + k.val % 10) := by decide +kernel
theorem LET_at : ∀ d : Fin 26, ∃ c, LET.cps.toList[d.val]? = some c ∧ isLet c = true := by
  have h : ∀ d : Fin 26, (match LET.cps.toList[d.val]? with | some c => isLet c | none => false) = true := by decide +kernel
  intro d
  have q := h d
  cases e : LET.cps.toList[d.val]? with
  | none => rw [e] at q; cases q
  | some c => rw [e] at q; exact ⟨c, rfl, q⟩
theorem LET_len : LET.length = 26 := by decide +kernel
theorem id_ok {ls : List Nat} {z : Str} {k : Nat} (hk : k < 100) (h1 : 1 ≤ ls.length) (h2 : ls.length ≤ 2) (hl : ls.all isLet = true) (hz : z.cps.toList = ls ++ (numS k).cps.toList) : IdP k z := by
  obtain ⟨d1, d2, d3, d4⟩ := numS_ok ⟨k, hk⟩
  simp only at d1 d2 d3 d4
  have hlen : z.length = ls.length + (numS k).cps.toList.length := by
    show z.cps.size = _
    rw [← Array.length_toList, hz, List.length_append]
  refine ⟨?_, by omega, ?_⟩
  · unfold nameOk
    rw [decide_eq_true (show 1 ≤ z.length by omega), decide_eq_true (show z.length ≤ 12 by omega), hz]
    have hh : hdLet (ls ++ (numS k).cps.toList) = true := by
      cases ls with
      | nil => simp at h1
      | cons c r =>
        have := hl
        simp only [List.all_cons, Bool.and_eq_true] at this
        exact this.1
    rw [hh, List.all_append]
    have a1 : (ls.all fun c => isLet c || isDig c) = true := by
      rw [List.all_eq_true] at hl ⊢
      intro x hx
      rw [hl x hx]; rfl
    have a2 : ((numS k).cps.toList.all fun c => isLet c || isDig c) = true := by
      rw [List.all_eq_true] at d1 ⊢
      intro x hx
      rw [d1 x hx, Bool.or_true]
    rw [a1, a2]
    rfl
  · rw [hz, List.getLast?_append, d4]
    rfl
section
variable {P : Program} {w : World} {K : PySem.W.Frag} {mg : Str → Option Value} {base : Heap}
abbrev s_w_ident : Stmt := top 80
abbrev N_w_ident : List Str := ["_law_bag_here", "_law_k", "_law_letters", "_law_text"]
abbrev P_w_ident : List Str := ["_law_bag_here", "_law_k"]
theorem sc_w_ident : FnScope N_w_ident P_w_ident (defScope s_w_ident) := ⟨rfl, rfl, rfl, by decide +kernel, rfl, by decide +kernel, by decide +kernel⟩
theorem bn_w_ident : BindsNo "_law_ident" "_law_ident" s_w_ident P_w_ident := fun _ _ _ _ _ _ us hl => match us, hl with | [_, _], _ => rfl
def sp_ident : Sp := fun vs H Q _ => ∃ (F : Hp) (b : Addr) (n k : Nat), vs = [.ref b, .int k] ∧ Same F H ∧ F b = none ∧ BagIn F b n H ∧ k < 100 ∧ n < 100000000 ∧
  ∀ z H', IdP k z → Pb b F H F H' → BagIn F b (n + 3) H' → Q (.str z) H'
theorem ok_ident (B : Bt mg) (c_w_draw : Cal P w K mg base 1 "_law_draw" sp_draw) (F : FnF K mg "_law_ident" s_w_ident []) : Cal P w K mg base 2 "_law_ident" sp_ident := by
  refine F.cal sc_w_ident bn_w_ident (fun vs H Q E h => ?_) (fun f cdv A outer s H vs Q E hr h => ?_)
  · obtain ⟨_, _, _, _, rfl, _⟩ := h
    rfl
  · obtain ⟨F, b, n, k, rfl, sF, fb, g, hk, hn, kk⟩ := h
    refine ⟨_, (pss_cons (ps_set (i := 2) sc_w_ident.nd rfl (Or.inl rfl) pe_str)
    (pss_cons (ps_set (i := 3) sc_w_ident.nd rfl (Or.inl rfl) (pe_ix (k_ix (K := K)) (pv 2) (pe_c c_w_draw hr (by decide) (pa_cons (pv 0) (pa_cons pe_int pa_nil)) passL) (fun _ _ => rfl)))
    (pss_cons (ps_if (pt_cmpR (op_eqU hr (K := K)) (pe_c c_w_draw hr (by decide) (pa_cons (pv 0) (pa_cons pe_int pa_nil)) passL) pe_int (nomark _)) (pss_one (ps_set (i := 3) sc_w_ident.nd rfl (Or.inl rfl) (pe_op op_addU (pv 3) (pe_ix (k_ix (K := K)) (pv 2) (pe_c c_w_draw hr (by decide) (pa_cons (pv 0) (pa_cons pe_int pa_nil)) passL) (fun _ _ => rfl))))) pss_nil)
    (pss_one (ps_ret (pe_op op_addU (pv 3) (pe_callTy call_str_int (by rfl) B.str (by decide +kernel) (pa_cons (pv 1) pa_nil)))))))), ?_⟩
    have w0 : Bw b F H F H n [] := Bw.nil sF fb g
    have len1 : LET.length ≤ sizeLine := sz (by rw [LET_len]; decide)
    refine ⟨_, rfl, _, rfl, F, b, n, 26, rfl, w0.sub, w0.fb, w0.bg, by decide, by decide, by omega, fun i H1 i0 i1 q1 g1 => ?_⟩
    have w1 := w0.call q1 g1
    obtain ⟨c, hc, hcl⟩ := LET_at ⟨i.toNat, by omega⟩
    refine .inr (.inr ⟨LET, i, c, rfl, rfl, len1, atI_int i0 hc, ?_⟩)
    dsimp only
    refine sj (R := fun σ2 H2 => ∃ ls : List Nat, 1 ≤ ls.length ∧ ls.length ≤ 2 ∧ ls.all isLet = true ∧ Bw b F H F H2 (n + 3) [] ∧ σ2 = [some (.ref b), some (.int k), some (.str LET), some (.str ⟨ls.toArray⟩)]) ?_ (fun go => ?_)
    · rintro σ2 H2 ⟨ls, h1, h2, hl, w2, rfl⟩
      refine ⟨_, rfl, _, rfl, _, rfl, ?_, .inr (.inl ⟨_, _, rfl, rfl, ?_, ?_⟩)⟩
      · have : (k : Int).natAbs.log2 ≤ (k : Int).natAbs := Nat.log2_le_self _
        omega
      · refine sz ?_
        have : (numS k).cps.toList.length ≤ 2 := (numS_ok ⟨k, hk⟩).2.2.1
        show ls.toArray.size + (numS k).cps.size ≤ 100000
        rw [← Array.length_toList (xs := (numS k).cps)]
        simp only [List.size_toArray]
        omega
      · refine kk _ _ (id_ok hk h1 h2 hl ?_) w2.pb w2.bg
        show (ls.toArray ++ (numS k).cps).toList = _
        simp
    · refine ⟨_, rfl, F, b, n + 1, 3, rfl, w1.sub, w1.fb, w1.bg, by decide, by decide, by omega, fun i2 H2 _ _ q2 g2 => ?_⟩
      have w2 := w1.call q2 g2
      refine .inl ⟨rfl, _, rfl, ?_⟩
      by_cases hz : i2 = 0
      · rw [decide_eq_true (congrArg V.int hz)]
        refine ⟨_, rfl, _, rfl, _, rfl, F, b, n + 1 + 1, 26, rfl, w2.sub, w2.fb, w2.bg, by decide, by decide, by omega, fun i3 H3 i30 i31 q3 g3 => ?_⟩
        have w3 := w2.call q3 g3
        obtain ⟨c3, hc3, hcl3⟩ := LET_at ⟨i3.toNat, by omega⟩
        refine .inr (.inr ⟨LET, i3, c3, rfl, rfl, len1, atI_int i30 hc3, .inr (.inl ⟨_, _, rfl, rfl, sz (by show 1 + 1 ≤ 100000; decide), ?_⟩)⟩)
        exact go _ _ ⟨[c, c3], by simp, by simp, by simp [hcl, hcl3], w3.le (by omega), rfl⟩
      · rw [decide_eq_false (fun q => hz (V.int.inj q))]
        exact go _ _ ⟨[c], by simp, by simp, by simp [hcl], w2.le (by omega), rfl⟩
end
def KindP (ks : Kinds) (m : Nat) : Prop := ks.length = m ∧ ∀ (j : Nat) (p : Str × Int), ks[j]? = some p → IdP j p.1 ∧ 0 ≤ p.2 ∧ p.2 ≠ 1 ∧ p.2 ≤ 6
theorem KindP.ok {ks : Kinds} {m : Nat} (h : KindP ks m) (h0 : 0 < m) (h8 : m ≤ 8) : KOk ks where
  pos := by rw [h.1]; exact h0
  le := by rw [h.1]; exact h8
  nm := fun p hp => by
    obtain ⟨j, hj⟩ := List.getElem?_of_mem hp
    have := (h.2 j p hj).1
    exact ⟨this.1, this.2.1⟩
  pe := fun p hp => by
    obtain ⟨j, hj⟩ := List.getElem?_of_mem hp
    have := (h.2 j p hj).2
    exact ⟨this.1, this.2.1⟩
  nd := by
    refine List.pairwise_iff_getElem.mpr fun i j hi hj hij e => ?_
    rw [List.length_map, h.1] at hi hj
    have hi2 : i < ks.length := by rw [h.1]; omega
    have hj2 : j < ks.length := by rw [h.1]; omega
    have a := (h.2 i ks[i] (List.getElem?_eq_getElem hi2)).1.2.2
    have b := (h.2 j ks[j] (List.getElem?_eq_getElem hj2)).1.2.2
    have e2 : ks[i].1 = ks[j].1 := by simpa using e
    rw [e2, b] at a
    have := Option.some.inj a
    omega
theorem KindP.snoc {ks : Kinds} {m : Nat} {p : Str × Int} (h : KindP ks m) (hp : IdP m p.1 ∧ 0 ≤ p.2 ∧ p.2 ≠ 1 ∧ p.2 ≤ 6) : KindP (ks ++ [p]) (m + 1) := by
  refine ⟨by simp [h.1], fun j q hq => ?_⟩
  by_cases hj : j < ks.length
  · rw [List.getElem?_append_left hj] at hq
    exact h.2 j q hq
  · have : j = m := by
      have := (List.getElem?_eq_some_iff.mp hq).1
      simp at this
      have := h.1
      omega
    subst this
    rw [List.getElem?_append_right (by omega), h.1] at hq
    simp at hq
    subst hq
    exact hp
section
variable {P : Program} {w : World} {K : PySem.W.Frag} {mg : Str → Option Value} {base : Heap}
abbrev s_w_kinds : Stmt := top 81
abbrev N_w_kinds : List Str := ["_law_bag_here", "_law_many", "_law_k"]
abbrev P_w_kinds : List Str := ["_law_bag_here", "_law_many"]
theorem sc_w_kinds : FnScope N_w_kinds P_w_kinds (defScope s_w_kinds) := ⟨rfl, rfl, rfl, by decide +kernel, rfl, by decide +kernel, by decide +kernel⟩
theorem bn_w_kinds : BindsNo "_law_kinds" "_law_kinds" s_w_kinds P_w_kinds := fun _ _ _ _ _ _ us hl => match us, hl with | [_, _], _ => rfl
def sp_kinds : Sp := fun vs H Q _ => ∃ (F : Hp) (b : Addr) (n m : Nat), vs = [.ref b, .int m] ∧ Same F H ∧ F b = none ∧ BagIn F b n H ∧ m ≤ 8 ∧ n < 10000000 ∧
  ∀ r F' H' ks, Pb b F H F' H' → BagIn F' b (n + 4 * m) H' → RPairs.rel ks r F' → KindP ks m → Q r H'
theorem ok_kinds (B : Bt mg) (c_w_draw : Cal P w K mg base 1 "_law_draw" sp_draw) (c_w_ident : Cal P w K mg base 2 "_law_ident" sp_ident) (F : FnF K mg "_law_kinds" s_w_kinds []) : Cal P w K mg base 3 "_law_kinds" sp_kinds := by
  refine F.cal sc_w_kinds bn_w_kinds (fun vs H Q E h => ?_) (fun f cdv A outer s H vs Q E hr h => ?_)
  · obtain ⟨_, _, _, _, rfl, _⟩ := h
    rfl
  · obtain ⟨F, b, n, m, rfl, sF, fb, g, hm, hn, kk⟩ := h
    refine ⟨_, (pss_one (ps_ret (pe_lc (own := [("_law_k", 2)]) rfl sc_w_kinds.nd (pi_range1 (by rfl) B.range (pa_cons (pv 1) pa_nil)) (blkOk_by (N := N_w_kinds) (sc := defScope s_w_kinds) (by decide +kernel)) (fun _ _ _ _ _ => (pg_name (i := 2) sc_w_kinds.nd rfl (Or.inl rfl))) (fun _ _ _ _ _ => pts_nil) (fun _ _ _ _ _ => (pe_tup (pa_cons (pe_c c_w_ident hr (by decide) (pa_cons (pv 0) (pa_cons (pv 2) pa_nil)) passL) (pa_cons (pe_ix (k_ix (K := K)) (pe_lst (pa_cons pe_int (pa_cons pe_int (pa_cons pe_int (pa_cons pe_int (pa_cons pe_int (pa_cons pe_int pa_nil))))))) (pe_c c_w_draw hr (by decide) (pa_cons (pv 0) (pa_cons pe_int pa_nil)) passL) (fun _ _ => rfl)) pa_nil))))))), ?_⟩
    have w0 : Bw b F H F H n [] := Bw.nil sF fb g
    refine ⟨_, rfl, m, rfl, by omega, by omega, fun D hD => ?_⟩
    refine go_lcB (walk_range (lo := 0) (n := (m : Int).toNat)) w0 hD (Rp.pair Rp.str Rp.int) 4 (fun i ds => KindP ds i) (by omega) ⟨rfl, fun j p h => by simp at h⟩ (fun _ _ _ _ _ _ => trivial) (fun i x ds F1 H1 l H' N hi w1 s1 _ hp y kt kf => ?_) (fun ds F1 H1 ys w1 s1 pd hp => ?_)
    · obtain ⟨rfl, hx⟩ := y
      replace hx : x = .int (i : Nat) := by
        rw [hx]
        show V.int (0 + (i : Int)) = _
        rw [Int.zero_add]
      subst hx
      refine ⟨rfl, _, rfl, _, rfl, F1, b, n + 4 * i, i, rfl, w1.sub, w1.fb, w1.bg, by omega, by omega, fun z H2 hz q2 g2 => ?_⟩
      have w2 := w1.call q2 g2
      refine ⟨sz (n := 6) (by decide), fun t ht => ?_⟩
      have w3 := w2.tmp (Same.new (o := .lst [.int 0, .int 0, .int 2, .int 3, .int 4, .int 6]) ht)
      refine ⟨_, rfl, F1, b, _, 6, rfl, w3.sub, w3.fb, w3.bg, by decide, by decide, by omega, fun d H4 d0 d1 q4 g4 => ?_⟩
      have w4 := w3.call q4 g4
      have ht4 : H4 t = some (.lst [.int 0, .int 0, .int 2, .int 3, .int 4, .int 6]) := q4.keep (w2.nb ht) upd_same
      obtain ⟨p, hp1, hp2⟩ : ∃ p : Int, ([V.int 0, .int 0, .int 2, .int 3, .int 4, .int 6])[d.toNat]? = some (.int p) ∧ 0 ≤ p ∧ p ≠ 1 ∧ p ≤ 6 := by
        rcases (by omega : d = 0 ∨ d = 1 ∨ d = 2 ∨ d = 3 ∨ d = 4 ∨ d = 5) with h | h | h | h | h | h <;> subst h
        · exact ⟨0, rfl, by omega⟩
        · exact ⟨0, rfl, by omega⟩
        · exact ⟨2, rfl, by omega⟩
        · exact ⟨3, rfl, by omega⟩
        · exact ⟨4, rfl, by omega⟩
        · exact ⟨6, rfl, by omega⟩
      refine .inl ⟨t, _, d, _, rfl, rfl, SqL.of ht4, atI_int d0 hp1, ?_⟩
      refine ⟨sz (n := 2) (by decide), fun u hu => ?_⟩
      have w5 := w4.add (o := .tup [.str z, .int p]) hu
      have q5 : Pb b F1 H' (upd F1 u (.tup [.str z, .int p])) (upd H4 u (.tup [.str z, .int p])) := by
        have a1 := q2.trans ((Pu.tmp (Pu.refl w2.sub) (o := .lst [.int 0, .int 0, .int 2, .int 3, .int 4, .int 6]) ht).pb w2.fb w2.bg.ne)
        have a2 := a1.trans q4
        exact a2.trans (((Pu.refl w4.sub).add (o := .tup [.str z, .int p]) hu).pb w4.fb w4.bg.ne)
      exact kt (.ref u) _ _ (z, p) (w5.le (by omega)) q5 ⟨u, _, _, rfl, upd_same, rfl, rfl⟩ (hp.snoc ⟨hz, hp2⟩)
    · have w2 := w1.fix 0
      rw [show (m : Int).toNat = m by omega] at w2 hp
      exact kk (.ref D) _ _ ds w2.pb w2.bg ⟨D, ys, rfl, upd_same, pd_mono (fun _ _ => (Rp.pair Rp.str Rp.int).mono (w1.ext 0)) pd⟩ hp
end
end TR

/-! part DD -/
/-! Equality of nested data. -/
namespace G
open PySem PySem.Spec PyProof.Rows L2
theorem k_dictP {X : Cx} {K : PySem.W.Frag} (hc : X.calm = true := by rfl) (hK : X.K = K := by rfl) : CallR X (.type "dict") (fun xs H Q => ∃ (a : Addr) (ps : List Addr) (kvs : List (L2.Key × V)), xs = [.ref a] ∧ SqL K H a (ps.map V.ref) ∧ Paired (fun p kv => SqT K H p [kV kv.1, kv.2]) ps kvs ∧ ∀ p, H p = none → Q (.ref p) (upd H p (.dK (mergeK [] kvs)))) := by
  subst hK
  exact call_dictP hc
/-- a reading whose things are nested data -/
structure RD {α : Type} (A : Rp α) (toD : α → PyData) : Prop where
  dp : ∀ (K : PySem.W.Frag) (d : α) (v : V) (F H : Hp), Same F H → A.rel d v F → Dp K H v (toD d)
theorem RD.int : RD Rp.int PyData.int := ⟨fun K d v F H s h => by cases h; exact .int _⟩
theorem RD.str : RD Rp.str PyData.str := ⟨fun K d v F H s h => by cases h; exact .str _⟩
theorem RD.all {α : Type} {A : Rp α} {toD : α → PyData} (h : RD A toD) {K : PySem.W.Frag} {F H : Hp} (s : Same F H) : ∀ {ds : List α} {vs : List V}, Paired (fun d x => A.rel d x F) ds vs → DpAll K H vs (ds.map toD)
  | _, _, .nil => .nil
  | _, _, .cons a r => .cons (h.dp K _ _ F H s a) (h.all s r)
theorem RD.pair {α β : Type} {A : Rp α} {B : Rp β} {f : α → PyData} {g : β → PyData} (h : RD A f) (k : RD B g) : RD (Rp.pair A B) (fun p => .tuple [f p.1, g p.2]) :=
  ⟨fun K d v F H s ⟨a, x, y, e, ha, hx, hy⟩ => by subst e; exact .tup (SqT.of (s _ _ ha)) (.cons (h.dp K _ _ F H s hx) (.cons (k.dp K _ _ F H s hy) .nil))⟩
theorem RD.lst {α : Type} {A : Rp α} {f : α → PyData} (h : RD A f) : RD (Rp.lst A) (fun ds => .list (ds.map f)) :=
  ⟨fun K d v F H s ⟨a, xs, e, ha, pd⟩ => by subst e; exact .lst (SqL.of (s _ _ ha)) (h.all s pd)⟩
theorem RD.tup {α : Type} {A : Rp α} {f : α → PyData} (h : RD A f) : RD (Rp.tup A) (fun ds => .tuple (ds.map f)) :=
  ⟨fun K d v F H s ⟨a, xs, e, ha, pd⟩ => by subst e; exact .tup (SqT.of (s _ _ ha)) (h.all s pd)⟩
theorem lay_all {α : Type} {f : α → PyData} : ∀ {ds : List α}, (∀ d ∈ ds, (f d).canLay0 = true) → PyData.canLayAll0 (ds.map f) = true
  | [], _ => rfl
  | d :: r, h => by
    show ((f d).canLay0 && PyData.canLayAll0 (r.map f)) = true
    rw [h d (by simp), lay_all (fun x hx => h x (by simp [hx]))]
    rfl
theorem dep_all {α : Type} {f : α → PyData} {n : Nat} : ∀ {ds : List α}, (∀ d ∈ ds, (f d).depth ≤ n) → PyData.depthAll (ds.map f) ≤ n
  | [], _ => Nat.zero_le _
  | d :: r, h => by
    show max (f d).depth (PyData.depthAll (r.map f)) ≤ n
    have a := h d (by simp)
    have b := dep_all (f := f) (n := n) (ds := r) (fun x hx => h x (by simp [hx]))
    omega
theorem shaped_of {d : PyData} (h : d.canLay0 = true) (k : d.depth ≤ 64) : SeqAt.shaped d = true := by
  unfold SeqAt.shaped
  rw [h, decide_eq_true k]
  rfl
end G

/-! part B3 -/
namespace TR
open PySem PySem.Spec PyProof.Rows L2 G
def stepD (p : Str × Int) : PyData := .tuple [.str p.1, .int p.2]
theorem RDstep : RD (Rp.pair Rp.str Rp.int) stepD := RD.pair RD.str RD.int
theorem str_lay {z : Str} (h : nameOk z = true) : (PyData.str z).canLay0 = true := by
  show z.cps.all (fun x => decide (x < 0x110000)) = true
  rw [Array.all_eq_true_iff_forall_mem]
  intro c hc
  have h2 : (z.cps.toList.all fun c => isLet c || isDig c) = true := by
    unfold nameOk at h
    simp only [Bool.and_eq_true] at h
    exact h.2.2.2
  have h3 := List.all_eq_true.mp h2 c (by simpa using hc)
  have hL : ∀ c ∈ LET.cps.toList, c < 0x110000 := by decide +kernel
  have hD : ∀ c ∈ DIG.cps.toList, c < 0x110000 := by decide +kernel
  refine decide_eq_true ?_
  rcases Bool.or_eq_true_iff.mp h3 with h | h
  · exact hL c (of_decide_eq_true h)
  · exact hD c (of_decide_eq_true h)
theorem step_lay {p : Str × Int} (h : nameOk p.1 = true) : (stepD p).canLay0 = true := by
  show ((PyData.str p.1).canLay0 && (true && true)) = true
  rw [str_lay h]
  rfl
theorem step_dep (p : Str × Int) : (stepD p).depth ≤ 1 := Nat.le_refl 1
def stepsD (ds : Steps) : PyData := .list (ds.map stepD)
theorem steps_shaped {ds : Steps} (h : ∀ d ∈ ds, nameOk d.1 = true) : SeqAt.shaped (stepsD ds) = true :=
  shaped_of (lay_all fun d hd => step_lay (h d hd)) (by
    show PyData.depthAll (ds.map stepD) + 1 ≤ 64
    have := dep_all (f := stepD) (n := 1) (ds := ds) fun d _ => step_dep d
    omega)
theorem eqv_nil : PyData.eqv (stepsD []) (.list []) = true := by unfold stepsD; simp only [List.map_nil, PyData.eqv, PyData.eqvAll]
theorem eqv_cons {d : Str × Int} {ds : Steps} : PyData.eqv (stepsD (d :: ds)) (.list []) = false := by unfold stepsD; simp only [List.map_cons, PyData.eqv, PyData.eqvAll]
theorem merge_kper : ∀ (ks done : Kinds), ((done ++ ks).map (·.1)).Nodup → mergeK (kper done) (kper ks) = kper (done ++ ks)
  | [], done, _ => by simp [mergeK, kper]
  | p :: r, done, h => by
    have hn : (done.lookup p.1) = none := by
      refine lookup_none fun m => ?_
      rw [List.map_append, List.nodup_append] at h
      exact h.2.2 _ m _ (by simp) rfl
    show mergeK (putK (kper done) (Sum.inr p.1) (.int p.2)) (kper r) = _
    rw [putK_new _ (by rw [val_per, hn]; rfl)]
    have := merge_kper r (done ++ [p]) (by simpa using h)
    rw [show kper (done ++ [p]) = kper done ++ [(Sum.inr p.1, V.int p.2)] by simp [kper]] at this
    rw [this]
    simp
section
variable {P : Program} {w : World} {K : PySem.W.Frag} {mg : Str → Option Value} {base : Heap}
abbrev s_w_normal : Stmt := top 83
abbrev N_w_normal : List Str := ["_law_kinds_here", "_law_steps_here", "_law_found", "_law_periods", "_law_name", "_law_exponent"]
abbrev P_w_normal : List Str := ["_law_kinds_here", "_law_steps_here"]
theorem sc_w_normal : FnScope N_w_normal P_w_normal (defScope s_w_normal) := ⟨rfl, rfl, rfl, by decide +kernel, rfl, by decide +kernel, by decide +kernel⟩
theorem bn_w_normal : BindsNo "_law_normal" "_law_normal" s_w_normal P_w_normal := fun _ _ _ _ _ _ us hl => match us, hl with | [_, _], _ => rfl
def sp_wnormal : Sp := fun vs H Q _ => ∃ (F : Hp) (v u : V) (ks : Kinds) (ss : Steps), vs = [v, u] ∧ Same F H ∧ RPairs.rel ks v F ∧ RPairs.rel ss u F ∧ KOk ks ∧ (∀ d ∈ ss, ∃ p, ks.lookup d.1 = some p) ∧ (∀ d ∈ ss, nameOk d.1 = true) ∧ ss.length ≤ 10000 ∧
  ∀ r F' H', Pu F H F' H' → RPairs.rel (normal ks ss) r F' → Q r H'
theorem pairs_ps {F : Hp} : ∀ {ds : Kinds} {vs : List V}, Paired (fun d x => (Rp.pair Rp.str Rp.int).rel d x F) ds vs → ∃ ps : List Addr, vs = ps.map V.ref ∧ Paired (fun p (kv : L2.Key × V) => F p = some (.tup [kV kv.1, kv.2])) ps (kper ds)
  | _, _, .nil => ⟨[], rfl, .nil⟩
  | _, _, .cons h t => by
    obtain ⟨a, x, y, rfl, ha, rfl, rfl⟩ := h
    obtain ⟨ps, rfl, pd⟩ := pairs_ps t
    exact ⟨a :: ps, rfl, .cons ha pd⟩
theorem ok_wnormal (B : Bt mg) (F : FnF K mg "_law_normal" s_w_normal []) : Cal P w K mg base 1 "_law_normal" sp_wnormal := by
  refine F.cal sc_w_normal bn_w_normal (fun vs H Q E h => ?_) (fun f cdv A outer s H vs Q E hr h => ?_)
  · obtain ⟨_, _, _, _, _, rfl, _⟩ := h
    rfl
  · obtain ⟨F, v, u, ks, ss, rfl, sF, ⟨ka, kps, rfl, hka, kpd⟩, ⟨a, ps, rfl, ha, pd⟩, ok, hin, hnm, hlen, k⟩ := h
    have hl : ps.length = ss.length := pd_len pd
    refine ⟨_, (pss_cons (ps_set (i := 2) sc_w_normal.nd rfl (Or.inl rfl) (pe_lst pa_nil))
    (pss_cons (ps_set (i := 3) sc_w_normal.nd rfl (Or.inl rfl) (pe_callTy (k_dictP (K := K)) (by rfl) B.dict (by decide +kernel) (pa_cons (pv 0) pa_nil)))
    (pss_cons (ps_for (passes_of rfl) rfl (k_il (pv 1) (K := K)) (k_tup (n := 2) rfl (pgs_cons (pg_name (i := 4) sc_w_normal.nd rfl (Or.inl rfl)) (pgs_cons (pg_name (i := 5) sc_w_normal.nd rfl (Or.inl rfl)) pgs_nil)) (K := K))
    (pss_cons (ps_if (PW.pt (pw_and (pt_cmpR (op_neU hr (K := K)) (pv 2) (pe_lst pa_nil) (nomark _)) (pw_and1 (pt_cmpR (op_eqU hr (K := K)) (pe_ix (k_ix (K := K)) (pe_ix (k_ix (K := K)) (pv 2) (pe_un un_neg pe_int) (fun _ _ => rfl)) pe_int (fun _ _ => rfl)) (pv 4) (nomark _))))) (pss_one (ps_set (i := 5) sc_w_normal.nd rfl (Or.inl rfl) (pe_op op_addU (pv 5) (pe_ix (k_ix (K := K)) (pe_bm0 PySem.F.plainAttrs_list PySem.F.slot_list_pop PySem.F.type_list_pop mt_pop (pv 2)) pe_int (fun _ _ => rfl))))) pss_nil)
    (pss_cons (ps_if (pt_cmpR op_gt (pe_dget (hu_of hr) (pv 3) (pv 4) (fun _ _ => rfl)) pe_int (nomark _)) (pss_one (ps_set (i := 5) sc_w_normal.nd rfl (Or.inl rfl) (pe_op op_mod (pe_callTy call_int1 (by rfl) B.int (by decide +kernel) (pa_cons (pv 5) pa_nil)) (pe_dget (hu_of hr) (pv 3) (pv 4) (fun _ _ => rfl))))) pss_nil)
    (pss_one (ps_if (pt_cmpR (op_neU hr (K := K)) (pv 5) pe_int (nomark _)) (pss_one (ps_expr (pe_bm PySem.F.plainAttrs_list PySem.F.slot_list_append PySem.F.type_list_append mt_append (pv 2) (pa_cons (pe_tup (pa_cons (pv 4) (pa_cons (pv 5) pa_nil))) pa_nil)))) pss_nil)))))
    (pss_one (ps_ret (pv 2)))))), ?_⟩
    refine ⟨sz (n := 0) (by decide), fun D hD => ?_⟩
    have w0 : Own F H F (upd H D (.lst [])) [(D, .lst [])] := (Own.nil (Pu.refl sF)).new hD
    obtain ⟨pp, rfl, ppd⟩ := pairs_ps kpd
    refine ⟨_, rfl, ka, pp, kper ks, rfl, SqL.of (w0.sub _ _ hka), pd_mono (fun _ _ h => SqT.of (w0.sub _ _ h)) ppd, fun dd hdd => ?_⟩
    have em : mergeK [] (kper ks) = kper ks := merge_kper ks [] (by simpa using ok.nd)
    rw [em]
    have w1 := w0.new (o := .dK (kper ks)) hdd
    refine ⟨_, rfl, a, rfl, ⟨_, SqL.of (w1.sub _ _ ha)⟩, ?_⟩
    refine for_it (walk_list (xs := ps)) (fun i σ H' => ∃ (F' : Hp) (n p : Option V) (ys : List V), Own F H F' H' [(dd, .dK (kper ks)), (D, .lst ys)] ∧ Paired (fun d x => (Rp.pair Rp.str Rp.int).rel d x F') ((ss.take i).foldl (nstep ks) []) ys ∧ ((ss.take i).foldl (nstep ks) []).length ≤ i ∧
        (∀ d ∈ (ss.take i).foldl (nstep ks) [], nameOk d.1 = true) ∧ σ = [some (.ref ka), some (.ref a), some (.ref D), some (.ref dd), n, p]) ⟨F, none, none, [], w1, .nil, Nat.le_refl _, (fun d h => by cases h), rfl⟩ (fun i σ H' _ ⟨F', n, p, ys, w1, _⟩ => SqL.of (w1.sub _ _ (w1.ff _ _ ha))) ?_ ?_
    · rintro i y σ H' H'' hi ⟨F', n0, p0, ys, w2, pd1, len1, nm1, rfl⟩ ⟨e1, hy⟩
      subst e1
      obtain ⟨d, t0, z, u, hd, rfl, ht, rfl, rfl⟩ := pair_at pd hy
      obtain ⟨p, hp⟩ := hin d (List.mem_of_getElem? hd)
      have dnm := hnm d (List.mem_of_getElem? hd)
      have nm2 : ∀ x ∈ nstep ks ((ss.take i).foldl (nstep ks) []) d, nameOk x.1 = true := fun x hx => by
        rcases nstep_sub hx with h | h
        · exact nm1 x h
        · rw [h]; exact dnm
      rw [take_snoc hd, List.foldl_append]
      refine ⟨t0, _, rfl, SqT.of (w2.sub _ _ (w2.ff _ _ ht)), rfl, _, _, rfl, _, _, rfl, rfl, ?_⟩
      have ep : perOf ks d.1 = p := by unfold perOf; rw [hp]; rfl
      have hpv : valV (kper ks) (Sum.inr d.1) = some (.int p) := by rw [val_per, hp]; rfl
      refine sj (R := fun σ2 H2 => ∃ (F2 : Hp) (ys2 : List V) (ks2 : Steps) (e : Int), σ2 = [some (.ref ka), some (.ref a), some (.ref D), some (.ref dd), some (.str d.1), some (.int e)] ∧ Own F H F2 H2 [(dd, .dK (kper ks)), (D, .lst ys2)] ∧ Paired (fun d x => (Rp.pair Rp.str Rp.int).rel d x F2) ks2 ys2 ∧ ks2.length ≤ i ∧ nstep ks ((ss.take i).foldl (nstep ks) []) d = nput ks ks2 d.1 e) ?_ (fun fin => ?_)
      · rintro σ2 H2 ⟨F2, ys2, ks2, e, rfl, w3, pd2, len2, en⟩
        refine sj (R := fun σ3 H3 => H3 = H2 ∧ σ3 = [some (.ref ka), some (.ref a), some (.ref D), some (.ref dd), some (.str d.1), some (.int (redE p e))]) ?_ (fun fin2 => ?_)
        · rintro σ3 H3 ⟨rfl, rfl⟩
          refine ⟨_, rfl, .inl ⟨rfl, _, rfl, ?_⟩⟩
          by_cases h0 : redE p e = 0
          · rw [decide_eq_true (congrArg V.int h0)]
            refine ⟨F2, _, _, ys2, w3, ?_, ?_, nm2, rfl⟩
            · show Paired _ (nstep ks _ d) _
              rw [en, nput, ep, if_pos h0]
              exact pd2
            · show (nstep ks _ d).length ≤ _
              rw [en, nput, ep, if_pos h0]
              omega
          · rw [decide_eq_false (fun q => h0 (V.int.inj q))]
            refine ⟨_, rfl, ?_⟩
            refine ⟨.inl ⟨rfl, _, SqL.of (w3.at 1)⟩, _, rfl, _, rfl, sz (n := 2) (by decide), fun q hq => ?_⟩
            have w4 := w3.add (o := .tup [.str d.1, .int (redE p e)]) hq
            refine ⟨D, ys2, _, rfl, rfl, w4.at 1, szl (by have := pd_len pd2; omega), ?_⟩
            have w5 := w4.mut (o' := .lst (ys2 ++ [.ref q])) 1
            refine ⟨_, _, _, _, w5, ?_, ?_, nm2, rfl⟩
            · show Paired _ (nstep ks _ d) _
              rw [en, nput, ep, if_neg h0]
              exact pd_snoc (pd_mono (fun _ _ => (Rp.pair Rp.str Rp.int).mono (Same.new (w3.sub.free hq))) pd2) ⟨q, _, _, rfl, upd_same, rfl, rfl⟩
            · show (nstep ks _ d).length ≤ _
              rw [en, nput, ep, if_neg h0]
              simp; omega
        · refine ⟨_, rfl, _, rfl, dd, _, rfl, hpv ▸ DGet.k (k := Sum.inr d.1) (w3.at 0), ?_⟩
          refine ⟨_, _, rfl, rfl, _, rfl, ?_⟩
          by_cases h0 : p > 0
          · rw [decide_eq_true h0]
            refine ⟨_, rfl, .inl ⟨_, rfl, ?_⟩⟩
            refine ⟨_, rfl, _, rfl, dd, _, rfl, hpv ▸ DGet.k (k := Sum.inr d.1) (w3.at 0), _, _, rfl, rfl, h0, ?_⟩
            exact fin2 _ _ ⟨rfl, by rw [show redE p e = e % p from if_pos h0]; rfl⟩
          · rw [decide_eq_false h0]
            exact fin2 _ _ ⟨rfl, by rw [show redE p e = e from if_neg h0]⟩
      · -- found != [] and found[-1][0] == name
        refine ⟨_, rfl, sz (n := 0) (by decide), fun c hc => ?_⟩
        have w3 := w2.tmp (Same.new (o := .lst []) hc)
        have dp1 : Dp K (upd H'' c (.lst [])) (.ref D) (stepsD ((ss.take i).foldl (nstep ks) [])) := .lst (SqL.of (w3.at 1)) (RDstep.all w3.sub pd1)
        have dp2 : Dp K (upd H'' c (.lst [])) (.ref c) (.list []) := .lst (SqL.of upd_same) .nil
        have ev : ∀ l : Steps, PyData.eqv (stepsD l) (.list []) = l.isEmpty := fun l => by
          cases l with
          | nil => exact eqv_nil
          | cons a r => exact eqv_cons
        have ev2 := ev ((ss.take i).foldl (nstep ks) [])
        refine .inr ⟨_, _, dp1, dp2, steps_shaped nm1, rfl, ?_⟩
        rw [ev2]
        refine ⟨_, rfl, ?_⟩
        cases hk : ((ss.take i).foldl (nstep ks) []).getLast? with
        | none =>
          have hn := List.getLast?_eq_none_iff.mp hk
          rw [hn] at pd1
          have hy0 : ys = [] := by cases pd1; rfl
          subst hy0
          rw [show ((ss.take i).foldl (nstep ks) []).isEmpty = true by rw [hn]; rfl]
          refine fin _ _ ⟨F', [], [], d.2, rfl, w3, .nil, Nat.zero_le _, ?_⟩
          rw [hn]
          rfl
        | some m =>
          obtain ⟨x, hx, c2, y1, y2, rfl, hc2, rfl, rfl⟩ := pd_last pd1 hk
          have hne : (ss.take i).foldl (nstep ks) [] ≠ [] := by intro q; rw [q] at hk; cases hk
          rw [show ((ss.take i).foldl (nstep ks) []).isEmpty = false by
            cases hh : (ss.take i).foldl (nstep ks) [] with
            | nil => exact absurd hh hne
            | cons a r => rfl]
          refine ⟨_, rfl, _, rfl, .inl ⟨D, ys, _, _, rfl, rfl, SqL.of (w3.at 1), atI_last hx, ?_⟩⟩
          refine .inr (.inl ⟨c2, _, 0, _, rfl, rfl, SqT.of (w3.sub _ _ hc2), atI_nat rfl, ?_⟩)
          refine ⟨_, rfl, .inl ⟨rfl, _, rfl, ?_⟩⟩
          by_cases h0 : m.1 = d.1
          · rw [decide_eq_true (congrArg V.str h0)]
            refine ⟨_, rfl, _, rfl, .inl ⟨rfl, _, SqL.of (w3.at 1)⟩, D, ys, _, rfl, rfl, w3.at 1, by rw [← List.getLast?_eq_getElem?]; exact hx, ?_⟩
            have w4 := w3.mut (o' := .lst ys.dropLast) 1
            refine .inr (.inl ⟨c2, _, 1, _, rfl, rfl, SqT.of (w4.sub _ _ hc2), atI_nat rfl, ?_⟩)
            refine .inl ⟨_, _, rfl, rfl, ?_⟩
            refine fin _ _ ⟨F', _, _, _, rfl, w4, pd_dropLast pd1, by simp; omega, ?_⟩
            rw [nstep_some hk]
            exact if_pos h0
          · rw [decide_eq_false (fun q => h0 (V.str.inj q))]
            refine fin _ _ ⟨F', ys, _, d.2, rfl, w3, pd1, len1, ?_⟩
            rw [nstep_some hk]
            exact if_neg h0
    · rintro σ H' ⟨F', n0, p0, ys, w2, pd1, len1, nm1, rfl⟩
      rw [hl, take_all] at pd1
      refine ⟨_, rfl, k (.ref D) _ _ (w2.fix 1).pu ⟨D, ys, rfl, upd_same, pd_mono (fun _ _ => (Rp.pair Rp.str Rp.int).mono (w2.ext 1)) pd1⟩⟩
end
end TR

/-! part NeOwn -/
/-! x != y where the class of both says __eq__ and no __ne__. -/
namespace G
open PySem PySem.Spec PySem.W PyProof.Rows L2
open PySem.Builtin
section
variable {prog : Program} {w : World} {M : Model} {A : Around} {E : Value → Shared → Prop} {s : Shared} {K : Frag} {x y C f : Addr} {ox oy : Obj} {od oe : Option Obj}
theorem ifBound_objNe {args : List Value} {Q : Option Value → Shared → Prop} (X : K.In s.heap) (I : InstAt s.heap x ox C od) (hs : findIn K (.ref C) "__ne__" = some (some (.builtin "object.__ne__")))
    (h : wpAny M A (call (.builtin "object.__ne__") (.ref x :: args)) (fun v => Q (some v)) E s) : wpAny M A (callSpecialIfBound? (.ref x) "__ne__" args) Q E s := by
  simp only [callSpecialIfBound?, bindSpecialIfBound?]
  refine wpAny_holding (wpAny_bind (wpAny_bind (wpAny_bind (I.type.here ((looks_findIn X hs).here (wpAny_bind (wpAny_askSetting (wpAny_ite ?_))))))))
  have go : wpAny M A (call (.builtin "object.__ne__") ([.ref x] ++ args) >>= fun v => pure (some v)) Q E s := wpAny_bind (wpAny_mono h (fun v z h' => wpAny_pure h') fun _ _ h' => h')
  split
  · exact wpAny_bind (wpAny_of_eq (F.cmp_object.ne.bind _) (wpAny_pure (by exact go)))
  · exact wpAny_tryCatch (wpAny_bind (wpAny_of_eq (F.cmp_object.ne.bind _) (wpAny_pure (by exact go))))
theorem ne_entry {Q : Fin → Shared → Prop} (X : K.In s.heap) (I : InstAt s.heap x ox C od) (hs : findIn K (.ref C) "__eq__" = some (some (.ref f))) (hf : isFn K (.ref f) = true) (hu : A.units < cLine)
    (h : wpAny (model prog w) A (call (.ref f) [.ref x, .ref y]) (fun v s' => ∃ b, v = .bool b ∧ Q (.done (.ret (.bool (!b)))) s') E s) : wpAny (model prog w) A (Builtin.«object.__ne__» ⟨[.ref x, .ref y], []⟩) Q E s := by
  unfold Builtin.«object.__ne__»
  repeat (first
    | with_reducible refine wpAny_cRoomFor hu ?_
    | (refine wpAny_bind (m := callSpecialIfBound? (.ref x) (Str.ofString "__eq__") [.ref y]) (ifBound_K X I hs hf (wpAny_mono h (fun r s' hr => by
        obtain ⟨b, rfl, hq⟩ := hr
        repeat (first | exact hq | exact wpAny_pure hq | exact wpAny_truthy_bool hq | (refine wpAny_bind (m := truthy (.bool _)) (wpAny_truthy_bool ?_)) | wp_step)) fun _ _ e => e)))
    | wp_step)
theorem ne_own {Q : Value → Shared → Prop} (X : K.In s.heap) (I : InstAt s.heap x ox C od) (J : InstAt s.heap y oy C oe) (hm : mroIn K C (.type "object") = some true) (hs : findIn K (.ref C) "__eq__" = some (some (.ref f))) (hf : isFn K (.ref f) = true) (hn : findIn K (.ref C) "__ne__" = some (some (.builtin "object.__ne__")))
    (hu : A.units + 8 < cLine) (hc : wpAny (model prog w) A.in1 (call (.ref f) [.ref x, .ref y]) (fun v s' => ∃ b, v = .bool b ∧ Q (.bool (!b)) s') E s) :
    wpAny (model prog w) A (compareOp .NotEq (.ref x) (.ref y)) Q E s := by
  have one : wpAny (model prog w) A (tryCompare (.ref x) "__ne__" (.ref y)) (fun r s' => ∃ v, r = some v ∧ Q v s') E s := by
    unfold tryCompare
    refine wpAny_bind (ifBound_objNe X I hn (wpAny_call (codeAny_call_builtin F.cmp_object.ne.plain F.cmpEntry_ne (check_slot F.cmpKind_ne F.cmpSplit_ne (I.type.andThen (looks_mroIn X hm)) (F.cmpArgs_ne _ _) ?_))))
    refine ne_entry (A := A.in1) X I hs hf (Nat.lt_of_le_of_lt (m := A.units + 1) (by first | exact Nat.le_refl _ | (simp <;> done)) (by omega)) (wpAny_mono hc (fun v s' hv => ?_) fun _ _ e => e)
    obtain ⟨b, rfl, q⟩ := hv
    first | exact ⟨b, rfl, wpAny_pure ⟨_, rfl, q⟩⟩ | exact ⟨b, rfl, wpAny_pure (wpAny_pure ⟨_, rfl, q⟩)⟩ | exact ⟨b, rfl, ⟨_, rfl, q⟩⟩
  show wpAny _ _ (richCompare .NotEq _ _) _ _ _
  unfold richCompare
  simp only [oneThing_ref]
  refine wpAny_holding (wpAny_bind (wpAny_cRoomFor (by omega) ?_))
  rw [cmpInfo_NotEq]
  dsimp only
  refine wpAny_bind (I.type.here (wpAny_bind (J.type.here ?_)))
  rw [show (Value.ref C != Value.ref C) = false by simp]
  simp only [Bool.false_eq_true, if_false]
  refine wpAny_bind (wpAny_pure ?_)
  simp only [Bool.false_eq_true, if_false]
  refine wpAny_bind (wpAny_mono one (fun r s' z => ?_) fun _ _ e => e)
  obtain ⟨v, rfl, q⟩ := z
  exact wpAny_pure q
end
section
variable {X : Cx} {E : XK} {C : Addr} {j k : Nat} {sp : Sp}
/-- x != y, x and y of the one class at C, whose __eq__ is own -/
def rNeO (C : Addr) (sp : Sp) (E : XK) : R2 := fun x y H Q => ∃ a dx fs b dy gs, x = .ref a ∧ y = .ref b ∧ H a = some (.ins C dx fs) ∧ H b = some (.ins C dy gs) ∧ sp [x, y] H (fun v H' => ∃ c, v = .bl c ∧ Q (.bl (!c)) H') E
theorem op_neO (c : Met X.prog X.w X.K X.mg X.base k C "__eq__" sp) (hmr : PySem.W.mroIn X.K C (.type "object") = some true) (hn : PySem.W.findIn X.K (.ref C) "__ne__" = some (some (.builtin "object.__ne__")))
    (hr : Room j X.A) (hk : k + 1 ≤ j) (hx : Passes (L2.CX X.prog X.w) X E) : OpR X (compareOp .NotEq) (rNeO C sp E) := by
  obtain ⟨f, fd, ps, F, hm, b⟩ := c.ex
  intro pins s σ H x y u v Q I rx ry h
  obtain ⟨a, dx, fs, a', dy, gs, rfl, rfl, ha, hb, q⟩ := h
  cases rx
  cases ry
  obtain ⟨mA, J, _⟩ := ins_get I.hok ha
  obtain ⟨od, J, _⟩ := J.look
  obtain ⟨mB, J', _⟩ := ins_get I.hok hb
  obtain ⟨od', J', _⟩ := J'.look
  have hr1 : Room k X.A.in1 := Room.in1 (hr.mono hk)
  refine ne_own I.kIn J J' hmr hm.at_ hm.fn hn (by have := hr.un; omega) ?_
  have r2 : Vals [V.ref a, V.ref a'] [Value.ref a, Value.ref a'] := .cons rfl (.cons rfl .nil)
  have hl : [Value.ref a, Value.ref a'].length = ps.length := by rw [← r2.length]; exact F.len _ _ _ _ q
  refine wpAny_call (codeAny_mono (F.run X.A.in1 X.stack s H ⟨[.ref a, .ref a'], []⟩ _ _ _ E hr1 I.env0.in1 (b s [.ref a, .ref a'] I.kIn (by simpa using hl)) r2 q) fun r s' hq => ?_)
  cases r with
  | error e => exact hx pins σ H s e s' I hq
  | ok fl =>
    cases fl with
    | ret u =>
      obtain ⟨z, H', I', rz, bb, rfl, q'⟩ := I.after hq
      cases rz
      exact ⟨bb, rfl, .bl (!bb), H', I', rfl, q'⟩
    | next => exact False.elim hq
    | brk => exact False.elim hq
    | cont => exact False.elim hq
end
end G

/-! part B11 -/
namespace TR
open PySem PySem.Spec PyProof.Rows L2 G
def kindsD (ks : Kinds) : PyData := .tuple (ks.map stepD)
theorem rd_kinds : RD RKinds kindsD := RD.tup (RD.pair RD.str RD.int)
theorem shaped_kinds {ks : Kinds} (h : ∀ d ∈ ks, nameOk d.1 = true) : SeqAt.shaped (kindsD ks) = true :=
  shaped_of (lay_all fun d hd => step_lay (h d hd)) (by
    show PyData.depthAll (ks.map stepD) + 1 ≤ 64
    have := dep_all (f := stepD) (n := 1) (ds := ks) fun d _ => step_dep d
    omega)
theorem eqv_step (d : Str × Int) : PyData.eqv (stepD d) (stepD d) = true := by
  unfold stepD
  simp [PyData.eqv, PyData.eqvAll]
theorem eqvAll_steps : ∀ ks : Kinds, PyData.eqvAll (ks.map stepD) (ks.map stepD) = true
  | [] => by simp [PyData.eqvAll]
  | d :: r => by
    rw [List.map_cons]
    simp only [PyData.eqvAll]
    rw [eqv_step d, eqvAll_steps r]
    rfl
theorem eqv_kinds (ks : Kinds) : PyData.eqv (kindsD ks) (kindsD ks) = true := by
  unfold kindsD
  simp only [PyData.eqv]
  exact eqvAll_steps ks
section
variable {P : Program} {w : World} {K : PySem.W.Frag} {mg : Str → Option Value} {base : Heap} {CT : Addr}
abbrev s_Turns_eq : Stmt := inClass (top 61) 9
abbrev N_Turns_eq : List Str := ["self", "other"]
abbrev P_Turns_eq : List Str := ["self", "other"]
theorem sc_Turns_eq : FnScope N_Turns_eq P_Turns_eq (defScope s_Turns_eq) := ⟨rfl, rfl, rfl, by decide +kernel, rfl, by decide +kernel, by decide +kernel⟩
theorem bn_Turns_eq : BindsNo "__eq__" "Turns.__eq__" s_Turns_eq P_Turns_eq := fun _ _ _ _ _ _ us hl => match us, hl with | [_, _], _ => rfl
def sp_Turns_eq (C : Addr) : Sp := fun vs H Q _ => ∃ (v u : V) (ks : Kinds), vs = [v, u] ∧ (RTurns C).rel ks v H ∧ (RTurns C).rel ks u H ∧ (∀ d ∈ ks, nameOk d.1 = true) ∧ ∀ H', Same H H' → Q (.bl true) H'
theorem ok_Turns_eq (B : Bt mg) (T : KlF K mg "Turns" CT ["pairs", "names", "periods", "ranks"]) (g_Turns : mg "Turns" = some (.ref CT)) (IT : InsF K CT)
    (F : MtF K CT "__eq__" "Turns.__eq__" s_Turns_eq []) : Met P w K mg base 1 CT "__eq__" (sp_Turns_eq CT) := by
  refine F.met T.cl sc_Turns_eq bn_Turns_eq (fun vs H Q E h => ?_) (fun f cdv A outer s H vs Q E hr h => ?_)
  · obtain ⟨_, _, _, rfl, _⟩ := h
    rfl
  · obtain ⟨v, u, ks, rfl, ⟨a, dx, tp, tn, td, tr, t⟩, ⟨b, dy, tp', tn', td', tr', t'⟩, ok, k⟩ := h
    refine ⟨_, (pss_one (ps_ret (pe_and (pe_callB (k_isi (K := K)) (by rfl) B.isinstance (by decide +kernel) (pa_cons (pv 1) (pa_cons (pe_gr g_Turns) pa_nil))) (pe_one (pe_cmpR (op_eqU hr (K := K)) (k_fld (pv 0) (K := K)) (k_fld (pv 1) (K := K)) (nomark _)))))), ?_⟩
    have ty : TyX K H u (.ref CT) := by rw [t'.ev]; exact IT.ty t'.ob
    refine ⟨_, rfl, u, .ref CT, _, _, true, rfl, ClsV.own _, ty, kit_self, ?_⟩
    refine ⟨true, rfl, ?_⟩
    rw [if_pos rfl]
    refine ⟨_, rfl, a, _, dx, _, _, t.ev, t.ob, T.cl, T.no _ (by decide), rfl, _, rfl, b, _, dy, _, _, t'.ev, t'.ob, T.cl, T.no _ (by decide), rfl, ?_⟩
    refine .inr ⟨kindsD ks, kindsD ks, rd_kinds.dp K _ _ H H (Same.refl _) t.pr, rd_kinds.dp K _ _ H H (Same.refl _) t'.pr, shaped_kinds ok, shaped_kinds ok, ?_⟩
    rw [eqv_kinds]
    exact k _ (Same.refl _)
end
end TR

/-! part M18 -/
/-! Numbers.single, Turns.still, Row.__eq__. -/
namespace TR
open PySem PySem.Spec PyProof.Rows L2 G
section
variable {P : Program} {w : World} {K : PySem.W.Frag} {mg : Str → Option Value} {base : Heap} {CT CN CR : Addr}
abbrev s_Numbers_single : Stmt := inClass (top 59) 2
abbrev N_Numbers_single : List Str := ["n"]
abbrev P_Numbers_single : List Str := ["n"]
theorem sc_Numbers_single : FnScope N_Numbers_single P_Numbers_single (defScope s_Numbers_single) := ⟨rfl, rfl, rfl, by decide +kernel, rfl, by decide +kernel, by decide +kernel⟩
theorem bn_Numbers_single : BindsNo "single" "Numbers.single" s_Numbers_single P_Numbers_single := fun _ _ _ _ _ _ us hl => match us, hl with | [_], _ => rfl
def sp_single (C : Addr) : Sp := fun vs H Q _ => ∃ (F : Hp) (n : Int), vs = [.int n] ∧ Same F H ∧ ∀ r F' H' d, Pu F H F' H' → (RNum C).rel d r F' → NumOk d [(n, 0)] → Q r H'
theorem ok_single (N : KlF K mg "Numbers" CN ["classes", "singles"]) (k_Numbers : Mak P w K mg base 3 "Numbers" CN (sp_Numbers_init CN)) (F : StF K CN "single" "Numbers.single" s_Numbers_single) : Sta P w K mg base 5 CN "single" (sp_single CN) := by
  refine F.sta sc_Numbers_single bn_Numbers_single (fun vs H Q E h => ?_) (fun f cdv A outer s H vs Q E hr h => ?_)
  · obtain ⟨_, _, rfl, _⟩ := h
    rfl
  · obtain ⟨F, n, rfl, sF, k⟩ := h
    refine ⟨_, (pss_one (ps_ret (pe_k k_Numbers hr (by decide) (pa_cons (pe_lst (pa_cons (pe_tup (pa_cons (pv 0) (pa_cons pe_int pa_nil))) pa_nil)) pa_nil) passL))), ?_⟩
    refine ⟨_, rfl, sz (n := 2) (by decide), fun p hp => ⟨sz (n := 1) (by decide), fun l hl => ?_⟩⟩
    have p1 := ((Pu.refl sF).add (o := .tup [.int n, .int 0]) hp)
    have p2 := p1.add (o := .lst [.ref p]) hl
    refine fun x dx hx hdx ne => ⟨_, _, x, dx, .ref l, [(n, 0)], rfl, ⟨p2.sub, hx, hdx, ne, rfl⟩, ⟨l, _, rfl, upd_same, .cons ⟨p, _, _, rfl, look_new upd_same (p1.sub.free hl), rfl, rfl⟩ .nil⟩, ?_, (show 1 < 60 by decide), fun F' H' d pu r nk => ⟨rfl, k _ _ _ d (p2.trans pu) r nk⟩⟩
    intro c hc
    rw [List.mem_singleton.mp hc]
    exact Int.le_refl 0
abbrev s_Turns_still : Stmt := inClass (top 61) 6
abbrev N_Turns_still : List Str := ["self"]
abbrev P_Turns_still : List Str := ["self"]
theorem sc_Turns_still : FnScope N_Turns_still P_Turns_still (defScope s_Turns_still) := ⟨rfl, rfl, rfl, by decide +kernel, rfl, by decide +kernel, by decide +kernel⟩
theorem bn_Turns_still : BindsNo "still" "Turns.still" s_Turns_still P_Turns_still := fun _ _ _ _ _ _ us hl => match us, hl with | [_], _ => rfl
def sp_still (CT CR : Addr) : Sp := fun vs H Q _ => ∃ (F : Hp) (v : V) (ks : Kinds), vs = [v] ∧ Same F H ∧ (RTurns CT).rel ks v F ∧ ∀ r F' H', Pu F H F' H' → (RRow CT CR).rel ⟨ks, []⟩ r F' → Q r H'
theorem ok_still (T : KlF K mg "Turns" CT ["pairs", "names", "periods", "ranks"]) {df : Addr} (hdf : ∀ H, SqT K H df []) (k2_Row : MakD P w K mg base 5 "Row" CR [.ref df] (sp_Row_init K CT CR)) (F : PrpF K CT "still" "Turns.still" s_Turns_still) : Prp P w K mg base 7 CT "still" (sp_still CT CR) := by
  refine F.prp T.cl sc_Turns_still bn_Turns_still (fun vs H Q E h => ?_) (fun f cdv A outer s H vs Q E hr h => ?_)
  · obtain ⟨_, _, _, rfl, _⟩ := h
    rfl
  · obtain ⟨F, v, ks, rfl, sF, rt, k⟩ := h
    refine ⟨_, (pss_one (ps_ret (pe_kD k2_Row hr (by decide) (pa_cons (pv 0) pa_nil) passL))), ?_⟩
    refine ⟨_, rfl, fun x dx hx hdx ne => ⟨F, _, x, dx, v, .ref df, ks, [], rfl, ⟨sF, hx, hdx, ne, rfl⟩, rt, ⟨df, [], rfl, .inr hdf, .nil⟩, (by simp), (by decide), fun F' H' pu r => ⟨rfl, k _ _ _ pu r⟩⟩⟩
abbrev s_Row_eq : Stmt := inClass (top 44) 11
abbrev N_Row_eq : List Str := ["self", "other"]
abbrev P_Row_eq : List Str := ["self", "other"]
theorem sc_Row_eq : FnScope N_Row_eq P_Row_eq (defScope s_Row_eq) := ⟨rfl, rfl, rfl, by decide +kernel, rfl, by decide +kernel, by decide +kernel⟩
theorem bn_Row_eq : BindsNo "__eq__" "Row.__eq__" s_Row_eq P_Row_eq := fun _ _ _ _ _ _ us hl => match us, hl with | [_, _], _ => rfl
def triD (d : Int × Int × Int) : PyData := .tuple [.int d.1, .int d.2.1, .int d.2.2]
theorem rd_tri : RD RTri triD := ⟨fun K d v F H s h => by
  obtain ⟨a, rfl, ha⟩ := h
  exact .tup (SqT.of (s _ _ ha)) (.cons (.int _) (.cons (.int _) (.cons (.int _) .nil)))⟩
theorem tri_lay (d : Int × Int × Int) : (triD d).canLay0 = true := by
  simp [triD, PyData.canLay0, PyData.canLayAll0]
theorem tri_dep (d : Int × Int × Int) : (triD d).depth ≤ 1 := by
  simp [triD, PyData.depth, PyData.depthAll]
theorem eqv_tri (d : Int × Int × Int) : PyData.eqv (triD d) (triD d) = true := by
  simp [triD, PyData.eqv, PyData.eqvAll]
theorem eqvAll_tris : ∀ ks : List (Int × Int × Int), PyData.eqvAll (ks.map triD) (ks.map triD) = true
  | [] => by simp [PyData.eqvAll]
  | d :: r => by
    rw [List.map_cons]
    simp only [PyData.eqvAll]
    rw [eqv_tri d, eqvAll_tris r]
    rfl
def trisD (ts : List (Int × Int × Int)) : PyData := .tuple (ts.map triD)
theorem eqv_tris (ts : List (Int × Int × Int)) : PyData.eqv (trisD ts) (trisD ts) = true := by
  unfold trisD
  simp only [PyData.eqv]
  exact eqvAll_tris ts
def keyD (d : RowD) : PyData := .tuple [.int d.ss.length, trisD (d.ss.map (keyOf d.ks)), kindsD d.ks]
theorem eqv_key (d : RowD) : PyData.eqv (keyD d) (keyD d) = true := by
  unfold keyD
  simp only [PyData.eqv, PyData.eqvAll, eqv_tris, eqv_kinds]
  simp
theorem kinds_lay {ks : Kinds} (h : ∀ d ∈ ks, nameOk d.1 = true) : (kindsD ks).canLay0 = true := lay_all fun d hd => step_lay (h d hd)
theorem shaped_key {d : RowD} (h : ∀ p ∈ d.ks, nameOk p.1 = true) : SeqAt.shaped (keyD d) = true :=
  shaped_of (by
    have a : PyData.canLayAll0 ((d.ss.map (keyOf d.ks)).map triD) = true := lay_all fun t _ => tri_lay t
    have b := kinds_lay h
    unfold keyD
    simp only [PyData.canLay0, PyData.canLayAll0, trisD, a, b, Bool.and_true, Bool.true_and]) (by
    have a : PyData.depthAll ((d.ss.map (keyOf d.ks)).map triD) ≤ 1 := dep_all fun t _ => tri_dep t
    have b : PyData.depthAll (d.ks.map stepD) ≤ 1 := dep_all (f := stepD) (n := 1) (ds := d.ks) fun d _ => step_dep d
    unfold keyD trisD kindsD
    simp only [PyData.depth, PyData.depthAll]
    omega)
def sp_Row_eq (CT CR : Addr) : Sp := fun vs H Q _ => ∃ (v u : V) (d : RowD), vs = [v, u] ∧ (RRow CT CR).rel d v H ∧ (RRow CT CR).rel d u H ∧ (∀ p ∈ d.ks, nameOk p.1 = true) ∧ ∀ H', Same H H' → Q (.bl true) H'
theorem ok_Row_eq (B : Bt mg) (R : KlF K mg "Row" CR ["turns", "steps", "key"]) (g_Row : mg "Row" = some (.ref CR)) (IR : InsF K CR) (F : MtF K CR "__eq__" "Row.__eq__" s_Row_eq []) : Met P w K mg base 1 CR "__eq__" (sp_Row_eq CT CR) := by
  refine F.met R.cl sc_Row_eq bn_Row_eq (fun vs H Q E h => ?_) (fun f cdv A outer s H vs Q E hr h => ?_)
  · obtain ⟨_, _, _, rfl, _⟩ := h
    rfl
  · obtain ⟨v, u, d, rfl, ⟨a, dx, ts, tk, tq, tp, tv, t⟩, ⟨b, dy, ts', tk', tq', tp', tv', t'⟩, ok, k⟩ := h
    refine ⟨_, (pss_cons (ps_if (pt_not (pt_val (pe_callB (k_isi (K := K)) (by rfl) B.isinstance (by decide +kernel) (pa_cons (pv 1) (pa_cons (pe_gr g_Row) pa_nil))))) (pss_one (ps_ret pe_no)) pss_nil)
    (pss_one (ps_ret (pe_cmpR (op_eqU hr (K := K)) (k_fld (pv 0) (K := K)) (k_fld (pv 1) (K := K)) (nomark _))))), ?_⟩
    have ty : TyX K H u (.ref CR) := by rw [t'.ev]; exact IR.ty t'.ob
    refine ⟨_, rfl, u, .ref CR, _, _, true, rfl, ClsV.own _, ty, kit_self, true, rfl, ?_⟩
    refine iteF ?_
    refine ⟨_, rfl, a, _, dx, _, _, t.ev, t.ob, R.cl, R.no _ (by decide), rfl, _, rfl, b, _, dy, _, _, t'.ev, t'.ob, R.cl, R.no _ (by decide), rfl, ?_⟩
    have dp : ∀ {tk tq tp : Addr}, H tk = some (.tup [.int d.ss.length, .ref tq, .ref tp]) → (Rp.tup RTri).rel (d.ss.map (keyOf d.ks)) (.ref tq) H → RKinds.rel d.ks (.ref tp) H → Dp K H (.ref tk) (keyD d) := fun h1 h2 h3 =>
      .tup (SqT.of h1) (.cons (.int _) (.cons ((RD.tup rd_tri).dp K _ _ H H (Same.refl _) h2) (.cons (rd_kinds.dp K _ _ H H (Same.refl _) h3) .nil)))
    refine .inr ⟨keyD d, keyD d, dp t.ke t.kq t.kp, dp t'.ke t'.kq t'.kp, shaped_key ok, shaped_key ok, ?_⟩
    rw [eqv_key]
    exact k _ (Same.refl _)
end
end TR

/-! part M1 -/
/-! The map of a book as it stands in the heap. -/
namespace TR
open PySem PySem.Spec PyProof.Rows L2 G
structure RingD where
  turn : Str
  modulus : Int
  seats : List (Nat × Int)
structure MapD where
  lf : Nat
  df : Nat
  laid : Nat
  drawn : Nat
  circles : List Nat
  spots : List Nat
  ring : Nat → RingD
  has : Nat → List Str
  lying : Nat → Str → List (Nat × Int)
  spotOf : List (Str × Nat)
/-- what stands where -/
inductive Ro where
  | map | circ | spots | lying | spotOf
  | lyD (s : Nat) | lyL (s : Nat) (n : Str) | ring (k : Nat) | seats (k : Nat)
deriving DecidableEq
abbrev Ad : Type := Ro → Addr
def live (md : MapD) : Ro → Prop
  | .lyD s => s < md.laid
  | .lyL s n => s < md.laid ∧ n ∈ md.has s
  | .ring k => k < md.drawn
  | .seats k => k < md.drawn
  | _ => True
/-- a row of a ring: a spot and its position -/
def RSeat : Rp (Nat × Int) := ⟨fun d v F => ∃ a, v = .ref a ∧ F a = some (.tup [.int (d.1 : Nat), .int d.2]), fun s ⟨a, e, h⟩ => ⟨a, e, s _ _ h⟩⟩
/-- a row of where a spot lies: a ring and the position there -/
def RLie (ad : Ad) : Rp (Nat × Int) := ⟨fun d v F => ∃ a, v = .ref a ∧ F a = some (.tup [.ref (ad (.ring d.1)), .int d.2]), fun s ⟨a, e, h⟩ => ⟨a, e, s _ _ h⟩⟩
def mapFs (md : MapD) (tv : V) (ad : Ad) : List (Str × V) := [("turns", tv), ("circles", .ref (ad .circ)), ("spots", .ref (ad .spots)), ("lying", .ref (ad .lying)), ("laid", .int (md.lf : Nat)), ("drawn", .int (md.df : Nat)), ("spot_of", .ref (ad .spotOf))]
def ringFs (k : Nat) (r : RingD) (ad : Ad) : List (Str × V) := [("number", .int (k : Nat)), ("turn", .str r.turn), ("modulus", .int r.modulus), ("seats", .ref (ad (.seats k)))]
def lyK (n : Nat) (ad : Ad) : List (L2.Key × V) := (List.range n).map fun (s : Nat) => (Sum.inl ((s : Nat) : Int), V.ref (ad (.lyD s)))
def lyDK (s : Nat) (ns : List Str) (ad : Ad) : List (L2.Key × V) := ns.map fun n => (Sum.inr n, V.ref (ad (.lyL s n)))
def spK (l : List (Str × Nat)) : List (L2.Key × V) := l.map fun p => (Sum.inr p.1, V.int (p.2 : Nat))
def Cont (CM CG : Addr) (md : MapD) (tv : V) (ad : Ad) (F : Hp) : Ro → HO → Prop
  | .map, o => ∃ dx, o = .ins CM dx (mapFs md tv ad)
  | .circ, o => o = .lst (md.circles.map fun k => V.ref (ad (.ring k)))
  | .spots, o => o = .lst (md.spots.map fun s => V.int (s : Nat))
  | .lying, o => o = .dK (lyK md.laid ad)
  | .spotOf, o => o = .dK (spK md.spotOf)
  | .lyD s, o => o = .dK (lyDK s (md.has s) ad)
  | .lyL s n, o => ∃ xs, o = .lst xs ∧ Paired (fun d x => (RLie ad).rel d x F) (md.lying s n) xs
  | .ring k, o => ∃ dx, o = .ins CG dx (ringFs k (md.ring k) ad)
  | .seats k, o => ∃ xs, o = .lst xs ∧ Paired (fun d x => RSeat.rel d x F) (md.ring k).seats xs
/-- numbers that are there alone -/
structure WfM (md : MapD) : Prop where
  ci : ∀ k ∈ md.circles, k < md.drawn
  ly : ∀ s n, s < md.laid → n ∈ md.has s → ∀ d ∈ md.lying s n, d.1 < md.drawn
  se : ∀ k, k < md.drawn → ∀ d ∈ (md.ring k).seats, d.1 < md.laid
/-- the rows of rings and of lying stand in F, what may change in S -/
structure MM (CM CG : Addr) (md : MapD) (tv : V) (ad : Ad) (F S : Hp) : Prop where
  at_ : ∀ r, live md r → ∃ o, S (ad r) = some o ∧ Cont CM CG md tv ad F r o
  inj : ∀ r r', live md r → live md r' → ad r = ad r' → r = r'
  wf : WfM md
/-- .. all of it standing still -/
structure RMapAt (CM CG : Addr) (md : MapD) (v tv : V) (ad : Ad) (F : Hp) : Prop where
  ev : v = .ref (ad .map)
  at_ : ∀ r, live md r → ∃ o, F (ad r) = some o ∧ Cont CM CG md tv ad F r o
  wf : WfM md
section
variable {CM CG : Addr} {md md' : MapD} {v tv : V} {ad ad' : Ad} {F S F' S' H : Hp}
theorem Cont.mono {r : Ro} {o : HO} (s : Same F F') (h : Cont CM CG md tv ad F r o) : Cont CM CG md tv ad F' r o := by
  cases r with
  | lyL a n =>
    obtain ⟨xs, e, p⟩ := h
    exact ⟨xs, e, pd_mono (fun _ _ => (RLie ad).mono s) p⟩
  | seats k =>
    obtain ⟨xs, e, p⟩ := h
    exact ⟨xs, e, pd_mono (fun _ _ => RSeat.mono s) p⟩
  | _ => exact h
theorem RMapAt.mono (s : Same F F') (h : RMapAt CM CG md v tv ad F) : RMapAt CM CG md v tv ad F' := ⟨h.ev, fun r hr => by
  obtain ⟨o, e, c⟩ := h.at_ r hr
  exact ⟨o, s _ _ e, c.mono s⟩, h.wf⟩
def RMap (CM CG CT : Addr) (ks : Kinds) : Rp MapD := ⟨fun md v F => ∃ tv ad, RMapAt CM CG md v tv ad F ∧ (RTurns CT).rel ks tv F, fun s ⟨tv, ad, h, t⟩ => ⟨tv, ad, h.mono s, (RTurns CT).mono s t⟩⟩
theorem MM.mono (s : Same F F') (h : MM CM CG md tv ad F S) : MM CM CG md tv ad F' S := ⟨fun r hr => by
  obtain ⟨o, e, c⟩ := h.at_ r hr
  exact ⟨o, e, c.mono s⟩, h.inj, h.wf⟩
theorem MM.still (d : Sp2 F S H) (h : MM CM CG md tv ad F S) : RMapAt CM CG md (.ref (ad .map)) tv ad (un F S) := ⟨rfl, fun r hr => by
  obtain ⟨o, e, c⟩ := h.at_ r hr
  exact ⟨o, un_s e, c.mono d.sun⟩, h.wf⟩
/-- one thing changes -/
theorem MM.put {r0 : Ro} {o : HO} (h : MM CM CG md tv ad F S) (h0 : live md r0) (hl : ∀ r, live md' r → live md r) (c0 : Cont CM CG md' tv ad F r0 o) (hc : ∀ r o, live md' r → r ≠ r0 → Cont CM CG md tv ad F r o → Cont CM CG md' tv ad F r o) (wf : WfM md') :
    MM CM CG md' tv ad F (upd S (ad r0) o) := by
  refine ⟨fun r hr => ?_, fun r r' a b e => h.inj r r' (hl r a) (hl r' b) e, wf⟩
  by_cases e : r = r0
  · subst e
    exact ⟨o, upd_same, c0⟩
  · obtain ⟨u, e1, c⟩ := h.at_ r (hl r hr)
    exact ⟨u, by rw [upd_ne (fun z => e (h.inj _ _ (hl r hr) h0 z))]; exact e1, hc r u hr e c⟩
/-- whatever changes (R: what is new or not as it was) -/
theorem MM.gen (h : MM CM CG md tv ad F S) (R : Ro → Prop) (hl : ∀ r, live md' r → ¬ R r → live md r) (ha : ∀ r, live md r → ¬ R r → ad' r = ad r) (hs : ∀ r, live md r → ¬ R r → S' (ad r) = S (ad r)) (hc : ∀ r o, live md r → ¬ R r → Cont CM CG md tv ad F r o → Cont CM CG md' tv ad' F r o)
    (hR : ∀ r, live md' r → R r → ∃ o, S' (ad' r) = some o ∧ Cont CM CG md' tv ad' F r o) (inj : ∀ r r', live md' r → R r → live md' r' → ad' r = ad' r' → r = r') (wf : WfM md') : MM CM CG md' tv ad' F S' := by
  refine ⟨fun r hr => ?_, fun r r' a b e => ?_, wf⟩
  · by_cases q : R r
    · exact hR r hr q
    · have l := hl r hr q
      obtain ⟨o, e, c⟩ := h.at_ r l
      exact ⟨o, by rw [ha r l q, hs r l q]; exact e, hc r o l q c⟩
  · by_cases q : R r
    · exact inj r r' a q b e
    · by_cases q' : R r'
      · exact (inj r' r b q' a e.symm).symm
      · have l := hl r a q
        have l' := hl r' b q'
        rw [ha r l q, ha r' l' q'] at e
        exact h.inj r r' l l' e
/-- the addresses with one more -/
def adU (ad : Ad) (r : Ro) (p : Addr) : Ad := fun x => if x = r then p else ad x
theorem adU_same {r : Ro} {p : Addr} : adU ad r p r = p := if_pos rfl
theorem adU_ne {r x : Ro} {p : Addr} (h : x ≠ r) : adU ad r p x = ad x := if_neg h
/-- one more thing comes to stand at p, of one's own already -/
theorem MM.add {r0 : Ro} {o : HO} {p : Addr} (h : MM CM CG md tv ad F S) (hp : S p = some o) (np : ∀ r, live md r → ad r ≠ p) (n0 : ¬ live md r0) (hl : ∀ r, live md' r → live md r ∨ r = r0) (c0 : Cont CM CG md' tv (adU ad r0 p) F r0 o)
    (hc : ∀ r o, live md r → r ≠ r0 → Cont CM CG md tv ad F r o → Cont CM CG md' tv (adU ad r0 p) F r o) (wf : WfM md') : MM CM CG md' tv (adU ad r0 p) F S := by
  have ne : ∀ r, live md r → r ≠ r0 := fun r hr e => n0 (e ▸ hr)
  refine ⟨fun r hr => ?_, fun r r' a b e => ?_, wf⟩
  · rcases hl r hr with z | z
    · obtain ⟨u, e1, c⟩ := h.at_ r z
      exact ⟨u, by rw [adU_ne (ne r z)]; exact e1, hc r u z (ne r z) c⟩
    · subst z
      exact ⟨o, by rw [adU_same]; exact hp, c0⟩
  · rcases hl r a with z | z <;> rcases hl r' b with y | y
    · rw [adU_ne (ne r z), adU_ne (ne r' y)] at e
      exact h.inj r r' z y e
    · subst y
      rw [adU_ne (ne r z), adU_same] at e
      exact absurd e (np r z)
    · subst z
      rw [adU_ne (ne r' y), adU_same] at e
      exact absurd e.symm (np r' y)
    · rw [z, y]
end
end TR

/-! part M2 -/
/-! Reading a map: place, spot_at, ring_at, after, walk. -/
namespace TR
open PySem PySem.Spec PyProof.Rows L2 G
def placeI (m p : Int) : Int := if 0 < m then p % m else p
structure RingAt (CG : Addr) (k : Nat) (r : RingD) (v : V) (F : Hp) (a dx ls : Addr) (xs : List V) : Prop where
  ev : v = .ref a
  ob : F a = some (.ins CG dx [("number", .int (k : Nat)), ("turn", .str r.turn), ("modulus", .int r.modulus), ("seats", .ref ls)])
  se : F ls = some (.lst xs)
  pd : Paired (fun d x => RSeat.rel d x F) r.seats xs
def RRing (CG : Addr) (k : Nat) : Rp RingD := ⟨fun r v F => ∃ a dx ls xs, RingAt CG k r v F a dx ls xs, fun s ⟨a, dx, ls, xs, h⟩ => ⟨a, dx, ls, xs, h.ev, s _ _ h.ob, s _ _ h.se, pd_mono (fun _ _ => RSeat.mono s) h.pd⟩⟩
def spotAt (r : RingD) (p : Int) : Option Nat := (r.seats.find? fun d => decide (placeI r.modulus d.2 = placeI r.modulus p)).map (·.1)
def ofSp : Option Nat → V
  | none => .non
  | some s => .int (s : Nat)
section
variable {CM CG : Addr} {md : MapD} {v tv : V} {ad : Ad} {F : Hp}
theorem RMapAt.ring (h : RMapAt CM CG md v tv ad F) {k : Nat} (hk : k < md.drawn) : (RRing CG k).rel (md.ring k) (.ref (ad (.ring k))) F := by
  obtain ⟨o, e, dx, rfl⟩ := h.at_ (.ring k) hk
  obtain ⟨o2, e2, xs, rfl, pd⟩ := h.at_ (.seats k) hk
  exact ⟨_, dx, _, xs, rfl, e, e2, pd⟩
theorem RMapAt.ob (h : RMapAt CM CG md v tv ad F) : ∃ dx, F (ad .map) = some (.ins CM dx (mapFs md tv ad)) := by
  obtain ⟨o, e, dx, rfl⟩ := h.at_ .map trivial
  exact ⟨dx, e⟩
theorem lyK_at {n s : Nat} {ad : Ad} (h : s < n) : valV (lyK n ad) (Sum.inl (s : Int)) = some (.ref (ad (.lyD s))) := by
  unfold lyK
  have : ∀ (l : List Nat), s ∈ l → valV (l.map fun (s : Nat) => ((Sum.inl ((s : Nat) : Int) : L2.Key), V.ref (ad (.lyD s)))) (Sum.inl (s : Int)) = some (.ref (ad (.lyD s))) := by
    intro l
    induction l with
    | nil => intro h; cases h
    | cons a r ih =>
      intro h
      rw [List.map_cons]
      by_cases e : a = s
      · subst e; exact valV_pos rfl
      · rw [valV_neg (fun z => e (by have := Sum.inl.inj z; omega))]
        rcases List.mem_cons.mp h with z | z
        · exact absurd z.symm e
        · exact ih z
  exact this _ (List.mem_range.mpr h)
theorem dgetV {H : Hp} {a : Addr} {kvs : List (L2.Key × V)} {k : L2.Key} {v : V} (e : H a = some (.dK kvs)) (h : valV kvs k = some v) : DGet H a (kV k) (some v) := h ▸ DGet.k e
theorem lyDK_at {s : Nat} {ns : List Str} {n : Str} {ad : Ad} (h : n ∈ ns) : valV (lyDK s ns ad) (Sum.inr n) = some (.ref (ad (.lyL s n))) := by
  unfold lyDK
  induction ns with
  | nil => cases h
  | cons a r ih =>
    rw [List.map_cons]
    by_cases e : a = n
    · subst e; exact valV_pos rfl
    · rw [valV_neg (fun z => e (Sum.inr.inj z))]
      rcases List.mem_cons.mp h with z | z
      · exact absurd z.symm e
      · exact ih z
end
section
variable {P : Program} {w : World} {K : PySem.W.Frag} {mg : Str → Option Value} {base : Heap} {CT CG CM CR : Addr}
abbrev s_Ring_place : Stmt := inClass (top 13) 1
abbrev N_Ring_place : List Str := ["self", "position"]
abbrev P_Ring_place : List Str := ["self", "position"]
theorem sc_Ring_place : FnScope N_Ring_place P_Ring_place (defScope s_Ring_place) := ⟨rfl, rfl, rfl, by decide +kernel, rfl, by decide +kernel, by decide +kernel⟩
theorem bn_Ring_place : BindsNo "place" "Ring.place" s_Ring_place P_Ring_place := fun _ _ _ _ _ _ us hl => match us, hl with | [_, _], _ => rfl
def sp_place (CG : Addr) : Sp := fun vs H Q _ => ∃ (F : Hp) (v : V) (k : Nat) (r : RingD) (p : Int), vs = [v, .int p] ∧ Same F H ∧ (RRing CG k).rel r v F ∧ ∀ H', Same H H' → Q (.int (placeI r.modulus p)) H'
theorem ok_place (RG : KlF K mg "Ring" CG ["number", "turn", "modulus", "seats"]) (F : MtF K CG "place" "Ring.place" s_Ring_place []) : Met P w K mg base 1 CG "place" (sp_place CG) := by
  refine F.met RG.cl sc_Ring_place bn_Ring_place (fun vs H Q E h => ?_) (fun f cdv A outer s H vs Q E hr h => ?_)
  · obtain ⟨_, _, _, _, _, rfl, _⟩ := h
    rfl
  · obtain ⟨F, v, k, r, p, rfl, sF, ⟨a, dx, ls, xs, h⟩, q⟩ := h
    have q' := q H (Same.refl _)
    refine ⟨_, (pss_one (ps_ret (pe_ifExp (pt_cmpR op_gt (k_fld (pv 0) (K := K)) pe_int (nomark _)) (pe_op op_mod (pv 1) (k_fld (pv 0) (K := K))) (pv 1)))), ?_⟩
    refine ⟨_, rfl, a, CG, dx, _, _, h.ev, sF _ _ h.ob, RG.cl, RG.no _ (by decide), rfl, ?_⟩
    refine ⟨_, _, rfl, rfl, _, rfl, ?_⟩
    by_cases h0 : r.modulus > 0
    · rw [decide_eq_true h0]
      rw [show placeI r.modulus p = p % r.modulus from if_pos h0] at q'
      exact ⟨_, rfl, _, rfl, a, CG, dx, _, _, h.ev, sF _ _ h.ob, RG.cl, RG.no _ (by decide), rfl, _, _, rfl, rfl, h0, q'⟩
    · rw [decide_eq_false h0]
      rw [show placeI r.modulus p = p from if_neg h0] at q'
      exact ⟨_, rfl, q'⟩
abbrev s_Ring_spot_at : Stmt := inClass (top 13) 2
abbrev N_Ring_spot_at : List Str := ["self", "position", "wanted", "spot", "here"]
abbrev P_Ring_spot_at : List Str := ["self", "position"]
theorem sc_Ring_spot_at : FnScope N_Ring_spot_at P_Ring_spot_at (defScope s_Ring_spot_at) := ⟨rfl, rfl, rfl, by decide +kernel, rfl, by decide +kernel, by decide +kernel⟩
theorem bn_Ring_spot_at : BindsNo "spot_at" "Ring.spot_at" s_Ring_spot_at P_Ring_spot_at := fun _ _ _ _ _ _ us hl => match us, hl with | [_, _], _ => rfl
def sp_spot_at (CG : Addr) : Sp := fun vs H Q _ => ∃ (F : Hp) (v : V) (k : Nat) (r : RingD) (p : Int), vs = [v, .int p] ∧ Same F H ∧ (RRing CG k).rel r v F ∧ r.seats.length ≤ 10000 ∧ ∀ H', Same H H' → Q (ofSp (spotAt r p)) H'
theorem find_drop {α : Type} {p : α → Bool} {l : List α} {i : Nat} {d : α} (h : l[i]? = some d) : (l.drop i).find? p = if p d = true then some d else (l.drop (i + 1)).find? p := by
  have hlt := (List.getElem?_eq_some_iff.mp h).1
  rw [List.drop_eq_getElem_cons hlt, (List.getElem?_eq_some_iff.mp h).2, List.find?_cons]
  cases p d <;> simp
theorem ok_spot_at (RG : KlF K mg "Ring" CG ["number", "turn", "modulus", "seats"]) (m_place : Met P w K mg base 1 CG "place" (sp_place CG)) (F : MtF K CG "spot_at" "Ring.spot_at" s_Ring_spot_at []) : Met P w K mg base 2 CG "spot_at" (sp_spot_at CG) := by
  refine F.met RG.cl sc_Ring_spot_at bn_Ring_spot_at (fun vs H Q E h => ?_) (fun f cdv A outer s H vs Q E hr h => ?_)
  · obtain ⟨_, _, _, _, _, rfl, _⟩ := h
    rfl
  · obtain ⟨F, v, k, r, p, rfl, sF, ⟨a, dx, ls, xs, h⟩, hlen, q⟩ := h
    have rr : (RRing CG k).rel r v F := ⟨a, dx, ls, xs, h⟩
    have hxl : xs.length = r.seats.length := pd_len h.pd
    let tst : Nat × Int → Bool := fun d => decide (placeI r.modulus d.2 = placeI r.modulus p)
    refine ⟨_, (pss_cons (ps_set (i := 2) sc_Ring_spot_at.nd rfl (Or.inl rfl) (pe_m m_place hr (by decide) (pv 0) (pa_cons (pv 1) pa_nil) passL))
    (pss_cons (ps_for (passes_of rfl) rfl (k_il (k_fld (pv 0) (K := K)) (K := K)) (k_tup (n := 2) rfl (pgs_cons (pg_name (i := 3) sc_Ring_spot_at.nd rfl (Or.inl rfl)) (pgs_cons (pg_name (i := 4) sc_Ring_spot_at.nd rfl (Or.inl rfl)) pgs_nil)) (K := K))
    (pss_one (ps_if (pt_cmpR (op_eqU hr (K := K)) (pe_m m_place hr (by decide) (pv 0) (pa_cons (pv 4) pa_nil) passL) (pv 2) (nomark _)) (pss_one (ps_ret (pv 3))) pss_nil)))
    (pss_one (ps_ret pe_non)))), ?_⟩
    refine ⟨_, rfl, a, dx, _, h.ev, sF _ _ h.ob, rfl, _, rfl, F, v, k, r, p, rfl, sF, rr, fun H1 s1 => ?_⟩
    refine ⟨_, rfl, a, CG, dx, _, _, h.ev, s1 _ _ (sF _ _ h.ob), RG.cl, RG.no _ (by decide), rfl, ls, rfl, ⟨_, SqL.of (s1 _ _ (sF _ _ h.se))⟩, ?_⟩
    refine for_it (walk_list (xs := xs)) (fun i σ H' => ∃ (x3 x4 : Option V), Same H H' ∧ spotAt r p = ((r.seats.drop i).find? tst).map (·.1) ∧ σ = [some v, some (.int p), some (.int (placeI r.modulus p)), x3, x4]) ⟨none, none, s1, rfl, rfl⟩ (fun i σ H' _ ⟨_, _, s2, _⟩ => SqL.of (s2 _ _ (sF _ _ h.se))) ?_ ?_
    · rintro i y σ H' H'' hi ⟨x3, x4, s2, hf, rfl⟩ ⟨e1, hy⟩
      subst e1
      obtain ⟨d, hd, t, rfl, ht⟩ := pd_get h.pd hy
      rw [find_drop hd] at hf
      refine ⟨t, _, rfl, SqT.of (s2 _ _ (sF _ _ ht)), rfl, _, _, rfl, _, _, rfl, rfl, ?_⟩
      refine ⟨_, rfl, a, dx, _, h.ev, s2 _ _ (sF _ _ h.ob), rfl, _, rfl, F, v, k, r, d.2, rfl, sF.trans s2, rr, fun H3 s3 => ?_⟩
      refine ⟨_, rfl, .inl ⟨rfl, _, rfl, ?_⟩⟩
      by_cases e : placeI r.modulus d.2 = placeI r.modulus p
      · rw [decide_eq_true (congrArg V.int e)]
        rw [if_pos (show tst d = true from decide_eq_true e)] at hf
        have q' := q H3 (s2.trans s3)
        rw [hf] at q'
        exact iteT ⟨_, rfl, q'⟩
      · rw [decide_eq_false (fun z => e (V.int.inj z))]
        rw [if_neg (show ¬ tst d = true from fun z => e (of_decide_eq_true z))] at hf
        exact iteF ⟨_, _, s2.trans s3, hf, rfl⟩
    · rintro σ H' ⟨x3, x4, s2, hf, rfl⟩
      rw [hxl, List.drop_length] at hf
      have q' := q H' s2
      rw [hf] at q'
      exact q'
end
end TR

/-! part M3 -/
/-! Walking on a map. -/
namespace TR
open PySem PySem.Spec PyProof.Rows L2 G
def afterM (md : MapD) (s : Nat) (st : Str × Int) : Option Nat := match (md.lying s st.1).head? with
  | some d => spotAt (md.ring d.1) (placeI (md.ring d.1).modulus d.2 + st.2)
  | none => none
def walkM (md : MapD) : Option Nat → Steps → Option Nat
  | o, [] => o
  | none, _ :: _ => none
  | some s, st :: r => walkM md (afterM md s st) r
theorem walkM_none (md : MapD) : ∀ ss, walkM md none ss = none
  | [] => rfl
  | _ :: _ => rfl
/-- each spot lies on one ring of each turn, at one position -/
structure Full (ks : Kinds) (md : MapD) : Prop where
  lt : ∀ s ∈ md.spots, s < md.laid
  has : ∀ s ∈ md.spots, md.has s = ks.map (·.1)
  one : ∀ s ∈ md.spots, ∀ n ∈ ks.map (·.1), ∃ d, md.lying s n = [d] ∧ (md.ring d.1).turn = n ∧ (s, d.2) ∈ (md.ring d.1).seats
  se : ∀ k, k < md.drawn → ∀ d ∈ (md.ring k).seats, d.1 ∈ md.spots
  sz : ∀ k, k < md.drawn → (md.ring k).seats.length ≤ 1000
theorem spotAt_mem {r : RingD} {p : Int} {s : Nat} (h : spotAt r p = some s) : ∃ d ∈ r.seats, d.1 = s := by
  unfold spotAt at h
  obtain ⟨d, h1, h2⟩ := Option.map_eq_some_iff.mp h
  exact ⟨d, List.mem_of_find?_eq_some h1, h2⟩
theorem afterM_mem {ks : Kinds} {md : MapD} (f : Full ks md) (wf : WfM md) {s s' : Nat} {st : Str × Int} (hs : s ∈ md.spots) (hn : st.1 ∈ ks.map (·.1)) (h : afterM md s st = some s') : s' ∈ md.spots := by
  obtain ⟨d, h1, h2, h3⟩ := f.one s hs st.1 hn
  unfold afterM at h
  rw [h1] at h
  obtain ⟨e, he, rfl⟩ := spotAt_mem (show spotAt (md.ring d.1) (placeI (md.ring d.1).modulus d.2 + st.2) = some s' from h)
  have hd : d.1 < md.drawn := wf.ly s st.1 (f.lt s hs) (by rw [f.has s hs]; exact hn) d (by rw [h1]; exact List.mem_singleton.mpr rfl)
  exact f.se d.1 hd e he
section
variable {P : Program} {w : World} {K : PySem.W.Frag} {mg : Str → Option Value} {base : Heap} {CT CG CM CR : Addr}
abbrev mapNames : List Str := ["turns", "circles", "spots", "lying", "laid", "drawn", "spot_of"]
abbrev s_RingMap_ring_at : Stmt := inClass (top 14) 15
abbrev N_RingMap_ring_at : List Str := ["self", "spot", "name", "ring", "position"]
abbrev P_RingMap_ring_at : List Str := ["self", "spot", "name"]
theorem sc_RingMap_ring_at : FnScope N_RingMap_ring_at P_RingMap_ring_at (defScope s_RingMap_ring_at) := ⟨rfl, rfl, rfl, by decide +kernel, rfl, by decide +kernel, by decide +kernel⟩
theorem bn_RingMap_ring_at : BindsNo "ring_at" "RingMap.ring_at" s_RingMap_ring_at P_RingMap_ring_at := fun _ _ _ _ _ _ us hl => match us, hl with | [_, _, _], _ => rfl
def sp_ring_at (CM CG : Addr) : Sp := fun vs H Q _ => ∃ (F : Hp) (md : MapD) (v tv : V) (ad : Ad) (s : Nat) (n : Str) (d : Nat × Int), vs = [v, .int (s : Nat), .str n] ∧ Same F H ∧ RMapAt CM CG md v tv ad F ∧ s < md.laid ∧ n ∈ md.has s ∧ (md.lying s n).head? = some d ∧
  ∀ q F' H', Pu F H F' H' → F' q = some (.tup [.ref (ad (.ring d.1)), .int (placeI (md.ring d.1).modulus d.2)]) → Q (.ref q) H'
theorem ok_ring_at (RM : KlF K mg "RingMap" CM mapNames) (m_place : Met P w K mg base 1 CG "place" (sp_place CG)) (F : MtF K CM "ring_at" "RingMap.ring_at" s_RingMap_ring_at []) : Met P w K mg base 2 CM "ring_at" (sp_ring_at CM CG) := by
  refine F.met RM.cl sc_RingMap_ring_at bn_RingMap_ring_at (fun vs H Q E h => ?_) (fun f cdv A outer s H vs Q E hr h => ?_)
  · obtain ⟨_, _, _, _, _, _, _, _, rfl, _⟩ := h
    rfl
  · obtain ⟨F, md, v, tv, ad, s, n, d, rfl, sF, rm, hs, hn, hd, q⟩ := h
    obtain ⟨dx, ho⟩ := rm.ob
    obtain ⟨_, hly, rfl⟩ := rm.at_ .lying trivial
    obtain ⟨_, hlyD, rfl⟩ := rm.at_ (.lyD s) hs
    obtain ⟨_, hlyL, xs, rfl, pd⟩ := rm.at_ (.lyL s n) ⟨hs, hn⟩
    have hd0 : (md.lying s n)[0]? = some d := by rw [← List.head?_eq_getElem?]; exact hd
    obtain ⟨x, hx, t, rfl, ht⟩ := pd_get' pd hd0
    have hdk : d.1 < md.drawn := rm.wf.ly s n hs hn d (List.mem_of_getElem? hd0)
    have e := rm.ev
    subst e
    refine ⟨_, (pss_cons (ps_asg (pe_ix (k_ix (K := K)) (pe_dget (hu_of hr) (pe_dget (hu_of hr) (k_fld (pv 0) (K := K)) (pv 1) (fun _ _ => rfl)) (pv 2) (fun _ _ => rfl)) pe_int (fun _ _ => rfl)) (k_tup (n := 2) rfl (pgs_cons (pg_name (i := 3) sc_RingMap_ring_at.nd rfl (Or.inl rfl)) (pgs_cons (pg_name (i := 4) sc_RingMap_ring_at.nd rfl (Or.inl rfl)) pgs_nil)) (K := K)))
    (pss_one (ps_ret (pe_tup (pa_cons (pv 3) (pa_cons (pe_m m_place hr (by decide) (pv 3) (pa_cons (pv 4) pa_nil) passL) pa_nil)))))), ?_⟩
    refine ⟨_, rfl, _, CM, dx, _, _, rfl, sF _ _ ho, RM.cl, RM.no _ (by decide), rfl, _, rfl, _, _, rfl, dgetV (k := Sum.inl (s : Int)) (sF _ _ hly) (lyK_at hs), ?_⟩
    refine ⟨_, rfl, _, _, rfl, dgetV (k := Sum.inr n) (sF _ _ hlyD) (lyDK_at hn), ?_⟩
    refine .inl ⟨_, xs, 0, _, rfl, rfl, SqL.of (sF _ _ hlyL), atI_nat (j := 0) hx, ?_⟩
    refine ⟨t, _, rfl, SqT.of (sF _ _ ht), rfl, _, _, rfl, _, _, rfl, rfl, ?_⟩
    obtain ⟨a, gx, ls, ys, hr0⟩ := rm.ring hdk
    refine ⟨_, rfl, _, rfl, a, gx, _, hr0.ev, sF _ _ hr0.ob, rfl, _, rfl, F, _, d.1, md.ring d.1, d.2, rfl, sF, rm.ring hdk, fun H1 s1 => ?_⟩
    refine ⟨sz (n := 2) (by decide), fun r hr => ?_⟩
    exact q r (upd F r _) _ (((Pu.refl sF).trans ⟨s1, Grow.tmp sF s1⟩).add hr) upd_same
abbrev s_RingMap_after : Stmt := inClass (top 14) 16
abbrev N_RingMap_after : List Str := ["self", "spot", "step", "ring", "position"]
abbrev P_RingMap_after : List Str := ["self", "spot", "step"]
theorem sc_RingMap_after : FnScope N_RingMap_after P_RingMap_after (defScope s_RingMap_after) := ⟨rfl, rfl, rfl, by decide +kernel, rfl, by decide +kernel, by decide +kernel⟩
theorem bn_RingMap_after : BindsNo "after" "RingMap.after" s_RingMap_after P_RingMap_after := fun _ _ _ _ _ _ us hl => match us, hl with | [_, _, _], _ => rfl
def sp_after (CM CG : Addr) : Sp := fun vs H Q _ => ∃ (F : Hp) (ks : Kinds) (md : MapD) (v u tv : V) (ad : Ad) (s : Nat) (st : Str × Int), vs = [v, .int (s : Nat), u] ∧ Same F H ∧ RMapAt CM CG md v tv ad F ∧ Full ks md ∧ RStep.rel st u F ∧ s ∈ md.spots ∧ st.1 ∈ ks.map (·.1) ∧
  ∀ H', Same H H' → Q (ofSp (afterM md s st)) H'
theorem ok_after (RM : KlF K mg "RingMap" CM mapNames) (m_ring_at : Met P w K mg base 2 CM "ring_at" (sp_ring_at CM CG)) (m_spot_at : Met P w K mg base 2 CG "spot_at" (sp_spot_at CG)) (F : MtF K CM "after" "RingMap.after" s_RingMap_after []) : Met P w K mg base 3 CM "after" (sp_after CM CG) := by
  refine F.met RM.cl sc_RingMap_after bn_RingMap_after (fun vs H Q E h => ?_) (fun f cdv A outer s H vs Q E hr h => ?_)
  · obtain ⟨_, _, _, _, _, _, _, _, _, rfl, _⟩ := h
    rfl
  · obtain ⟨F, ks, md, v, u, tv, ad, s, st, rfl, sF, rm, fl, ⟨t, y1, y2, rfl, ht, rfl, rfl⟩, hs, hn, q⟩ := h
    obtain ⟨dx, ho⟩ := rm.ob
    obtain ⟨d, h1, h2, h3⟩ := fl.one s hs st.1 hn
    have hn' : st.1 ∈ md.has s := by rw [fl.has s hs]; exact hn
    have hdk : d.1 < md.drawn := rm.wf.ly s st.1 (fl.lt s hs) hn' d (by rw [h1]; exact List.mem_singleton.mpr rfl)
    have e := rm.ev
    subst e
    refine ⟨_, (pss_cons (ps_asg (pe_m m_ring_at hr (by decide) (pv 0) (pa_cons (pv 1) (pa_cons (pe_ix (k_ix (K := K)) (pv 2) pe_int (fun _ _ => rfl)) pa_nil)) passL) (k_tup (n := 2) rfl (pgs_cons (pg_name (i := 3) sc_RingMap_after.nd rfl (Or.inl rfl)) (pgs_cons (pg_name (i := 4) sc_RingMap_after.nd rfl (Or.inl rfl)) pgs_nil)) (K := K)))
    (pss_one (ps_ret (pe_m m_spot_at hr (by decide) (pv 3) (pa_cons (pe_op op_addU (pv 4) (pe_ix (k_ix (K := K)) (pv 2) pe_int (fun _ _ => rfl))) pa_nil) passL)))), ?_⟩
    refine ⟨_, rfl, _, dx, _, rfl, sF _ _ ho, rfl, _, rfl, _, rfl, .inr (.inl ⟨t, _, 0, _, rfl, rfl, SqT.of (sF _ _ ht), atI_nat (j := 0) rfl, ?_⟩)⟩
    refine ⟨F, md, _, tv, ad, s, st.1, d, rfl, sF, rm, fl.lt s hs, hn', by rw [h1]; rfl, fun r F1 H1 q1 hr1 => ?_⟩
    refine ⟨r, _, rfl, SqT.of (q1.sub _ _ hr1), rfl, _, _, rfl, _, _, rfl, rfl, ?_⟩
    obtain ⟨a, gx, ls, ys, hr0⟩ := rm.ring hdk
    have s1 := q1.ff.trans q1.sub
    refine ⟨_, rfl, a, gx, _, hr0.ev, s1 _ _ hr0.ob, rfl, _, rfl, _, rfl, .inr (.inl ⟨t, _, 1, _, rfl, rfl, SqT.of (s1 _ _ ht), atI_nat (j := 1) rfl, .inl ⟨_, _, rfl, rfl, ?_⟩⟩)⟩
    refine ⟨F, _, d.1, md.ring d.1, placeI (md.ring d.1).modulus d.2 + st.2, rfl, s1, rm.ring hdk, by have := fl.sz d.1 hdk; omega, fun H2 s2 => ?_⟩
    have q' := q H2 (q1.same.trans s2)
    rw [show afterM md s st = spotAt (md.ring d.1) (placeI (md.ring d.1).modulus d.2 + st.2) by unfold afterM; rw [h1]; rfl] at q'
    exact q'
abbrev s_RingMap_walk : Stmt := inClass (top 14) 17
abbrev N_RingMap_walk : List Str := ["self", "spot", "row", "step"]
abbrev P_RingMap_walk : List Str := ["self", "spot", "row"]
theorem sc_RingMap_walk : FnScope N_RingMap_walk P_RingMap_walk (defScope s_RingMap_walk) := ⟨rfl, rfl, rfl, by decide +kernel, rfl, by decide +kernel, by decide +kernel⟩
theorem bn_RingMap_walk : BindsNo "walk" "RingMap.walk" s_RingMap_walk P_RingMap_walk := fun _ _ _ _ _ _ us hl => match us, hl with | [_, _, _], _ => rfl
def sp_walk (CM CG CT CR : Addr) : Sp := fun vs H Q _ => ∃ (F : Hp) (md : MapD) (v u tv : V) (ad : Ad) (o : Option Nat) (d : RowD), vs = [v, ofSp o, u] ∧ Same F H ∧ RMapAt CM CG md v tv ad F ∧ Full d.ks md ∧ (RRow CT CR).rel d u F ∧ (∀ s, o = some s → s ∈ md.spots) ∧ (∀ st ∈ d.ss, st.1 ∈ d.ks.map (·.1)) ∧ d.ss.length ≤ 10000 ∧
  ∀ H', Same H H' → Q (ofSp (walkM md o d.ss)) H'
theorem ok_walk (RM : KlF K mg "RingMap" CM mapNames) (R : KlF K mg "Row" CR ["turns", "steps", "key"]) (m_after : Met P w K mg base 3 CM "after" (sp_after CM CG)) (F : MtF K CM "walk" "RingMap.walk" s_RingMap_walk []) : Met P w K mg base 4 CM "walk" (sp_walk CM CG CT CR) := by
  refine F.met RM.cl sc_RingMap_walk bn_RingMap_walk (fun vs H Q E h => ?_) (fun f cdv A outer s H vs Q E hr h => ?_)
  · obtain ⟨_, _, _, _, _, _, _, _, rfl, _⟩ := h
    rfl
  · obtain ⟨F, md, v, u, tv, ad, o, d, rfl, sF, rm, fl, ⟨a, dx, ts, tk, tq, tp, tv', ra⟩, ho, hss, hlen, q⟩ := h
    obtain ⟨mx, hob⟩ := rm.ob
    obtain ⟨_, xs, e, hts, pd⟩ := ra.st
    cases e
    have hxl : xs.length = d.ss.length := pd_len pd
    have e := rm.ev
    subst e
    refine ⟨_, (pss_cons (ps_for (passes_of rfl) rfl (k_it (k_fld (pv 2) (K := K)) (K := K)) (pg_name (i := 3) sc_RingMap_walk.nd rfl (Or.inl rfl))
    (pss_cons (ps_if (pt_cmpR op_isN (pv 1) pe_non (nomark _)) (pss_one (ps_ret pe_non)) pss_nil)
    (pss_one (ps_set (i := 1) sc_RingMap_walk.nd rfl (Or.inl rfl) (pe_m m_after hr (by decide) (pv 0) (pa_cons (pv 1) (pa_cons (pv 3) pa_nil)) passL)))))
    (pss_one (ps_ret (pv 1)))), ?_⟩
    refine ⟨_, rfl, a, CR, dx, _, _, ra.ev, sF _ _ ra.ob, R.cl, R.no _ (by decide), rfl, ts, rfl, ⟨_, SqT.of (sF _ _ hts)⟩, ?_⟩
    refine for_it (walk_tup (xs := xs)) (fun i σ H' => ∃ (o' : Option Nat) (x3 : Option V), Same H H' ∧ walkM md o d.ss = walkM md o' (d.ss.drop i) ∧ (∀ s, o' = some s → s ∈ md.spots) ∧ σ = [some (.ref (ad .map)), some (ofSp o'), some u, x3]) ⟨o, none, Same.refl _, rfl, ho, rfl⟩ (fun i σ H' _ ⟨_, _, s1, _⟩ => SqT.of (s1 _ _ (sF _ _ hts))) ?_ ?_
    · rintro i y σ H' H'' hi ⟨o', x3, s1, hw, ho', rfl⟩ ⟨e1, hy⟩
      subst e1
      obtain ⟨st, hst, hrs⟩ := pd_get pd hy
      have hdrop : d.ss.drop i = st :: d.ss.drop (i + 1) := by
        have hlt := (List.getElem?_eq_some_iff.mp hst).1
        rw [List.drop_eq_getElem_cons hlt, (List.getElem?_eq_some_iff.mp hst).2]
      rw [hdrop] at hw
      cases o' with
      | none =>
        refine ⟨_, rfl, rfl, _, rfl, ?_⟩
        rw [decide_eq_true (show ofSp none = V.non from rfl)]
        have q' := q _ s1
        rw [hw, walkM_none] at q'
        exact iteT q'
      | some s0 =>
        have hs0 := ho' s0 rfl
        refine ⟨_, rfl, rfl, _, rfl, ?_⟩
        rw [decide_eq_false (show ¬ ofSp (some s0) = V.non from fun z => by cases z)]
        refine iteF ⟨_, rfl, _, mx, _, rfl, s1 _ _ (sF _ _ hob), rfl, _, rfl, _, rfl, F, d.ks, md, _, y, tv, ad, s0, st, rfl, sF.trans s1, rm, fl, hrs, hs0, hss st (List.mem_of_getElem? hst), fun H2 s2 => ?_⟩
        exact ⟨afterM md s0 st, some y, s1.trans s2, hw, fun s' e => afterM_mem fl rm.wf hs0 (hss st (List.mem_of_getElem? hst)) e, rfl⟩
    · rintro σ H' ⟨o', x3, s1, hw, ho', rfl⟩
      rw [hxl, List.drop_length] at hw
      have q' := q H' s1
      rw [hw] at q'
      cases o' with
      | none => exact ⟨_, rfl, q'⟩
      | some s0 => exact ⟨_, rfl, q'⟩
end
end TR

/-! part M4 -/
/-! States beyond a map. -/
namespace TR
open PySem PySem.Spec PyProof.Rows L2 G
/-- a state: a spot, and the steps beyond the map -/
abbrev StD : Type := Nat × Steps
def RSt : Rp StD := ⟨fun d v F => ∃ a t, v = .ref a ∧ F a = some (.tup [.int (d.1 : Nat), .ref t]) ∧ (Rp.tup RStep).rel d.2 (.ref t) F, fun s ⟨a, t, e, h, r⟩ => ⟨a, t, e, s _ _ h, (Rp.tup RStep).mono s r⟩⟩
def keptS (ks : Kinds) (z : Str) (e : Int) : Steps := if redE (perOf ks z) e = 0 then [] else [(z, redE (perOf ks z) e)]
def firstOf (md : MapD) (k : Nat) : Nat := ((md.ring k).seats.map (·.1)).min?.getD 0
def fromSpot (md : MapD) (s : Nat) (n : Str) (e : Int) : StD := match (md.lying s n).head? with
  | none => (0, [])
  | some d => match spotAt (md.ring d.1) (placeI (md.ring d.1).modulus d.2 + e) with
    | some g => (g, [])
    | none => (firstOf md d.1, [(n, placeI (md.ring d.1).modulus (placeI (md.ring d.1).modulus d.2 + e - (match (md.lying (firstOf md d.1) n).head? with
      | some d' => placeI (md.ring d'.1).modulus d'.2
      | none => 0)))])
def beyondM (ks : Kinds) (md : MapD) (st : StD) (c : Str × Int) : StD := match st.2.getLast? with
  | none => fromSpot md st.1 c.1 c.2
  | some l => if l.1 = c.1 then (if 1 < st.2.length then (st.1, st.2.dropLast ++ keptS ks c.1 (l.2 + c.2)) else fromSpot md st.1 c.1 (c.2 + l.2)) else (st.1, st.2 ++ keptS ks c.1 c.2)
def modAt (ks : Kinds) (md : MapD) (st : StD) (n : Str) : Int := match st.2 with
  | [] => (match (md.lying st.1 n).head? with
    | some d => (md.ring d.1).modulus
    | none => 0)
  | [l] => if l.1 = n then (match (md.lying st.1 n).head? with
    | some d => (md.ring d.1).modulus
    | none => 0) else perOf ks n
  | _ => perOf ks n
section
variable {P : Program} {w : World} {K : PySem.W.Frag} {mg : Str → Option Value} {base : Heap} {CT CG CM CR : Addr}
abbrev s_kept_step : Stmt := top 3
abbrev N_kept_step : List Str := ["turns", "name", "exponent", "period"]
abbrev P_kept_step : List Str := ["turns", "name", "exponent"]
theorem sc_kept_step : FnScope N_kept_step P_kept_step (defScope s_kept_step) := ⟨rfl, rfl, rfl, by decide +kernel, rfl, by decide +kernel, by decide +kernel⟩
theorem bn_kept_step : BindsNo "kept_step" "kept_step" s_kept_step P_kept_step := fun _ _ _ _ _ _ us hl => match us, hl with | [_, _, _], _ => rfl
def sp_kept_step (CT : Addr) : Sp := fun vs H Q _ => ∃ (F : Hp) (v : V) (ks : Kinds) (z : Str) (e : Int), vs = [v, .str z, .int e] ∧ Same F H ∧ (RTurns CT).rel ks v F ∧ (∃ p, ks.lookup z = some p) ∧
  ∀ r F' H', Pu F H F' H' → (Rp.tup RStep).rel (keptS ks z e) (.ref r) F' → Q (.ref r) H'
theorem ok_kept_step (m_period_of : Met P w K mg base 2 CT "period_of" (sp_Turns_period CT)) (F : FnF K mg "kept_step" s_kept_step []) : Cal P w K mg base 3 "kept_step" (sp_kept_step CT) := by
  refine F.cal sc_kept_step bn_kept_step (fun vs H Q E h => ?_) (fun f cdv A outer s H vs Q E hr h => ?_)
  · obtain ⟨_, _, _, _, _, rfl, _⟩ := h
    rfl
  · obtain ⟨F, v, ks, z, e, rfl, sF, rt, ⟨p, hp⟩, k⟩ := h
    obtain ⟨a, dx, tp, tn, td, tr, t⟩ := id rt
    have ep : perOf ks z = p := by unfold perOf; rw [hp]; rfl
    refine ⟨_, (pss_cons (ps_set (i := 3) sc_kept_step.nd rfl (Or.inl rfl) (pe_m m_period_of hr (by decide) (pv 0) (pa_cons (pv 1) pa_nil) passL))
    (pss_cons (ps_if (pt_cmpR op_gt (pv 3) pe_int (nomark _)) (pss_one (ps_set (i := 2) sc_kept_step.nd rfl (Or.inl rfl) (pe_op op_mod (pv 2) (pv 3)))) pss_nil)
    (pss_one (ps_ret (pe_ifExp (pt_cmpR (op_neU hr (K := K)) (pv 2) pe_int (nomark _)) (pe_tup (pa_cons (pe_tup (pa_cons (pv 1) (pa_cons (pv 2) pa_nil))) pa_nil)) (pe_tup pa_nil)))))), ?_⟩
    refine ⟨_, rfl, a, dx, _, t.ev, sF _ _ t.ob, rfl, _, rfl, v, z, ks, p, rfl, (RTurns CT).mono sF rt, hp, fun H1 s1 => ?_⟩
    try dsimp only
    refine sj (fun σ H' => Same H1 H' ∧ σ = [some v, some (.str z), some (.int (redE p e)), some (.int p)]) ?_ (fun join => ?_)
    · rintro σ H2 ⟨s2, rfl⟩
      refine ⟨_, rfl, .inl ⟨rfl, _, rfl, ?_⟩⟩
      have pu2 : Pu F H F H2 := ⟨s1.trans s2, Grow.tmp sF (s1.trans s2)⟩
      by_cases h0 : redE p e = 0
      · rw [decide_eq_true (congrArg V.int h0)]
        refine iteF ⟨sz (n := 0) (by decide), fun q hq => ?_⟩
        exact k q _ _ (pu2.add hq) ⟨q, [], rfl, upd_same, by unfold keptS; rw [ep, if_pos h0]; exact .nil⟩
      · rw [decide_eq_false (fun y => h0 (V.int.inj y))]
        refine iteT ⟨_, rfl, _, rfl, sz (n := 2) (by decide), fun q1 hq1 => ⟨sz (n := 1) (by decide), fun q hq => ?_⟩⟩
        have pu3 := pu2.add (o := .tup [.str z, .int (redE p e)]) hq1
        refine k q _ _ (pu3.add hq) ⟨q, [.ref q1], rfl, upd_same, ?_⟩
        unfold keptS
        rw [ep, if_neg h0]
        exact .cons ⟨q1, _, _, rfl, look_new upd_same (pu3.sub.free hq), rfl, rfl⟩ .nil
    · refine ⟨_, rfl, _, _, rfl, rfl, _, rfl, ?_⟩
      by_cases h0 : p > 0
      · rw [decide_eq_true h0]
        refine iteT ⟨_, rfl, _, rfl, _, _, rfl, rfl, h0, join _ _ ⟨Same.refl _, ?_⟩⟩
        rw [show redE p e = e % p from if_pos h0]
        rfl
      · rw [decide_eq_false h0]
        refine iteF (join _ _ ⟨Same.refl _, ?_⟩)
        rw [show redE p e = e from if_neg h0]
        rfl
theorem firstOf_min {md : MapD} {k : Nat} {m : Int} (h : m ∈ (md.ring k).seats.map fun d => ((d.1 : Nat) : Int)) (hm : ∀ y ∈ (md.ring k).seats.map fun d => ((d.1 : Nat) : Int), m ≤ y) : m = (firstOf md k : Nat) ∧ ∃ d ∈ (md.ring k).seats, d.1 = firstOf md k := by
  obtain ⟨d, hd, rfl⟩ := List.mem_map.mp h
  have e : ((md.ring k).seats.map (·.1)).min? = some d.1 := by
    rw [List.min?_eq_some_iff]
    refine ⟨List.mem_map.mpr ⟨d, hd, rfl⟩, fun b hb => ?_⟩
    obtain ⟨d', hd', rfl⟩ := List.mem_map.mp hb
    have := hm _ (List.mem_map.mpr ⟨d', hd', rfl⟩)
    omega
  have e2 : firstOf md k = d.1 := by unfold firstOf; rw [e]; rfl
  exact ⟨by rw [e2], d, hd, e2.symm⟩
abbrev s_from_spot : Stmt := top 4
abbrev N_from_spot : List Str := ["rings", "spot", "name", "exponent", "ring", "position", "goal", "first", "other", "here"]
abbrev P_from_spot : List Str := ["rings", "spot", "name", "exponent"]
theorem sc_from_spot : FnScope N_from_spot P_from_spot (defScope s_from_spot) := ⟨rfl, rfl, rfl, by decide +kernel, rfl, by decide +kernel, by decide +kernel⟩
theorem bn_from_spot : BindsNo "from_spot" "from_spot" s_from_spot P_from_spot := fun _ _ _ _ _ _ us hl => match us, hl with | [_, _, _, _], _ => rfl
def sp_from_spot (CM CG : Addr) : Sp := fun vs H Q _ => ∃ (F : Hp) (ks : Kinds) (md : MapD) (v tv : V) (ad : Ad) (s : Nat) (n : Str) (e : Int), vs = [v, .int (s : Nat), .str n, .int e] ∧ Same F H ∧ RMapAt CM CG md v tv ad F ∧ Full ks md ∧ s ∈ md.spots ∧ n ∈ ks.map (·.1) ∧
  ∀ r F' H', Pu F H F' H' → RSt.rel (fromSpot md s n e) r F' → Q r H'
theorem ok_from_spot (B : Bt mg) (RG : KlF K mg "Ring" CG ["number", "turn", "modulus", "seats"]) (m_ring_at : Met P w K mg base 2 CM "ring_at" (sp_ring_at CM CG)) (m_spot_at : Met P w K mg base 2 CG "spot_at" (sp_spot_at CG)) (m_place : Met P w K mg base 1 CG "place" (sp_place CG))
    (F : FnF K mg "from_spot" s_from_spot []) : Cal P w K mg base 3 "from_spot" (sp_from_spot CM CG) := by
  refine F.cal sc_from_spot bn_from_spot (fun vs H Q E h => ?_) (fun f cdv A outer s H vs Q E hr h => ?_)
  · obtain ⟨_, _, _, _, _, _, _, _, _, rfl, _⟩ := h
    rfl
  · obtain ⟨F, ks, md, v, tv, ad, s, n, e, rfl, sF, rm, fl, hs, hn, k⟩ := h
    obtain ⟨dx, ho⟩ := rm.ob
    obtain ⟨d, h1, h2, h3⟩ := fl.one s hs n hn
    have hn' : n ∈ md.has s := by rw [fl.has s hs]; exact hn
    have hdk : d.1 < md.drawn := rm.wf.ly s n (fl.lt s hs) hn' d (by rw [h1]; exact List.mem_singleton.mpr rfl)
    obtain ⟨a, gx, ls, ys, hr0⟩ := rm.ring hdk
    have ev := rm.ev
    subst ev
    refine ⟨_, (pss_cons (ps_asg (pe_m m_ring_at hr (by decide) (pv 0) (pa_cons (pv 1) (pa_cons (pv 2) pa_nil)) passL) (k_tup (n := 2) rfl (pgs_cons (pg_name (i := 4) sc_from_spot.nd rfl (Or.inl rfl)) (pgs_cons (pg_name (i := 5) sc_from_spot.nd rfl (Or.inl rfl)) pgs_nil)) (K := K)))
    (pss_cons (ps_set (i := 6) sc_from_spot.nd rfl (Or.inl rfl) (pe_m m_spot_at hr (by decide) (pv 4) (pa_cons (pe_op op_addU (pv 5) (pv 3)) pa_nil) passL))
    (pss_cons (ps_if (pt_cmpR op_notN (pv 6) pe_non (nomark _)) (pss_one (ps_ret (pe_tup (pa_cons (pv 6) (pa_cons (pe_tup pa_nil) pa_nil))))) pss_nil)
    (pss_cons (ps_set (i := 7) sc_from_spot.nd rfl (Or.inl rfl) (pe_callB (k_min (K := K)) (by rfl) B.min (by decide +kernel) (pa_cons (pe_lc (own := [("other", 8), ("here", 9)]) rfl sc_from_spot.nd (k_il (k_fld (pv 4) (K := K)) (K := K)) (blkOk_by (N := N_from_spot) (sc := defScope s_from_spot) (by decide +kernel)) (fun _ _ _ _ _ => (k_tup (n := 2) rfl (pgs_cons (pg_name (i := 8) sc_from_spot.nd rfl (Or.inl rfl)) (pgs_cons (pg_name (i := 9) sc_from_spot.nd rfl (Or.inl rfl)) pgs_nil)) (K := K))) (fun _ _ _ _ _ => pts_nil) (fun _ _ _ _ _ => (pe_callTy call_int1 (by rfl) B.int (by decide +kernel) (pa_cons (pv 8) pa_nil)))) pa_nil)))
    (pss_cons (ps_set (i := 9) sc_from_spot.nd rfl (Or.inl rfl) (pe_ix (k_ix (K := K)) (pe_m m_ring_at hr (by decide) (pv 0) (pa_cons (pv 7) (pa_cons (pv 2) pa_nil)) passL) pe_int (fun _ _ => rfl)))
    (pss_one (ps_ret (pe_tup (pa_cons (pv 7) (pa_cons (pe_tup (pa_cons (pe_tup (pa_cons (pv 2) (pa_cons (pe_m m_place hr (by decide) (pv 4) (pa_cons (pe_op op_sub (pe_op op_addU (pv 5) (pv 3)) (pv 9)) pa_nil) passL) pa_nil))) pa_nil)) pa_nil)))))))))), ?_⟩
    -- ring, position
    refine ⟨_, rfl, _, dx, _, rfl, sF _ _ ho, rfl, _, rfl, _, rfl, F, md, _, tv, ad, s, n, d, rfl, sF, rm, fl.lt s hs, hn', by rw [h1]; rfl, fun r F1 H1 q1 hr1 => ?_⟩
    refine ⟨r, _, rfl, SqT.of (q1.sub _ _ hr1), rfl, _, _, rfl, _, _, rfl, rfl, ?_⟩
    have s1 := q1.ff.trans q1.sub
    try dsimp only
    -- goal
    refine ⟨_, rfl, a, gx, _, hr0.ev, s1 _ _ hr0.ob, rfl, _, rfl, _, rfl, .inl ⟨_, _, rfl, rfl, ?_⟩⟩
    refine ⟨F, _, d.1, md.ring d.1, placeI (md.ring d.1).modulus d.2 + e, rfl, s1, rm.ring hdk, by have := fl.sz d.1 hdk; omega, fun H2 s2 => ?_⟩
    have q2 : Pu F H F H2 := ⟨q1.same.trans s2, Grow.tmp sF (q1.same.trans s2)⟩
    have k' : ∀ r F' H', Pu F H2 F' H' → RSt.rel (match spotAt (md.ring d.1) (placeI (md.ring d.1).modulus d.2 + e) with
      | some g => (g, [])
      | none => (firstOf md d.1, [(n, placeI (md.ring d.1).modulus (placeI (md.ring d.1).modulus d.2 + e - (match (md.lying (firstOf md d.1) n).head? with
        | some d' => placeI (md.ring d'.1).modulus d'.2
        | none => 0)))])) r F' → Q r H' := fun r F' H' pu h => k r F' H' (q2.trans pu) (by
      have e0 : (md.lying s n).head? = some d := by rw [h1]; rfl
      unfold fromSpot
      rw [e0]
      exact h)
    try dsimp only
    refine ⟨_, rfl, rfl, _, rfl, ?_⟩
    cases hg : spotAt (md.ring d.1) (placeI (md.ring d.1).modulus d.2 + e) with
    | some g =>
      rw [hg] at k'
      rw [decide_eq_false (show ¬ ofSp (some g) = V.non from fun z => by cases z)]
      refine iteT ⟨_, rfl, sz (n := 0) (by decide), fun p hp => ⟨sz (n := 2) (by decide), fun q hq => ?_⟩⟩
      have p1 := (Pu.refl q2.sub).add (o := .tup []) hp
      exact k' (.ref q) _ _ (p1.add hq) ⟨q, p, rfl, upd_same, p, [], rfl, look_new upd_same (p1.sub.free hq), .nil⟩
    | none =>
      rw [hg] at k'
      rw [decide_eq_true (show ofSp none = V.non from rfl)]
      refine iteF ?_
      have sF2 := s1.trans s2
      unfold tNext
      try dsimp only
      -- first
      refine stp [some (.ref (ad .map)), some (.int (s : Nat)), some (.str n), some (.int e), some (.ref (ad (.ring d.1))), some (.int (placeI (md.ring d.1).modulus d.2)), some .non, none, none, none] rfl fun N hN => ?_
      refine ⟨_, rfl, a, CG, gx, _, _, hr0.ev, sF2 _ _ hr0.ob, RG.cl, RG.no _ (by decide), rfl, ls, rfl, ⟨_, SqL.of (sF2 _ _ hr0.se)⟩, fun D hD => ?_⟩
      have hyl : ys.length = (md.ring d.1).seats.length := pd_len hr0.pd
      have hsz := fl.sz d.1 hdk
      refine go_lc (F1 := F) (walk_list (xs := ys)) Rp.int (fun i => ((md.ring d.1).seats.take i).map fun d => ((d.1 : Nat) : Int)) (by omega) q2.sub hD (by simp) (fun F1 H1 pu => SqL.of (pu.sub _ _ (pu.ff _ _ hr0.se))) (fun i y F1 H1 l H' N hi pu fD hl1 hy kt kf => ?_) (fun F3 H3 zs pu fD hl3 pd3 => ?_)
      · obtain ⟨e1, hy⟩ := hy
        subst e1
        obtain ⟨dd, hdd, t, rfl, ht⟩ := pd_get hr0.pd hy
        refine ⟨t, _, rfl, SqT.of (pu.sub _ _ (pu.ff _ _ ht)), rfl, _, _, rfl, _, _, rfl, rfl, ?_⟩
        refine ⟨rfl, ?_⟩
        refine ⟨_, rfl, .inl ⟨_, rfl, ?_⟩⟩
        exact kt _ _ _ _ (Pu.refl pu.sub) rfl (by rw [take_snoc hdd, List.map_append]; rfl)
      · rw [hyl, take_all] at pd3
        have e3 := pd_eq pd3
        subst e3
        have q3 := pu.fix hD fD hl3
        refine ⟨D, (md.ring d.1).seats.map fun d => ((d.1 : Nat) : Int), rfl, SqL.of hl3, ?_, fun m hm hm2 => ?_⟩
        · rw [List.length_map]; exact List.length_pos_iff.mpr fun z => by rw [z] at h3; cases h3
        obtain ⟨rfl, d', hd', hd2⟩ := firstOf_min hm hm2
        have hfs : firstOf md d.1 ∈ md.spots := hd2 ▸ fl.se d.1 hdk d' hd'
        obtain ⟨c, c1, c2, c3⟩ := fl.one (firstOf md d.1) hfs n hn
        have hnc : n ∈ md.has (firstOf md d.1) := by rw [fl.has _ hfs]; exact hn
        refine hN _ _ ?_
        clear hN
        try dsimp only
        refine stp [some (.ref (ad .map)), some (.int (s : Nat)), some (.str n), some (.int e), some (.ref (ad (.ring d.1))), some (.int (placeI (md.ring d.1).modulus d.2)), some .non, some (.int (firstOf md d.1 : Nat)), none, none] rfl fun N hN => ?_
        have s3 := sF2.trans q3.same
        refine ⟨_, rfl, _, dx, _, rfl, s3 _ _ ho, rfl, _, rfl, _, rfl, F, md, _, tv, ad, firstOf md d.1, n, c, rfl, s3, rm, fl.lt _ hfs, hnc, by rw [c1]; rfl, fun r4 F4 H4 q4 hr4 => ?_⟩
        refine .inr (.inl ⟨r4, _, 1, _, rfl, rfl, SqT.of (q4.sub _ _ hr4), atI_nat (j := 1) rfl, ?_⟩)
        refine hN _ _ ?_
        clear hN
        try dsimp only
        refine stq [some (.ref (ad .map)), some (.int (s : Nat)), some (.str n), some (.int e), some (.ref (ad (.ring d.1))), some (.int (placeI (md.ring d.1).modulus d.2)), some .non, some (.int (firstOf md d.1 : Nat)), none, some (.int (placeI (md.ring c.1).modulus c.2))] rfl ?_
        have s4 := s3.trans q4.same
        refine ⟨_, rfl, _, rfl, _, rfl, a, gx, _, hr0.ev, s4 _ _ hr0.ob, rfl, _, rfl, _, rfl, .inl ⟨_, _, rfl, rfl, _, rfl, _, _, rfl, rfl, ?_⟩⟩
        refine ⟨F, _, d.1, md.ring d.1, placeI (md.ring d.1).modulus d.2 + e - placeI (md.ring c.1).modulus c.2, rfl, s4, rm.ring hdk, fun H5 s5 => ?_⟩
        have q5 : Pu F H2 F H5 := ⟨(q3.same.trans q4.same).trans s5, Grow.tmp (s1.trans s2) ((q3.same.trans q4.same).trans s5)⟩
        refine ⟨sz (n := 2) (by decide), fun p1 hp1 => ⟨sz (n := 1) (by decide), fun p2 hp2 => ⟨sz (n := 2) (by decide), fun p3 hp3 => ?_⟩⟩⟩
        have z1 := q5.add (o := .tup [.str n, .int (placeI (md.ring d.1).modulus (placeI (md.ring d.1).modulus d.2 + e - placeI (md.ring c.1).modulus c.2))]) hp1
        have z2 := z1.add (o := .tup [.ref p1]) hp2
        refine k' (.ref p3) _ _ (z2.add hp3) ⟨p3, p2, rfl, upd_same, p2, [.ref p1], rfl, look_new upd_same (z2.sub.free hp3), .cons ⟨p1, _, _, rfl, look_new (look_new upd_same (z1.sub.free hp2)) (z2.sub.free hp3), rfl, ?_⟩ .nil⟩
        rw [c1]
        rfl
abbrev s_beyond : Stmt := top 2
abbrev N_beyond : List Str := ["rings", "state", "step", "spot", "tail", "name", "exponent"]
abbrev P_beyond : List Str := ["rings", "state", "step"]
theorem sc_beyond : FnScope N_beyond P_beyond (defScope s_beyond) := ⟨rfl, rfl, rfl, by decide +kernel, rfl, by decide +kernel, by decide +kernel⟩
theorem bn_beyond : BindsNo "beyond" "beyond" s_beyond P_beyond := fun _ _ _ _ _ _ us hl => match us, hl with | [_, _, _], _ => rfl
def sp_beyond (CM CG CT : Addr) : Sp := fun vs H Q _ => ∃ (F : Hp) (ks : Kinds) (md : MapD) (v sv u tv : V) (ad : Ad) (st : StD) (c : Str × Int), vs = [v, sv, u] ∧ Same F H ∧ RMapAt CM CG md v tv ad F ∧ (RTurns CT).rel ks tv F ∧ Full ks md ∧ RSt.rel st sv F ∧ RStep.rel c u F ∧ st.1 ∈ md.spots ∧ c.1 ∈ ks.map (·.1) ∧ st.2.length ≤ 10000 ∧
  ∀ r F' H', Pu F H F' H' → RSt.rel (beyondM ks md st c) r F' → Q r H'
theorem mem_look {ks : Kinds} {z : Str} (h : z ∈ ks.map (·.1)) : ∃ p, ks.lookup z = some p := by
  induction ks with
  | nil => cases h
  | cons a r ih =>
    rw [List.lookup_cons]
    by_cases e : z = a.1
    · subst e; simp
    · rw [show (z == a.1) = false by simp [e]]
      rcases List.mem_cons.mp h with y | y
      · exact absurd y e
      · exact ih y
theorem ok_beyond (B : Bt mg) (RM : KlF K mg "RingMap" CM mapNames) (c_kept_step : Cal P w K mg base 3 "kept_step" (sp_kept_step CT)) (c_from_spot : Cal P w K mg base 3 "from_spot" (sp_from_spot CM CG)) (F : FnF K mg "beyond" s_beyond []) : Cal P w K mg base 4 "beyond" (sp_beyond CM CG CT) := by
  refine F.cal sc_beyond bn_beyond (fun vs H Q E h => ?_) (fun f cdv A outer s H vs Q E hr h => ?_)
  · obtain ⟨_, _, _, _, _, _, _, _, _, _, rfl, _⟩ := h
    rfl
  · obtain ⟨F, ks, md, v, sv, u, tv, ad, ⟨s, tl⟩, ⟨n, e⟩, rfl, sF, rm, rt, fl, ⟨a, t, rfl, ha, _, xs, ex, ht, pd⟩, ⟨b, y1, y2, rfl, hb, rfl, rfl⟩, hs, hn, hlen, k⟩ := h
    cases ex
    obtain ⟨dx, ho⟩ := rm.ob
    have hxl : xs.length = tl.length := pd_len pd
    have ev := rm.ev
    subst ev
    have hlen' : tl.length ≤ 10000 := hlen
    refine ⟨_, (pss_cons (ps_asg (pv 1) (k_tup (n := 2) rfl (pgs_cons (pg_name (i := 3) sc_beyond.nd rfl (Or.inl rfl)) (pgs_cons (pg_name (i := 4) sc_beyond.nd rfl (Or.inl rfl)) pgs_nil)) (K := K)))
    (pss_cons (ps_asg (pv 2) (k_tup (n := 2) rfl (pgs_cons (pg_name (i := 5) sc_beyond.nd rfl (Or.inl rfl)) (pgs_cons (pg_name (i := 6) sc_beyond.nd rfl (Or.inl rfl)) pgs_nil)) (K := K)))
    (pss_cons (ps_if (PW.pt (pw_and (pt_cmpR op_gt (pe_callB (call_lenU (K := K)) (by rfl) B.len (by decide +kernel) (pa_cons (pv 4) pa_nil)) pe_int (nomark _)) (pw_and1 (pt_cmpR (op_eqU hr (K := K)) (pe_ix (k_ix (K := K)) (pe_ix (k_ix (K := K)) (pv 4) (pe_un un_neg pe_int) (fun _ _ => rfl)) pe_int (fun _ _ => rfl)) (pv 5) (nomark _))))) (pss_one (ps_ret (pe_tup (pa_cons (pv 3) (pa_cons (pe_op (k_catA (K := K)) (pe_slice (k_sl_tup (K := K)) (pv 4) po_none (po_some (pe_un un_neg pe_int))) (pe_c c_kept_step hr (by decide) (pa_cons (k_fld (pv 0) (K := K)) (pa_cons (pv 5) (pa_cons (pe_op op_addU (pe_ix (k_ix (K := K)) (pe_ix (k_ix (K := K)) (pv 4) (pe_un un_neg pe_int) (fun _ _ => rfl)) pe_int (fun _ _ => rfl)) (pv 6)) pa_nil))) passL)) pa_nil))))) pss_nil)
    (pss_cons (ps_if (PW.pt (pw_and (pt_cmpR op_gt (pe_callB (call_lenU (K := K)) (by rfl) B.len (by decide +kernel) (pa_cons (pv 4) pa_nil)) pe_int (nomark _)) (pw_and1 (pt_cmpR (op_neU hr (K := K)) (pe_ix (k_ix (K := K)) (pe_ix (k_ix (K := K)) (pv 4) (pe_un un_neg pe_int) (fun _ _ => rfl)) pe_int (fun _ _ => rfl)) (pv 5) (nomark _))))) (pss_one (ps_ret (pe_tup (pa_cons (pv 3) (pa_cons (pe_op (k_catA (K := K)) (pv 4) (pe_c c_kept_step hr (by decide) (pa_cons (k_fld (pv 0) (K := K)) (pa_cons (pv 5) (pa_cons (pv 6) pa_nil))) passL)) pa_nil))))) pss_nil)
    (pss_cons (ps_if (pt_cmpR (op_eqU hr (K := K)) (pe_callB (call_lenU (K := K)) (by rfl) B.len (by decide +kernel) (pa_cons (pv 4) pa_nil)) pe_int (nomark _)) (pss_one (ps_set (i := 6) sc_beyond.nd rfl (Or.inl rfl) (pe_op op_addU (pv 6) (pe_ix (k_ix (K := K)) (pe_ix (k_ix (K := K)) (pv 4) pe_int (fun _ _ => rfl)) pe_int (fun _ _ => rfl))))) pss_nil)
    (pss_one (ps_ret (pe_c c_from_spot hr (by decide) (pa_cons (pv 0) (pa_cons (pv 3) (pa_cons (pv 5) (pa_cons (pv 6) pa_nil)))) passL)))))))), ?_⟩
    refine stp [some (.ref (ad .map)), some (.ref a), some (.ref b), none, none, none, none] rfl fun N hN => ?_
    refine ⟨_, rfl, a, _, rfl, SqT.of (sF _ _ ha), rfl, _, _, rfl, _, _, rfl, rfl, ?_⟩
    refine hN _ _ ?_
    clear hN
    refine stp [some (.ref (ad .map)), some (.ref a), some (.ref b), some (.int (s : Nat)), some (.ref t), none, none] rfl fun N hN => ?_
    refine ⟨_, rfl, b, _, rfl, SqT.of (sF _ _ hb), rfl, _, _, rfl, _, _, rfl, rfl, ?_⟩
    refine hN _ _ ?_
    clear hN
    -- from the spot
    have spot : ∀ (e' : Int), beyondM ks md (s, tl) (n, e) = fromSpot md s n e' → tRet (tCall (sp_from_spot CM CG) [] E0 (tCons (tVar 0) (tCons (tVar 3) (tCons (tVar 5) (tCons (tVar 6) tNil))))) { nx := fun x H' => Q V.non H', rt := Q }
        [some (.ref (ad .map)), some (.ref a), some (.ref b), some (.int (s : Nat)), some (.ref t), some (.str n), some (.int e')] H := fun e' ee =>
      ⟨_, rfl, _, rfl, _, rfl, _, rfl, F, ks, md, _, tv, ad, s, n, e', rfl, sF, rm, fl, hs, hn, fun r F' H' pu rr => k r F' H' pu (by rw [ee]; exact rr)⟩
    refine stp [some (.ref (ad .map)), some (.ref a), some (.ref b), some (.int (s : Nat)), some (.ref t), some (.str n), some (.int e)] rfl fun N hN => ?_
    -- the kept steps behind some others
    have cat : ∀ (p : Addr) (ps : List V) (ds : Steps) (e' : Int) (F1 H1 : Hp), Pu F H F1 H1 → F1 p = some (.tup ps) → Paired (fun d x => RStep.rel d x F1) ds ps → ds ≠ [] → ds.length ≤ 10000 → beyondM ks md (s, tl) (n, e) = (s, ds ++ keptS ks n e') →
        ∀ (r : Addr) (F2 H2 : Hp), Pu F1 H1 F2 H2 → (Rp.tup RStep).rel (keptS ks n e') (.ref r) F2 → rCatA K (.ref p) (.ref r) H2 (fun x H3 => [V.int (s : Nat), x].length ≤ sizeLine ∧ ∀ q, H3 q = none → Q (.ref q) (upd H3 q (.tup [V.int (s : Nat), x]))) := by
      intro p ps ds e' F1 H1 p1 hp pds hds hdl ee r F2 H2 p2 ⟨_, ys, er, hr2, pdy⟩
      cases er
      have hyl : ys.length ≤ 1 := by
        rw [pd_len pdy]
        unfold keptS
        split <;> simp
      have hpl : ps.length = ds.length := pd_len pds
      have fin : ∀ (x : V) (F3 H3 : Hp), Pu F H F3 H3 → (Rp.tup RStep).rel (ds ++ keptS ks n e') x F3 → [V.int (s : Nat), x].length ≤ sizeLine ∧ ∀ q, H3 q = none → Q (.ref q) (upd H3 q (.tup [V.int (s : Nat), x])) := by
        rintro x F3 H3 p3 ⟨a3, xs3, rfl, h3, pd3⟩
        refine ⟨sz (n := 2) (by decide), fun q hq => ?_⟩
        refine k (.ref q) _ _ (p3.add hq) ?_
        rw [ee]
        exact ⟨q, a3, rfl, upd_same, a3, xs3, rfl, look_new h3 (p3.sub.free hq), pd_mono (fun _ _ => RStep.mono (Same.new (p3.sub.free hq))) pd3⟩
      have p12 := p1.trans p2
      refine ⟨p, r, ps, ys, rfl, rfl, SqT.of (p2.sub _ _ (p2.ff _ _ hp)), SqT.of (p2.sub _ _ hr2), sz (by omega), fun z => ?_, fun _ z => ?_, fun _ _ p3 hp3 => ?_⟩
      · rw [z] at hpl
        exact absurd (List.length_eq_zero_iff.mp hpl.symm) hds
      · subst z
        cases hk : keptS ks n e' with
        | nil => exact fin _ F2 H2 p12 ⟨p, ps, rfl, p2.ff _ _ hp, by rw [hk, List.append_nil]; exact pd_mono (fun _ _ => RStep.mono p2.ff) pds⟩
        | cons _ _ => rw [hk] at pdy; cases pdy
      · exact fin _ _ _ (p12.add hp3) ⟨p3, _, rfl, upd_same, pd_app (pd_mono (fun _ _ => RStep.mono (p2.ff.trans (Same.new (p12.sub.free hp3)))) pds) (pd_mono (fun _ _ => RStep.mono (Same.new (p12.sub.free hp3))) pdy)⟩
    have hlook := mem_look hn
    -- what the last step is
    have last : ∀ l, tl.getLast? = some l → ∀ (H1 : Hp), Same H H1 → ∀ (j : Nat) (v : V), ([V.str l.1, .int l.2])[j]? = some v → ∀ Q : VK, Q v H1 → tOp (rIx K) (tOp (rIx K) (tVar 4) (tUn (rU fun i => V.int (-i)) (tC (V.int 1)))) (tC (V.int (j : Nat)))
        [some (.ref (ad .map)), some (.ref a), some (.ref b), some (.int (s : Nat)), some (.ref t), some (.str n), some (.int e)] H1 Q := by
      intro l hl H1 s1 j v hv Q q
      obtain ⟨y, hy, c, z1, z2, rfl, hc, rfl, rfl⟩ := pd_last pd hl
      exact ⟨_, rfl, _, rfl, .inr (.inl ⟨t, xs, _, _, rfl, rfl, SqT.of (s1 _ _ (sF _ _ ht)), atI_last hy, .inr (.inl ⟨c, _, _, _, rfl, rfl, SqT.of (s1 _ _ (sF _ _ hc)), atI_nat hv, q⟩)⟩)⟩
    refine ⟨_, rfl, .inl ⟨t, xs, rfl, .inr (SqT.of (sF _ _ ht)), _, _, rfl, rfl, _, rfl, ?_⟩⟩
    -- the other name
    have other : ∀ l, tl.getLast? = some l → l.1 ≠ n → N [some (.ref (ad .map)), some (.ref a), some (.ref b), some (.int (s : Nat)), some (.ref t), some (.str n), some (.int e)] H := by
      intro l hl hne
      have h0 : tl ≠ [] := fun z => by rw [z] at hl; cases hl
      have hpos : 0 < tl.length := List.length_pos_iff.mpr h0
      refine hN _ _ ?_
      clear hN
      try dsimp only
      refine stp _ rfl fun N2 hN2 => ?_
      refine ⟨_, rfl, .inl ⟨t, xs, rfl, .inr (SqT.of (sF _ _ ht)), _, _, rfl, rfl, _, rfl, ?_⟩⟩
      rw [decide_eq_true (show ((xs.length : Nat) : Int) > 0 by omega)]
      refine iteT (last l hl H (Same.refl _) 0 _ rfl _ ⟨_, rfl, .inl ⟨rfl, _, rfl, ?_⟩⟩)
      rw [decide_eq_false (fun z => hne (V.str.inj z))]
      refine iteT ⟨_, rfl, _, rfl, _, rfl, _, CM, dx, _, _, rfl, sF _ _ ho, RM.cl, RM.no _ (by decide), rfl, _, rfl, _, rfl, F, tv, ks, n, e, rfl, sF, rt, hlook, fun r F2 H2 p2 rr => ?_⟩
      exact cat t xs tl e F H (Pu.refl sF) ht pd h0 hlen' (by unfold beyondM; rw [hl]; show (if l.1 = n then _ else _) = _; rw [if_neg hne]) r F2 H2 p2 rr
    cases hl : tl.getLast? with
    | none =>
      have h0 : tl = [] := List.getLast?_eq_none_iff.mp hl
      have hx0 : xs.length = 0 := by rw [hxl, h0]; rfl
      rw [decide_eq_false (show ¬ ((xs.length : Nat) : Int) > 1 by omega)]
      refine iteF (iteF (hN _ _ ?_))
      clear hN other
      try dsimp only
      refine stp _ rfl fun N2 hN2 => ?_
      refine ⟨_, rfl, .inl ⟨t, xs, rfl, .inr (SqT.of (sF _ _ ht)), _, _, rfl, rfl, _, rfl, ?_⟩⟩
      rw [decide_eq_false (show ¬ ((xs.length : Nat) : Int) > 0 by omega)]
      refine iteF (iteF (hN2 _ _ ?_))
      clear hN2
      try dsimp only
      refine stp _ rfl fun N3 hN3 => ?_
      refine ⟨_, rfl, .inl ⟨t, xs, rfl, .inr (SqT.of (sF _ _ ht)), .inl ⟨rfl, _, rfl, ?_⟩⟩⟩
      rw [decide_eq_false (show ¬ V.int ((xs.length : Nat) : Int) = V.int 1 from fun z => by have := V.int.inj z; omega)]
      refine iteF (hN3 _ _ ?_)
      exact spot e (by unfold beyondM; rw [hl])
    | some l =>
      have h0 : tl ≠ [] := fun z => by rw [z] at hl; cases hl
      have hpos : 0 < tl.length := List.length_pos_iff.mpr h0
      by_cases h1 : 1 < tl.length
      · rw [decide_eq_true (show ((xs.length : Nat) : Int) > 1 by omega)]
        refine iteT (last l hl H (Same.refl _) 0 _ rfl _ ⟨_, rfl, .inl ⟨rfl, _, rfl, ?_⟩⟩)
        by_cases hne : l.1 = n
        · rw [decide_eq_true (congrArg V.str hne)]
          refine iteT ⟨_, rfl, _, rfl, _, rfl, _, rfl, t, xs, rfl, SqT.of (sF _ _ ht), whole_pop (fun z => by rw [z] at hxl; simp at hxl; omega), fun p hp => ?_⟩
          rw [show cutV xs none (some (-1)) = xs.dropLast from cut_pop]
          have p1 := (Pu.refl sF).add (o := .tup xs.dropLast) hp
          have sp1 : Same F (upd F p (.tup xs.dropLast)) := p1.ff
          have s1 : Same F (upd H p (.tup xs.dropLast)) := sp1.trans p1.sub
          refine ⟨_, rfl, _, CM, dx, _, _, rfl, s1 _ _ ho, RM.cl, RM.no _ (by decide), rfl, _, rfl, last l hl _ p1.same 1 _ rfl _ ⟨_, rfl, .inl ⟨_, _, rfl, rfl, ?_⟩⟩⟩
          refine ⟨upd F p (.tup xs.dropLast), tv, ks, n, l.2 + e, rfl, p1.sub, (RTurns CT).mono sp1 rt, hlook, fun r F2 H2 p2 rr => ?_⟩
          exact cat p xs.dropLast tl.dropLast (l.2 + e) _ _ p1 upd_same (pd_mono (fun _ _ => RStep.mono sp1) (pd_dropLast pd)) (fun z => by have := congrArg List.length z; simp at this; omega) (by simp; omega) (by unfold beyondM; rw [hl]; show (if l.1 = n then (if 1 < tl.length then _ else _) else _) = _; rw [if_pos hne, if_pos h1]) r F2 H2 p2 rr
        · rw [decide_eq_false (fun z => hne (V.str.inj z))]
          exact iteF (other l hl hne)
      · rw [decide_eq_false (show ¬ ((xs.length : Nat) : Int) > 1 by omega)]
        refine iteF (iteF ?_)
        by_cases hne : l.1 = n
        · refine hN _ _ ?_
          clear hN other
          try dsimp only
          refine stp _ rfl fun N2 hN2 => ?_
          refine ⟨_, rfl, .inl ⟨t, xs, rfl, .inr (SqT.of (sF _ _ ht)), _, _, rfl, rfl, _, rfl, ?_⟩⟩
          rw [decide_eq_true (show ((xs.length : Nat) : Int) > 0 by omega)]
          refine iteT (last l hl H (Same.refl _) 0 _ rfl _ ⟨_, rfl, .inl ⟨rfl, _, rfl, ?_⟩⟩)
          rw [decide_eq_true (congrArg V.str hne)]
          refine iteF (hN2 _ _ ?_)
          clear hN2
          try dsimp only
          refine stp _ rfl fun N3 hN3 => ?_
          refine ⟨_, rfl, .inl ⟨t, xs, rfl, .inr (SqT.of (sF _ _ ht)), .inl ⟨rfl, _, rfl, ?_⟩⟩⟩
          rw [decide_eq_true (show V.int ((xs.length : Nat) : Int) = V.int 1 from congrArg V.int (by omega))]
          refine iteT ?_
          obtain ⟨y, hy, c, z1, z2, rfl, hc, rfl, rfl⟩ := pd_last pd hl
          have hx0 : xs[0]? = some (.ref c) := by
            rw [List.getLast?_eq_getElem?] at hy
            rw [show xs.length - 1 = 0 by omega] at hy
            exact hy
          refine ⟨_, rfl, _, rfl, .inr (.inl ⟨t, xs, 0, _, rfl, rfl, SqT.of (sF _ _ ht), atI_nat (j := 0) hx0, .inr (.inl ⟨c, _, 1, _, rfl, rfl, SqT.of (sF _ _ hc), atI_nat (j := 1) rfl, .inl ⟨_, _, rfl, rfl, ?_⟩⟩)⟩)⟩
          refine hN3 _ _ ?_
          exact spot (e + l.2) (by unfold beyondM; rw [hl]; show (if l.1 = n then (if 1 < tl.length then _ else _) else _) = _; rw [if_pos hne, if_neg h1])
        · exact other l hl hne
end
end TR

/-! part M5 -/
/-! The modulus at a state. -/
namespace TR
open PySem PySem.Spec PyProof.Rows L2 G
section
variable {P : Program} {w : World} {K : PySem.W.Frag} {mg : Str → Option Value} {base : Heap} {CT CG CM CR : Addr}
abbrev s_modulus_at : Stmt := top 5
abbrev N_modulus_at : List Str := ["rings", "state", "name", "spot", "tail"]
abbrev P_modulus_at : List Str := ["rings", "state", "name"]
theorem sc_modulus_at : FnScope N_modulus_at P_modulus_at (defScope s_modulus_at) := ⟨rfl, rfl, rfl, by decide +kernel, rfl, by decide +kernel, by decide +kernel⟩
theorem bn_modulus_at : BindsNo "modulus_at" "modulus_at" s_modulus_at P_modulus_at := fun _ _ _ _ _ _ us hl => match us, hl with | [_, _, _], _ => rfl
def sp_modulus_at (CM CG CT : Addr) : Sp := fun vs H Q _ => ∃ (F : Hp) (ks : Kinds) (md : MapD) (v sv tv : V) (ad : Ad) (st : StD) (n : Str), vs = [v, sv, .str n] ∧ Same F H ∧ RMapAt CM CG md v tv ad F ∧ (RTurns CT).rel ks tv F ∧ Full ks md ∧ RSt.rel st sv F ∧ st.1 ∈ md.spots ∧ n ∈ ks.map (·.1) ∧
  ∀ H', Same H H' → Q (.int (modAt ks md st n)) H'
theorem ok_modulus_at (B : Bt mg) (RM : KlF K mg "RingMap" CM mapNames) (RG : KlF K mg "Ring" CG ["number", "turn", "modulus", "seats"]) (m_ring_at : Met P w K mg base 2 CM "ring_at" (sp_ring_at CM CG)) (m_period_of : Met P w K mg base 2 CT "period_of" (sp_Turns_period CT))
    (F : FnF K mg "modulus_at" s_modulus_at []) : Cal P w K mg base 3 "modulus_at" (sp_modulus_at CM CG CT) := by
  refine F.cal sc_modulus_at bn_modulus_at (fun vs H Q E h => ?_) (fun f cdv A outer s H vs Q E hr h => ?_)
  · obtain ⟨_, _, _, _, _, _, _, _, _, rfl, _⟩ := h
    rfl
  · obtain ⟨F, ks, md, v, sv, tv, ad, ⟨s, tl⟩, n, rfl, sF, rm, rt, fl, ⟨a, t, rfl, ha, _, xs, ex, ht, pd⟩, hs, hn, k⟩ := h
    cases ex
    obtain ⟨dx, ho⟩ := rm.ob
    obtain ⟨d, h1, h2, h3⟩ := fl.one s hs n hn
    have hn' : n ∈ md.has s := by rw [fl.has s hs]; exact hn
    have hdk : d.1 < md.drawn := rm.wf.ly s n (fl.lt s hs) hn' d (by rw [h1]; exact List.mem_singleton.mpr rfl)
    obtain ⟨ga, gx, ls, ys, hr0⟩ := rm.ring hdk
    obtain ⟨p, hp⟩ := mem_look hn
    have ep : perOf ks n = p := by unfold perOf; rw [hp]; rfl
    have eh : (md.lying s n).head? = some d := by rw [h1]; rfl
    have hxl : xs.length = tl.length := pd_len pd
    have ev := rm.ev
    subst ev
    refine ⟨_, (pss_cons (ps_asg (pv 1) (k_tup (n := 2) rfl (pgs_cons (pg_name (i := 3) sc_modulus_at.nd rfl (Or.inl rfl)) (pgs_cons (pg_name (i := 4) sc_modulus_at.nd rfl (Or.inl rfl)) pgs_nil)) (K := K)))
    (pss_cons (ps_if (PW.pt (pw_or (pt_cmpR (op_eqU hr (K := K)) (pe_callB (call_lenU (K := K)) (by rfl) B.len (by decide +kernel) (pa_cons (pv 4) pa_nil)) pe_int (nomark _)) (pw_or1 (PW.pt (pw_and (pt_cmpR (op_eqU hr (K := K)) (pe_callB (call_lenU (K := K)) (by rfl) B.len (by decide +kernel) (pa_cons (pv 4) pa_nil)) pe_int (nomark _)) (pw_and1 (pt_cmpR (op_eqU hr (K := K)) (pe_ix (k_ix (K := K)) (pe_ix (k_ix (K := K)) (pv 4) pe_int (fun _ _ => rfl)) pe_int (fun _ _ => rfl)) (pv 2) (nomark _)))))))) (pss_one (ps_ret (k_fld (pe_ix (k_ix (K := K)) (pe_m m_ring_at hr (by decide) (pv 0) (pa_cons (pv 3) (pa_cons (pv 2) pa_nil)) passL) pe_int (fun _ _ => rfl)) (K := K)))) pss_nil)
    (pss_one (ps_ret (pe_m m_period_of hr (by decide) (k_fld (pv 0) (K := K)) (pa_cons (pv 2) pa_nil) passL))))), ?_⟩
    refine stp [some (.ref (ad .map)), some (.ref a), some (.str n), none, none] rfl fun N hN => ?_
    refine ⟨_, rfl, a, _, rfl, SqT.of (sF _ _ ha), rfl, _, _, rfl, _, _, rfl, rfl, ?_⟩
    refine hN _ _ ?_
    clear hN
    refine stp [some (.ref (ad .map)), some (.ref a), some (.str n), some (.int (s : Nat)), some (.ref t)] rfl fun N hN => ?_
    have near : modAt ks md (s, tl) n = (md.ring d.1).modulus → tRet (tFld K (tOp (rIx K) (tMeth CM "ring_at" (sp_ring_at CM CG) [] E0 (tVar 0) (tCons (tVar 3) (tCons (tVar 2) tNil))) (tC (V.int 0))) "modulus") { nx := N, rt := Q }
        [some (.ref (ad .map)), some (.ref a), some (.str n), some (.int (s : Nat)), some (.ref t)] H := fun em =>
      ⟨_, rfl, _, dx, _, rfl, sF _ _ ho, rfl, _, rfl, _, rfl, F, md, _, tv, ad, s, n, d, rfl, sF, rm, fl.lt s hs, hn', eh, fun r F1 H1 q1 hr1 => .inr (.inl ⟨r, _, 0, _, rfl, rfl, SqT.of (q1.sub _ _ hr1), atI_nat (j := 0) rfl, ga, CG, gx, _, _, hr0.ev, (q1.ff.trans q1.sub) _ _ hr0.ob, RG.cl, RG.no _ (by decide), rfl, by
        have q := k H1 q1.same
        rw [em] at q
        exact q⟩)⟩
    have far : ∀ H1, Same H H1 → modAt ks md (s, tl) n = p → N [some (.ref (ad .map)), some (.ref a), some (.str n), some (.int (s : Nat)), some (.ref t)] H1 := fun H1 s1 em => hN _ _
      ⟨_, rfl, _, CM, dx, _, _, rfl, s1 _ _ (sF _ _ ho), RM.cl, RM.no _ (by decide), rfl, by
        obtain ⟨ta, tdx, tp, tn, td, tr, t'⟩ := id rt
        exact ⟨ta, tdx, _, t'.ev, s1 _ _ (sF _ _ t'.ob), rfl, _, rfl, tv, n, ks, p, rfl, (RTurns CT).mono (sF.trans s1) rt, hp, fun H2 s2 => by
          have q := k H2 (s1.trans s2)
          rw [em] at q
          exact q⟩⟩
    clear hN
    refine ⟨_, rfl, .inl ⟨t, xs, rfl, .inr (SqT.of (sF _ _ ht)), .inl ⟨rfl, _, rfl, ?_⟩⟩⟩
    cases tl with
    | nil =>
      have hx0 : xs.length = 0 := hxl
      rw [decide_eq_true (show V.int ((xs.length : Nat) : Int) = V.int 0 from congrArg V.int (by omega))]
      refine iteT (iteT (near ?_))
      unfold modAt
      show (match (md.lying s n).head? with
        | some d => (md.ring d.1).modulus
        | none => 0) = _
      rw [eh]
    | cons l r =>
      have hx0 : xs.length = r.length + 1 := hxl
      rw [decide_eq_false (show ¬ V.int ((xs.length : Nat) : Int) = V.int 0 from fun z => by have := V.int.inj z; omega)]
      refine iteF ?_
      refine ⟨_, rfl, .inl ⟨t, xs, rfl, .inr (SqT.of (sF _ _ ht)), .inl ⟨rfl, _, rfl, ?_⟩⟩⟩
      cases r with
      | cons l2 r2 =>
        rw [List.length_cons] at hx0
        rw [decide_eq_false (show ¬ V.int ((xs.length : Nat) : Int) = V.int 1 from fun z => by have := V.int.inj z; omega)]
        exact iteF (iteF (far _ (Same.refl _) ep))
      | nil =>
        rw [List.length_nil] at hx0
        rw [decide_eq_true (show V.int ((xs.length : Nat) : Int) = V.int 1 from congrArg V.int (by omega))]
        cases pd with
        | cons hh tt =>
          obtain ⟨c, z1, z2, rfl, hc, rfl, rfl⟩ := hh
          refine iteT ⟨_, rfl, .inr (.inl ⟨t, _, 0, _, rfl, rfl, SqT.of (sF _ _ ht), atI_nat (j := 0) rfl, .inr (.inl ⟨c, _, 0, _, rfl, rfl, SqT.of (sF _ _ hc), atI_nat (j := 0) rfl, _, rfl, .inl ⟨rfl, _, rfl, ?_⟩⟩)⟩)⟩
          by_cases hne : l.1 = n
          · rw [decide_eq_true (congrArg V.str hne)]
            refine iteT (near ?_)
            unfold modAt
            show (if l.1 = n then (match (md.lying s n).head? with
              | some d => (md.ring d.1).modulus
              | none => 0) else _) = _
            rw [if_pos hne, eh]
          · rw [decide_eq_false (fun z => hne (V.str.inj z))]
            refine iteF (far _ (Same.refl _) ?_)
            unfold modAt
            show (if l.1 = n then _ else perOf ks n) = _
            rw [if_neg hne, ep]
end
end TR

/-! part M6 -/
/-! Seating a spot on a ring. -/
namespace TR
open PySem PySem.Spec PyProof.Rows L2 G
def MapD.setRing (md : MapD) (k : Nat) (r : RingD) : MapD := { md with ring := fun j => if j = k then r else md.ring j }
def MapD.setLie (md : MapD) (s : Nat) (n : Str) (l : List (Nat × Int)) : MapD := { md with lying := fun s' n' => if s' = s ∧ n' = n then l else md.lying s' n' }
def RingD.sit (r : RingD) (d : Nat × Int) : RingD := { r with seats := r.seats ++ [d] }
def MapD.seat (md : MapD) (s k : Nat) (p : Int) : MapD := (md.setRing k ((md.ring k).sit (s, p))).setLie s (md.ring k).turn (md.lying s (md.ring k).turn ++ [(k, p)])
theorem setRing_same {md : MapD} {k : Nat} {r : RingD} : (md.setRing k r).ring k = r := if_pos rfl
theorem setRing_ne {md : MapD} {k j : Nat} {r : RingD} (h : j ≠ k) : (md.setRing k r).ring j = md.ring j := if_neg h
theorem setLie_same {md : MapD} {s : Nat} {n : Str} {l : List (Nat × Int)} : (md.setLie s n l).lying s n = l := if_pos ⟨rfl, rfl⟩
theorem setLie_ne {md : MapD} {s s' : Nat} {n n' : Str} {l : List (Nat × Int)} (h : ¬ (s' = s ∧ n' = n)) : (md.setLie s n l).lying s' n' = md.lying s' n' := if_neg h
section
variable {CM CG : Addr} {md : MapD} {tv : V} {ad : Ad} {F S H : Hp}
/-- a ring's seats change in place -/
theorem MM.seats (h : MM CM CG md tv ad F S) {k : Nat} (hk : k < md.drawn) {l : List (Nat × Int)} {ys : List V} (pd : Paired (fun d x => RSeat.rel d x F) l ys) (hl : ∀ d ∈ l, d.1 < md.laid) : MM CM CG (md.setRing k { md.ring k with seats := l }) tv ad F (upd S (ad (.seats k)) (.lst ys)) := by
  refine h.put (md' := md.setRing k { md.ring k with seats := l }) (r0 := .seats k) hk (fun r hr => ?_) ⟨ys, rfl, ?_⟩ (fun r o hr ne c => ?_) ⟨h.wf.ci, h.wf.ly, fun j hj d hd => ?_⟩
  · cases r <;> exact hr
  · rw [setRing_same]; exact pd
  · cases r with
    | ring j =>
      by_cases e : j = k
      · subst e
        obtain ⟨dx, rfl⟩ := c
        refine ⟨dx, ?_⟩
        rw [setRing_same]
        rfl
      · show ∃ dx, o = .ins CG dx (ringFs j ((md.setRing k _).ring j) ad)
        rw [setRing_ne e]
        exact c
    | seats j =>
      have e : j ≠ k := fun z => ne (by rw [z])
      show ∃ xs, o = .lst xs ∧ Paired (fun d x => RSeat.rel d x F) ((md.setRing k _).ring j).seats xs
      rw [setRing_ne e]
      exact c
    | _ => exact c
  · by_cases e : j = k
    · subst e
      rw [setRing_same] at hd
      exact hl d hd
    · rw [setRing_ne e] at hd
      exact h.wf.se j hj d hd
/-- where a spot lies on rings of a turn changes in place -/
theorem MM.lie (h : MM CM CG md tv ad F S) {s : Nat} {n : Str} (hs : s < md.laid) (hn : n ∈ md.has s) {l : List (Nat × Int)} {ys : List V} (pd : Paired (fun d x => (RLie ad).rel d x F) l ys) (hl : ∀ d ∈ l, d.1 < md.drawn) : MM CM CG (md.setLie s n l) tv ad F (upd S (ad (.lyL s n)) (.lst ys)) := by
  refine h.put (md' := md.setLie s n l) (r0 := .lyL s n) ⟨hs, hn⟩ (fun r hr => ?_) ⟨ys, rfl, ?_⟩ (fun r o hr ne c => ?_) ⟨h.wf.ci, fun s' n' hs' hn' d hd => ?_, h.wf.se⟩
  · cases r <;> exact hr
  · rw [setLie_same]; exact pd
  · cases r with
    | lyL s' n' =>
      have e : ¬ (s' = s ∧ n' = n) := fun z => ne (by rw [z.1, z.2])
      show ∃ xs, o = .lst xs ∧ Paired (fun d x => (RLie ad).rel d x F) ((md.setLie s n l).lying s' n') xs
      rw [setLie_ne e]
      exact c
    | _ => exact c
  · by_cases e : s' = s ∧ n' = n
    · obtain ⟨rfl, rfl⟩ := e
      rw [setLie_same] at hd
      exact hl d hd
    · rw [setLie_ne e] at hd
      exact h.wf.ly s' n' hs' hn' d hd
end
section
variable {P : Program} {w : World} {K : PySem.W.Frag} {mg : Str → Option Value} {base : Heap} {CT CG CM CR : Addr}
abbrev s_RingMap_seat : Stmt := inClass (top 14) 2
abbrev N_RingMap_seat : List Str := ["self", "spot", "ring", "position"]
abbrev P_RingMap_seat : List Str := ["self", "spot", "ring", "position"]
theorem sc_RingMap_seat : FnScope N_RingMap_seat P_RingMap_seat (defScope s_RingMap_seat) := ⟨rfl, rfl, rfl, by decide +kernel, rfl, by decide +kernel, by decide +kernel⟩
theorem bn_RingMap_seat : BindsNo "seat" "RingMap.seat" s_RingMap_seat P_RingMap_seat := fun _ _ _ _ _ _ us hl => match us, hl with | [_, _, _, _], _ => rfl
def sp_seat (CM CG : Addr) : Sp := fun vs H Q _ => ∃ (F S : Hp) (md : MapD) (tv : V) (ad : Ad) (s k : Nat) (p : Int), vs = [.ref (ad .map), .int (s : Nat), .ref (ad (.ring k)), .int p] ∧ Sp2 F S H ∧ MM CM CG md tv ad F S ∧ s < md.laid ∧ k < md.drawn ∧ (md.ring k).turn ∈ md.has s ∧
  (md.ring k).seats.length ≤ 10000 ∧ (md.lying s (md.ring k).turn).length ≤ 10000 ∧ ∀ F' S' H', Mu F S H F' S' H' → MM CM CG (md.seat s k p) tv ad F' S' → Q .non H'
theorem ok_seat (RM : KlF K mg "RingMap" CM mapNames) (RG : KlF K mg "Ring" CG ["number", "turn", "modulus", "seats"]) (F : MtF K CM "seat" "RingMap.seat" s_RingMap_seat []) : Met P w K mg base 1 CM "seat" (sp_seat CM CG) := by
  refine F.met RM.cl sc_RingMap_seat bn_RingMap_seat (fun vs H Q E h => ?_) (fun f cdv A outer s H vs Q E hr h => ?_)
  · obtain ⟨_, _, _, _, _, _, _, _, rfl, _⟩ := h
    rfl
  · obtain ⟨F, S, md, tv, ad, s, k, p, rfl, d, mm, hs, hk, hn, hl1, hl2, q⟩ := h
    obtain ⟨_, e1, gx, rfl⟩ := mm.at_ (.ring k) hk
    obtain ⟨_, e2, xs, rfl, pd2⟩ := mm.at_ (.seats k) hk
    have hxl : xs.length = (md.ring k).seats.length := pd_len pd2
    refine ⟨_, (pss_cons (ps_expr (pe_bm PySem.F.plainAttrs_list PySem.F.slot_list_append PySem.F.type_list_append mt_append (k_fld (pv 2) (K := K)) (pa_cons (pe_tup (pa_cons (pv 1) (pa_cons (pv 3) pa_nil))) pa_nil)))
    (pss_one (ps_expr (pe_bm PySem.F.plainAttrs_list PySem.F.slot_list_append PySem.F.type_list_append mt_append (pe_dget (hu_of hr) (pe_dget (hu_of hr) (k_fld (pv 0) (K := K)) (pv 1) (fun _ _ => rfl)) (k_fld (pv 2) (K := K)) (fun _ _ => rfl)) (pa_cons (pe_tup (pa_cons (pv 2) (pa_cons (pv 3) pa_nil))) pa_nil))))), ?_⟩
    refine stp [some (.ref (ad .map)), some (.int (s : Nat)), some (.ref (ad (.ring k))), some (.int p)] rfl fun N hN => ?_
    refine ⟨_, rfl, _, CG, gx, _, _, rfl, d.ss _ _ e1, RG.cl, RG.no _ (by decide), rfl, .inl ⟨rfl, _, SqL.of (d.ss _ _ e2)⟩, _, rfl, _, rfl, sz (n := 2) (by decide), fun t ht => ?_⟩
    have m1 := Mu.newF d (o := .tup [.int (s : Nat), .int p]) ht
    refine ⟨_, _, _, rfl, rfl, m1.d1.ss _ _ e2, szl (by omega), ?_⟩
    have m2 := Mu.put m1.d1 (o' := .lst (xs ++ [.ref t])) e2
    have mm1 := (mm.mono (Same.new (o := .tup [.int (s : Nat), .int p]) (d.nF ht))).seats hk (l := (md.ring k).seats ++ [(s, p)]) (ys := xs ++ [.ref t]) (pd_snoc (pd_mono (fun _ _ => RSeat.mono (Same.new (d.nF ht))) pd2) ⟨t, rfl, upd_same⟩) (fun d hd => by
      rcases List.mem_append.mp hd with z | z
      · exact mm.wf.se k hk d z
      · rw [List.mem_singleton.mp z]; exact hs)
    have m12 := m1.trans m2
    generalize upd (upd H t (.tup [.int (s : Nat), .int p])) (ad (.seats k)) (.lst (xs ++ [.ref t])) = H2 at m2 m12
    generalize upd F t (.tup [.int (s : Nat), .int p]) = F1 at m1 m2 m12 mm1
    generalize upd S (ad (.seats k)) (.lst (xs ++ [.ref t])) = S1 at m2 m12 mm1
    refine hN _ _ ?_
    clear hN
    obtain ⟨_, f0, dx, rfl⟩ := mm1.at_ .map trivial
    obtain ⟨_, f1, rfl⟩ := mm1.at_ .lying trivial
    obtain ⟨_, f2, rfl⟩ := mm1.at_ (.lyD s) hs
    obtain ⟨_, f3, ys, rfl, pd3⟩ := mm1.at_ (.lyL s (md.ring k).turn) ⟨hs, hn⟩
    obtain ⟨_, f4, gx', rfl⟩ := mm1.at_ (.ring k) hk
    have hyl : ys.length = (md.lying s (md.ring k).turn).length := pd_len pd3
    have f4' : S1 (ad (.ring k)) = some (.ins CG gx' (ringFs k (md.ring k) ad)) := by
      rw [f4]
      unfold ringFs
      rw [setRing_same]
    refine stq [some (.ref (ad .map)), some (.int (s : Nat)), some (.ref (ad (.ring k))), some (.int p)] rfl ?_
    refine ⟨_, rfl, _, CM, dx, _, _, rfl, m12.d1.ss _ _ f0, RM.cl, RM.no _ (by decide), rfl, _, rfl, _, _, rfl, dgetV (k := Sum.inl (s : Int)) (m12.d1.ss _ _ f1) (lyK_at hs), ?_⟩
    refine ⟨_, rfl, _, CG, gx', _, _, rfl, m12.d1.ss _ _ f4', RG.cl, RG.no _ (by decide), rfl, _, _, rfl, dgetV (k := Sum.inr (md.ring k).turn) (m12.d1.ss _ _ f2) (lyDK_at hn), ?_⟩
    refine ⟨.inl ⟨rfl, _, SqL.of (m12.d1.ss _ _ f3)⟩, _, rfl, _, rfl, sz (n := 2) (by decide), fun t2 ht2 => ?_⟩
    have m3 := Mu.newF m12.d1 (o := .tup [.ref (ad (.ring k)), .int p]) ht2
    refine ⟨_, _, _, rfl, rfl, m3.d1.ss _ _ f3, szl (by omega), ?_⟩
    have m4 := Mu.put m3.d1 (o' := .lst (ys ++ [.ref t2])) f3
    have mm2 := (mm1.mono (Same.new (o := .tup [.ref (ad (.ring k)), .int p]) (m12.d1.nF ht2))).lie (s := s) (n := (md.ring k).turn) hs hn (l := md.lying s (md.ring k).turn ++ [(k, p)]) (ys := ys ++ [.ref t2])
      (pd_snoc (pd_mono (fun _ _ => (RLie ad).mono (Same.new (m12.d1.nF ht2))) pd3) ⟨t2, rfl, upd_same⟩) (fun d hd => by
      rcases List.mem_append.mp hd with z | z
      · exact mm.wf.ly s _ hs hn d z
      · rw [List.mem_singleton.mp z]; exact hk)
    exact q _ _ _ (m12.trans (m3.trans m4)) mm2
end
end TR

/-! part M7 -/
/-! What a map becomes where a spot is laid: the heap's side. -/
namespace TR
open PySem PySem.Spec PyProof.Rows L2 G
theorem pd_mem {α β : Type} {r r' : α → β → Prop} : ∀ {xs : List α} {ys : List β}, (∀ a ∈ xs, ∀ b, r a b → r' a b) → Paired r xs ys → Paired r' xs ys
  | _, _, _, .nil => .nil
  | _, _, f, .cons h t => .cons (f _ List.mem_cons_self _ h) (pd_mem (fun a ha => f a (List.mem_cons_of_mem _ ha)) t)
section
variable {CM CG : Addr} {md md' : MapD} {tv : V} {ad ad' : Ad} {F S S' H : Hp}
theorem Cont.ext {r : Ro} {o : HO} (wf : WfM md) (hr : live md r) (ha : ∀ r, live md r → ad' r = ad r) (c : Cont CM CG md tv ad F r o) : Cont CM CG md tv ad' F r o := by
  cases r with
  | map =>
    obtain ⟨dx, rfl⟩ := c
    refine ⟨dx, ?_⟩
    unfold mapFs
    rw [ha .circ trivial, ha .spots trivial, ha .lying trivial, ha .spotOf trivial]
  | circ =>
    have c' : o = .lst (md.circles.map fun k => V.ref (ad (.ring k))) := c
    show o = .lst (md.circles.map fun k => V.ref (ad' (.ring k)))
    rw [c']
    exact congrArg HO.lst (List.map_congr_left fun k hk => by rw [ha (.ring k) (wf.ci k hk)])
  | spots => exact c
  | spotOf => exact c
  | lying =>
    have c' : o = .dK (lyK md.laid ad) := c
    show o = .dK (lyK md.laid ad')
    rw [c']
    exact congrArg HO.dK (List.map_congr_left fun s hs => by rw [ha (.lyD s) (List.mem_range.mp hs)])
  | lyD s =>
    have c' : o = .dK (lyDK s (md.has s) ad) := c
    show o = .dK (lyDK s (md.has s) ad')
    rw [c']
    exact congrArg HO.dK (List.map_congr_left fun n hn => by rw [ha (.lyL s n) ⟨hr, hn⟩])
  | lyL s n =>
    obtain ⟨xs, e, pd⟩ := c
    refine ⟨xs, e, pd_mem (fun d hd b h => ?_) pd⟩
    obtain ⟨a, e1, e2⟩ := h
    exact ⟨a, e1, by rw [ha (.ring d.1) (wf.ly s n hr.1 hr.2 d hd)]; exact e2⟩
  | ring k =>
    obtain ⟨dx, rfl⟩ := c
    refine ⟨dx, ?_⟩
    unfold ringFs
    rw [ha (.seats k) hr]
  | seats k => exact c
theorem MM.sn (h : MM CM CG md tv ad F S) {r : Ro} (hr : live md r) : S (ad r) ≠ none := by
  obtain ⟨o, e, _⟩ := h.at_ r hr
  exact ne_none e
theorem MM.ne (h : MM CM CG md tv ad F S) {r : Ro} {p : Addr} (hr : live md r) (hp : S p = none) : ad r ≠ p := fun e => h.sn hr (by rw [e]; exact hp)
/-- the attributes "laid" and "drawn" -/
theorem MM.attr (h : MM CM CG md tv ad F S) (a b : Nat) (dx : Addr) : MM CM CG { md with lf := a, df := b } tv ad F (upd S (ad .map) (.ins CM dx (mapFs { md with lf := a, df := b } tv ad))) := by
  refine h.put (md' := { md with lf := a, df := b }) (r0 := .map) trivial (fun r hr => ?_) ⟨dx, rfl⟩ (fun r o hr ne c => ?_) ⟨h.wf.ci, h.wf.ly, h.wf.se⟩
  · cases r <;> exact hr
  · cases r with
    | map => exact absurd rfl ne
    | _ => exact c
theorem MM.spotsP (h : MM CM CG md tv ad F S) (l : List Nat) : MM CM CG { md with spots := l } tv ad F (upd S (ad .spots) (.lst (l.map fun s => V.int (s : Nat)))) := by
  refine h.put (md' := { md with spots := l }) (r0 := .spots) trivial (fun r hr => ?_) rfl (fun r o hr ne c => ?_) ⟨h.wf.ci, h.wf.ly, h.wf.se⟩
  · cases r <;> exact hr
  · cases r with
    | spots => exact absurd rfl ne
    | _ => exact c
theorem MM.circP (h : MM CM CG md tv ad F S) (l : List Nat) (hl : ∀ k ∈ l, k < md.drawn) : MM CM CG { md with circles := l } tv ad F (upd S (ad .circ) (.lst (l.map fun k => V.ref (ad (.ring k))))) := by
  refine h.put (md' := { md with circles := l }) (r0 := .circ) trivial (fun r hr => ?_) rfl (fun r o hr ne c => ?_) ⟨hl, h.wf.ly, h.wf.se⟩
  · cases r <;> exact hr
  · cases r with
    | circ => exact absurd rfl ne
    | _ => exact c
theorem MM.spotOfP (h : MM CM CG md tv ad F S) (l : List (Str × Nat)) : MM CM CG { md with spotOf := l } tv ad F (upd S (ad .spotOf) (.dK (spK l))) := by
  refine h.put (md' := { md with spotOf := l }) (r0 := .spotOf) trivial (fun r hr => ?_) rfl (fun r o hr ne c => ?_) ⟨h.wf.ci, h.wf.ly, h.wf.se⟩
  · cases r <;> exact hr
  · cases r with
    | spotOf => exact absurd rfl ne
    | _ => exact c
def MapD.openS (md : MapD) : MapD := { md with laid := md.laid + 1, has := fun s => if s = md.laid then [] else md.has s }
/-- self.lying[spot] = {} -/
theorem MM.openS (h : MM CM CG md tv ad F S) {p : Addr} (hp : S p = none) : MM CM CG md.openS tv (adU ad (.lyD md.laid) p) F (upd (upd S p (.dK [])) (ad .lying) (.dK (lyK (md.laid + 1) (adU ad (.lyD md.laid) p)))) := by
  have nl : ¬ live md (.lyD md.laid) := Nat.lt_irrefl _
  have ha : ∀ r, live md r → adU ad (.lyD md.laid) p r = ad r := fun r hr => adU_ne fun e => nl (e ▸ hr)
  have hne : ∀ r, live md r → ad r ≠ p := fun r hr => h.ne hr hp
  refine h.gen (fun r => r = .lying ∨ r = .lyD md.laid) (fun r hr q => ?_) (fun r hr _ => ha r hr) (fun r hr q => ?_) (fun r o hr q c => ?_) (fun r hr q => ?_) (fun r r' hr q hr' e => ?_) ⟨h.wf.ci, fun s n hs hn d hd => ?_, fun k hk d hd => Nat.lt_succ_of_lt (h.wf.se k hk d hd)⟩
  · cases r with
    | lyD s =>
      have h1 : s < md.laid + 1 := hr
      have h2 : s ≠ md.laid := fun z => q (.inr (by rw [z]))
      show s < md.laid
      omega
    | lyL s n =>
      have h1 : s < md.laid + 1 := hr.1
      have h3 : n ∈ (if s = md.laid then [] else md.has s) := hr.2
      by_cases z : s = md.laid
      · rw [if_pos z] at h3; cases h3
      · rw [if_neg z] at h3
        exact ⟨by omega, h3⟩
    | _ => exact hr
  · rw [upd_ne (fun z => q (.inl (h.inj _ _ hr trivial z))), upd_ne (hne r hr)]
  · have c' := c.ext h.wf hr ha
    cases r with
    | lying => exact absurd (.inl rfl) q
    | lyD s =>
      have h2 : s ≠ md.laid := fun z => q (.inr (by rw [z]))
      show o = .dK (lyDK s (if s = md.laid then [] else md.has s) _)
      rw [if_neg h2]
      exact c'
    | _ => exact c'
  · rcases q with rfl | rfl
    · refine ⟨_, ?_, rfl⟩
      rw [ha .lying trivial, upd_same]
      rfl
    · refine ⟨.dK [], ?_, ?_⟩
      · rw [adU_same, upd_ne (Ne.symm (hne .lying trivial)), upd_same]
      · show HO.dK [] = .dK (lyDK md.laid (if md.laid = md.laid then [] else md.has md.laid) _)
        rw [if_pos rfl]
        rfl
  · -- injective
    have back : ∀ r, live md.openS r → r ≠ .lyD md.laid → live md r := fun r hr z => by
      cases r with
      | lyD s =>
        have h1 : s < md.laid + 1 := hr
        have h2 : s ≠ md.laid := fun y => z (by rw [y])
        show s < md.laid
        omega
      | lyL s n =>
        have h1 : s < md.laid + 1 := hr.1
        have h3 : n ∈ (if s = md.laid then [] else md.has s) := hr.2
        by_cases y : s = md.laid
        · rw [if_pos y] at h3; cases h3
        · rw [if_neg y] at h3
          exact ⟨by omega, h3⟩
      | _ => exact hr
    by_cases z : r = .lyD md.laid
    · by_cases z' : r' = .lyD md.laid
      · rw [z, z']
      · subst z
        rw [adU_same, ha r' (back r' hr' z')] at e
        exact absurd e.symm (hne r' (back r' hr' z'))
    · by_cases z' : r' = .lyD md.laid
      · subst z'
        rw [adU_same, ha r (back r hr z)] at e
        exact absurd e (hne r (back r hr z))
      · rw [ha r (back r hr z), ha r' (back r' hr' z')] at e
        exact h.inj r r' (back r hr z) (back r' hr' z') e
  · have h1 : s < md.laid + 1 := hs
    have h3 : n ∈ (if s = md.laid then [] else md.has s) := hn
    by_cases y : s = md.laid
    · rw [if_pos y] at h3; cases h3
    · rw [if_neg y] at h3
      exact h.wf.ly s n (by omega) h3 d hd
def MapD.newR (md : MapD) (r : RingD) : MapD := { md with drawn := md.drawn + 1, ring := fun j => if j = md.drawn then r else md.ring j }
/-- a new ring without seats -/
theorem MM.newR (h : MM CM CG md tv ad F S) {x l dx : Addr} (r : RingD) (hs0 : r.seats = []) (hx : S x = none) (hl0 : S l = none) (hxl : l ≠ x) :
    MM CM CG (md.newR r) tv (adU (adU ad (.ring md.drawn) x) (.seats md.drawn) l) F (upd (upd S l (.lst [])) x (.ins CG dx (ringFs md.drawn r (adU (adU ad (.ring md.drawn) x) (.seats md.drawn) l)))) := by
  have n1 : ¬ live md (.ring md.drawn) := Nat.lt_irrefl _
  have n2 : ¬ live md (.seats md.drawn) := Nat.lt_irrefl _
  have ha : ∀ q, live md q → adU (adU ad (.ring md.drawn) x) (.seats md.drawn) l q = ad q := fun q hq => by
    have e1 : q ≠ .seats md.drawn := fun e => n2 (e ▸ hq)
    have e2 : q ≠ .ring md.drawn := fun e => n1 (e ▸ hq)
    rw [adU_ne e1, adU_ne e2]
  have a1 : adU (adU ad (.ring md.drawn) x) (.seats md.drawn) l (.ring md.drawn) = x := (adU_ne (by intro z; cases z)).trans adU_same
  have a2 : adU (adU ad (.ring md.drawn) x) (.seats md.drawn) l (.seats md.drawn) = l := adU_same
  have back : ∀ q, live (md.newR r) q → ¬ (q = .ring md.drawn ∨ q = .seats md.drawn) → live md q := fun q hq z => by
    cases q with
    | ring k =>
      have h1 : k < md.drawn + 1 := hq
      have h2 : k ≠ md.drawn := fun y => z (.inl (by rw [y]))
      show k < md.drawn
      omega
    | seats k =>
      have h1 : k < md.drawn + 1 := hq
      have h2 : k ≠ md.drawn := fun y => z (.inr (by rw [y]))
      show k < md.drawn
      omega
    | _ => exact hq
  refine h.gen (fun q => q = .ring md.drawn ∨ q = .seats md.drawn) back (fun q hq _ => ha q hq) (fun q hq z => ?_) (fun q o hq z c => ?_) (fun q hq z => ?_) (fun q q' hq z hq' e => ?_) ⟨fun k hk => Nat.lt_succ_of_lt (h.wf.ci k hk), fun s n hs hn d hd => Nat.lt_succ_of_lt (h.wf.ly s n hs hn d hd), fun k hk d hd => ?_⟩
  · rw [upd_ne (h.ne hq hx), upd_ne (h.ne hq hl0)]
  · have c' := c.ext h.wf hq ha
    cases q with
    | ring k =>
      have h2 : k ≠ md.drawn := fun y => z (.inl (by rw [y]))
      show ∃ dx, o = .ins CG dx (ringFs k (if k = md.drawn then r else md.ring k) _)
      rw [if_neg h2]
      exact c'
    | seats k =>
      have h2 : k ≠ md.drawn := fun y => z (.inr (by rw [y]))
      show ∃ xs, o = .lst xs ∧ Paired (fun d x => RSeat.rel d x F) (if k = md.drawn then r else md.ring k).seats xs
      rw [if_neg h2]
      exact c'
    | _ => exact c'
  · rcases z with rfl | rfl
    · refine ⟨_, by rw [a1, upd_same], dx, ?_⟩
      show _ = HO.ins CG dx (ringFs md.drawn (if md.drawn = md.drawn then r else md.ring md.drawn) _)
      rw [if_pos rfl]
    · refine ⟨.lst [], by rw [a2, upd_ne hxl, upd_same], [], rfl, ?_⟩
      show Paired _ (if md.drawn = md.drawn then r else md.ring md.drawn).seats []
      rw [if_pos rfl, hs0]
      exact .nil
  · have old : ∀ q', live (md.newR r) q' → q' ≠ .ring md.drawn → q' ≠ .seats md.drawn → live md q' := fun q' hq' y1 y2 => back q' hq' (fun y => y.elim y1 y2)
    rcases z with rfl | rfl
    · rw [a1] at e
      by_cases y1 : q' = .ring md.drawn
      · exact y1.symm
      · by_cases y2 : q' = .seats md.drawn
        · rw [y2, a2] at e; exact absurd e.symm hxl
        · rw [ha q' (old q' hq' y1 y2)] at e
          exact absurd e.symm (h.ne (old q' hq' y1 y2) hx)
    · rw [a2] at e
      by_cases y1 : q' = .ring md.drawn
      · rw [y1, a1] at e; exact absurd e hxl
      · by_cases y2 : q' = .seats md.drawn
        · exact y2.symm
        · rw [ha q' (old q' hq' y1 y2)] at e
          exact absurd e.symm (h.ne (old q' hq' y1 y2) hl0)
  · have hd' : d ∈ (if k = md.drawn then r else md.ring k).seats := hd
    by_cases y : k = md.drawn
    · rw [if_pos y, hs0] at hd'; cases hd'
    · rw [if_neg y] at hd'
      have hk' : k < md.drawn + 1 := hk
      exact h.wf.se k (by omega) d hd'
def MapD.newL (md : MapD) (s : Nat) (n : Str) : MapD := { md with has := fun s' => if s' = s then md.has s ++ [n] else md.has s', lying := fun s' n' => if s' = s ∧ n' = n then [] else md.lying s' n' }
/-- self.lying[spot][name] = [] -/
theorem MM.newL (h : MM CM CG md tv ad F S) {s : Nat} {n : Str} {p : Addr} (hs : s < md.laid) (hn : n ∉ md.has s) (hp : S p = none) :
    MM CM CG (md.newL s n) tv (adU ad (.lyL s n) p) F (upd (upd S p (.lst [])) (ad (.lyD s)) (.dK (lyDK s (md.has s ++ [n]) (adU ad (.lyL s n) p)))) := by
  have nl : ¬ live md (.lyL s n) := fun z => hn z.2
  have ha : ∀ r, live md r → adU ad (.lyL s n) p r = ad r := fun r hr => adU_ne fun e => nl (e ▸ hr)
  have hne : ∀ r, live md r → ad r ≠ p := fun r hr => h.ne hr hp
  have hD : live md (.lyD s) := hs
  have back : ∀ r, live (md.newL s n) r → r ≠ .lyL s n → live md r := fun r hr z => by
    cases r with
    | lyL s' n' =>
      have h3 : n' ∈ (if s' = s then md.has s ++ [n] else md.has s') := hr.2
      refine ⟨hr.1, ?_⟩
      by_cases y : s' = s
      · rw [if_pos y] at h3
        rcases List.mem_append.mp h3 with q | q
        · rw [y]; exact q
        · exact absurd (by rw [y, List.mem_singleton.mp q]) z
      · rw [if_neg y] at h3; exact h3
    | _ => exact hr
  refine h.gen (fun r => r = .lyD s ∨ r = .lyL s n) (fun r hr q => back r hr (fun z => q (.inr z))) (fun r hr _ => ha r hr) (fun r hr q => ?_) (fun r o hr q c => ?_) (fun r hr q => ?_) (fun r r' hr q hr' e => ?_) ⟨h.wf.ci, fun s' n' hs' hn' d hd => ?_, h.wf.se⟩
  · rw [upd_ne (fun z => q (.inl (h.inj _ _ hr hD z))), upd_ne (hne r hr)]
  · have c' := c.ext h.wf hr ha
    cases r with
    | lyD s' =>
      have h2 : s' ≠ s := fun z => q (.inl (by rw [z]))
      show o = .dK (lyDK s' (if s' = s then md.has s ++ [n] else md.has s') _)
      rw [if_neg h2]
      exact c'
    | lyL s' n' =>
      have h2 : ¬ (s' = s ∧ n' = n) := fun z => q (.inr (by rw [z.1, z.2]))
      show ∃ xs, o = .lst xs ∧ Paired _ (if s' = s ∧ n' = n then [] else md.lying s' n') xs
      rw [if_neg h2]
      exact c'
    | _ => exact c'
  · rcases q with rfl | rfl
    · refine ⟨_, by rw [ha _ hD, upd_same], ?_⟩
      show _ = HO.dK (lyDK s (if s = s then md.has s ++ [n] else md.has s) _)
      rw [if_pos rfl]
    · refine ⟨.lst [], by rw [adU_same, upd_ne (Ne.symm (hne _ hD)), upd_same], [], rfl, ?_⟩
      show Paired _ (if s = s ∧ n = n then [] else md.lying s n) []
      rw [if_pos ⟨rfl, rfl⟩]
      exact .nil
  · by_cases z : r = .lyL s n
    · by_cases z' : r' = .lyL s n
      · rw [z, z']
      · subst z
        rw [adU_same, ha r' (back r' hr' z')] at e
        exact absurd e.symm (hne r' (back r' hr' z'))
    · by_cases z' : r' = .lyL s n
      · subst z'
        rw [adU_same, ha r (back r hr z)] at e
        exact absurd e (hne r (back r hr z))
      · rw [ha r (back r hr z), ha r' (back r' hr' z')] at e
        exact h.inj r r' (back r hr z) (back r' hr' z') e
  · have hd' : d ∈ (if s' = s ∧ n' = n then [] else md.lying s' n') := hd
    by_cases y : s' = s ∧ n' = n
    · rw [if_pos y] at hd'; cases hd'
    · rw [if_neg y] at hd'
      have h3 : n' ∈ (if s' = s then md.has s ++ [n] else md.has s') := hn'
      refine h.wf.ly s' n' hs' ?_ d hd'
      by_cases y2 : s' = s
      · rw [if_pos y2] at h3
        rcases List.mem_append.mp h3 with q | q
        · rw [y2]; exact q
        · exact absurd ⟨y2, List.mem_singleton.mp q⟩ y
      · rw [if_neg y2] at h3; exact h3
end
end TR

/-! part M8 -/
/-! A new spot. -/
namespace TR
open PySem PySem.Spec PyProof.Rows L2 G
def MapD.addTurn (md : MapD) (s : Nat) (n : Str) (per : Int) : MapD :=
  let m1 := md.newR ⟨n, per, []⟩
  let m2 : MapD := { m1 with lf := m1.lf, df := m1.df + 1 }
  let m3 : MapD := { m2 with circles := m2.circles ++ [md.drawn] }
  (m3.newL s n).seat s md.drawn 0
def MapD.newSpot0 (md : MapD) : MapD :=
  let m1 : MapD := { md with lf := md.lf + 1, df := md.df }
  let m2 : MapD := { m1 with spots := m1.spots ++ [md.laid] }
  m2.openS
def MapD.newSpot (md : MapD) (ks : Kinds) : MapD := ks.foldl (fun m p => m.addTurn md.laid p.1 p.2) md.newSpot0
theorem put_laid {md : MapD} {tv : V} {ad : Ad} : putF "laid" (.int ((md.lf : Int) + 1)) (mapFs md tv ad) = mapFs { md with lf := md.lf + 1, df := md.df } tv ad := by
  have n1 : ¬ (("laid" : Str) = "turns") := by decide +kernel
  have n2 : ¬ (("laid" : Str) = "circles") := by decide +kernel
  have n3 : ¬ (("laid" : Str) = "spots") := by decide +kernel
  have n4 : ¬ (("laid" : Str) = "lying") := by decide +kernel
  simp [putF, mapFs, n1, n2, n3, n4, Ne.symm n1, Ne.symm n2, Ne.symm n3, Ne.symm n4]
theorem put_drawn {md : MapD} {tv : V} {ad : Ad} : putF "drawn" (.int ((md.df : Int) + 1)) (mapFs md tv ad) = mapFs { md with lf := md.lf, df := md.df + 1 } tv ad := by
  have n1 : ¬ (("drawn" : Str) = "turns") := by decide +kernel
  have n2 : ¬ (("drawn" : Str) = "circles") := by decide +kernel
  have n3 : ¬ (("drawn" : Str) = "spots") := by decide +kernel
  have n4 : ¬ (("drawn" : Str) = "lying") := by decide +kernel
  have n5 : ¬ (("drawn" : Str) = "laid") := by decide +kernel
  simp [putF, mapFs, n1, n2, n3, n4, n5, Ne.symm n1, Ne.symm n2, Ne.symm n3, Ne.symm n4, Ne.symm n5]
theorem lyK_succ {n : Nat} {ad : Ad} : lyK (n + 1) ad = lyK n ad ++ [(Sum.inl (n : Int), .ref (ad (.lyD n)))] := by
  unfold lyK
  rw [List.range_succ, List.map_append]
  rfl
theorem lyK_none {n s : Nat} {ad : Ad} (h : n ≤ s) : valV (lyK n ad) (Sum.inl (s : Int)) = none := by
  unfold lyK
  have : ∀ (l : List Nat), (∀ x ∈ l, x < s) → valV (l.map fun (s : Nat) => ((Sum.inl ((s : Nat) : Int) : L2.Key), V.ref (ad (.lyD s)))) (Sum.inl (s : Int)) = none := by
    intro l
    induction l with
    | nil => intro _; rfl
    | cons a r ih =>
      intro h
      have ha := h a List.mem_cons_self
      rw [List.map_cons, valV_neg (fun z => by have := Sum.inl.inj z; omega)]
      exact ih fun x hx => h x (List.mem_cons_of_mem _ hx)
  exact this _ fun x hx => Nat.lt_of_lt_of_le (List.mem_range.mp hx) h
theorem lyK_ad {n : Nat} {ad ad' : Ad} (h : ∀ s < n, ad' (.lyD s) = ad (.lyD s)) : lyK n ad' = lyK n ad :=
  List.map_congr_left fun s hs => by rw [h s (List.mem_range.mp hs)]
theorem lyDK_none {s : Nat} {ns : List Str} {n : Str} {ad : Ad} (h : n ∉ ns) : valV (lyDK s ns ad) (Sum.inr n) = none := by
  unfold lyDK
  induction ns with
  | nil => rfl
  | cons a r ih =>
    rw [List.map_cons, valV_neg (fun z => h (by rw [← Sum.inr.inj z]; exact List.mem_cons_self))]
    exact ih fun z => h (List.mem_cons_of_mem _ z)
theorem lyDK_ad {s : Nat} {ns : List Str} {ad ad' : Ad} (h : ∀ n ∈ ns, ad' (.lyL s n) = ad (.lyL s n)) : lyDK s ns ad' = lyDK s ns ad :=
  List.map_congr_left fun n hn => by rw [h n hn]
theorem look_of {ks : Kinds} (nd : (ks.map (·.1)).Nodup) {i : Nat} {p : Str × Int} (h : ks[i]? = some p) : ks.lookup p.1 = some p.2 := by
  induction ks generalizing i with
  | nil => simp at h
  | cons a r ih =>
    rw [List.map_cons, List.nodup_cons] at nd
    rw [List.lookup_cons]
    cases i with
    | zero => simp at h; subst h; simp
    | succ i =>
      have h' : r[i]? = some p := by simpa using h
      have hm : p ∈ r := List.mem_of_getElem? h'
      rw [show (p.1 == a.1) = false by simp; intro e; exact nd.1 (by rw [← e]; exact List.mem_map_of_mem hm)]
      exact ih nd.2 h'
theorem not_yet {ks : Kinds} (nd : (ks.map (·.1)).Nodup) {i : Nat} {p : Str × Int} (h : ks[i]? = some p) : p.1 ∉ (ks.take i).map (·.1) := by
  intro hm
  rw [List.map_take] at hm
  obtain ⟨j, hj⟩ := List.getElem?_of_mem hm
  rw [List.getElem?_take] at hj
  split at hj
  · rename_i hlt
    have hi : (ks.map (·.1))[i]? = some p.1 := by rw [List.getElem?_map, h]; rfl
    have := (List.getElem?_inj (List.getElem?_eq_some_iff.mp hj).1 nd).mp (hj.trans hi.symm)
    omega
  · cases hj
structure Sync (md : MapD) : Prop where
  l : md.lf = md.laid
  d : md.df = md.drawn
theorem Own2.mu {F S H0 H' : Hp} {p q : Addr} {o u : HO} (w : Own F H0 F H' [(p, o), (q, u)]) (d : Sp2 F S H0) : Mu F S H0 F (upd (upd S q u) p o) H' := by
  obtain ⟨a0, a1, a2⟩ := w.al 0 p o rfl
  obtain ⟨b0, b1, b2⟩ := w.al 1 q u rfl
  refine ⟨d, ⟨w.sub, fun a z e => ?_, fun a e => ?_⟩, fun a z _ e => w.pu.same a z e, fun a e => w.pu.same.free e, Same.refl _, fun _ _ e => .inl e, fun a e => ?_⟩
  · by_cases h : a = p
    · subst h; rw [upd_same] at e; cases e; exact a2
    · rw [upd_ne h] at e
      by_cases h' : a = q
      · subst h'; rw [upd_same] at e; cases e; exact b2
      · rw [upd_ne h'] at e; exact w.pu.same _ _ (d.ss a z e)
  · by_cases h : a = p
    · subst h; exact a1
    · rw [upd_ne h] at e
      by_cases h' : a = q
      · subst h'; exact b1
      · rw [upd_ne h'] at e; exact d.dj a e
  · by_cases h : a = p
    · subst h; exact .inr a0
    · rw [upd_ne h] at e
      by_cases h' : a = q
      · subst h'; exact .inr b0
      · rw [upd_ne h'] at e; exact .inl e
section
variable {P : Program} {w : World} {K : PySem.W.Frag} {mg : Str → Option Value} {base : Heap} {CT CG CM CR : Addr}
abbrev s_Ring_init : Stmt := inClass (top 13) 0
abbrev N_Ring_init : List Str := ["self", "number", "turn", "modulus"]
abbrev P_Ring_init : List Str := ["self", "number", "turn", "modulus"]
theorem sc_Ring_init : FnScope N_Ring_init P_Ring_init (defScope s_Ring_init) := ⟨rfl, rfl, rfl, by decide +kernel, rfl, by decide +kernel, by decide +kernel⟩
theorem bn_Ring_init : BindsNo "__init__" "Ring.__init__" s_Ring_init P_Ring_init := fun _ _ _ _ _ _ us hl => match us, hl with | [_, _, _, _], _ => rfl
def sp_Ring_init (CG : Addr) : Sp := fun vs H Q _ => ∃ (F H0 : Hp) (x dx : Addr) (k : Nat) (n : Str) (m : Int), vs = [.ref x, .int (k : Nat), .str n, .int m] ∧ New CG F H0 H x dx ∧
  ∀ l H', l ≠ x → Own F H0 F H' [(x, .ins CG dx [("number", .int (k : Nat)), ("turn", .str n), ("modulus", .int m), ("seats", .ref l)]), (l, .lst [])] → Q .non H'
theorem ok_Ring_init (RG : KlF K mg "Ring" CG ["number", "turn", "modulus", "seats"]) (F : MkF K mg "Ring" CG "Ring.__init__" s_Ring_init []) : Mak P w K mg base 1 "Ring" CG (sp_Ring_init CG) := by
  refine F.mak sc_Ring_init bn_Ring_init (fun vs H Q E h => ?_) (fun f cdv A outer s H vs Q E hr h => ?_)
  · obtain ⟨_, _, _, _, _, _, _, rfl, _⟩ := h
    rfl
  · obtain ⟨F, H0, x, dx, k, n, m, rfl, nw, q⟩ := h
    have w0 := nw.own
    refine ⟨_, (pss_cons (ps_fld (pv 0) (pv 1) rfl)
    (pss_cons (ps_fld (pv 0) (pv 2) rfl)
    (pss_cons (ps_fld (pv 0) (pv 3) rfl)
    (pss_one (ps_fld (pv 0) (pe_lst pa_nil) rfl))))), ?_⟩
    refine ⟨_, rfl, _, rfl, st_fld w0 RG.cl (RG.no _ (by decide)) 0 [] rfl rfl (by decide +kernel) (by decide) fun w1 => ?_⟩
    refine ⟨_, rfl, _, rfl, st_fld w1 RG.cl (RG.no _ (by decide)) 0 ["number"] rfl rfl (by decide +kernel) (by decide) fun w2 => ?_⟩
    refine ⟨_, rfl, _, rfl, st_fld w2 RG.cl (RG.no _ (by decide)) 0 ["number", "turn"] rfl rfl (by decide +kernel) (by decide) fun w3 => ?_⟩
    refine ⟨sz (n := 0) (by decide), fun l hl => ?_⟩
    have w4 := w3.new (o := .lst []) hl
    refine ⟨_, rfl, st_fld w4 RG.cl (RG.no _ (by decide)) 1 ["number", "turn", "modulus"] rfl rfl (by decide +kernel) (by decide) fun w5 => ?_⟩
    refine q l _ (w5.ne (i := 0) (j := 1) rfl rfl (by decide)) ⟨w5.pu, fun i p o e => ?_, ?_⟩
    · cases i with
      | zero => exact w5.al 1 p o e
      | succ i => cases i with
        | zero => exact w5.al 0 p o e
        | succ i => simp at e
    · exact List.nodup_cons.mpr ⟨fun z => w5.ne (i := 0) (j := 1) rfl rfl (by decide) (List.mem_singleton.mp z).symm, by simp⟩
abbrev s_RingMap_new_spot : Stmt := inClass (top 14) 1
abbrev N_RingMap_new_spot : List Str := ["self", "spot", "name", "ring"]
abbrev P_RingMap_new_spot : List Str := ["self"]
theorem sc_RingMap_new_spot : FnScope N_RingMap_new_spot P_RingMap_new_spot (defScope s_RingMap_new_spot) := ⟨rfl, rfl, rfl, by decide +kernel, rfl, by decide +kernel, by decide +kernel⟩
theorem bn_RingMap_new_spot : BindsNo "new_spot" "RingMap.new_spot" s_RingMap_new_spot P_RingMap_new_spot := fun _ _ _ _ _ _ us hl => match us, hl with | [_], _ => rfl
def sp_new_spot (CM CG CT : Addr) : Sp := fun vs H Q _ => ∃ (F S : Hp) (ks : Kinds) (md : MapD) (tv : V) (ad : Ad), vs = [.ref (ad .map)] ∧ Sp2 F S H ∧ MM CM CG md tv ad F S ∧ Sync md ∧ (RTurns CT).rel ks tv F ∧ KOk ks ∧ md.laid ≤ 10000 ∧ md.spots.length ≤ 10000 ∧ md.circles.length ≤ 90000 ∧
  ∀ F' S' H' ad', (∀ r, live md r → ad' r = ad r) → Mu F S H F' S' H' → MM CM CG (md.newSpot ks) tv ad' F' S' → Q (.int (md.laid : Nat)) H'
theorem ok_new_spot (T : KlF K mg "Turns" CT ["pairs", "names", "periods", "ranks"]) (RM : KlF K mg "RingMap" CM mapNames) (RG : KlF K mg "Ring" CG ["number", "turn", "modulus", "seats"]) (k_Ring : Mak P w K mg base 1 "Ring" CG (sp_Ring_init CG))
    (m_period_of : Met P w K mg base 2 CT "period_of" (sp_Turns_period CT)) (m_seat : Met P w K mg base 1 CM "seat" (sp_seat CM CG)) (F : MtF K CM "new_spot" "RingMap.new_spot" s_RingMap_new_spot []) : Met P w K mg base 3 CM "new_spot" (sp_new_spot CM CG CT) := by
  refine F.met RM.cl sc_RingMap_new_spot bn_RingMap_new_spot (fun vs H Q E h => ?_) (fun f cdv A outer s H vs Q E hr h => ?_)
  · obtain ⟨_, _, _, _, _, _, rfl, _⟩ := h
    rfl
  · obtain ⟨F, S, ks, md, tv, ad, rfl, d, mm, sy, rt, ok, hla, hspl, hcil, q⟩ := h
    obtain ⟨_, e0, dx, rfl⟩ := mm.at_ .map trivial
    refine ⟨_, (pss_cons (ps_set (i := 1) sc_RingMap_new_spot.nd rfl (Or.inl rfl) (k_fld (pv 0) (K := K)))
    (pss_cons (ps_fldaug (pv 0) pe_int in_add)
    (pss_cons (ps_expr (pe_bm PySem.F.plainAttrs_list PySem.F.slot_list_append PySem.F.type_list_append mt_append (k_fld (pv 0) (K := K)) (pa_cons (pv 1) pa_nil)))
    (pss_cons (ps_dput (hu_of hr) (k_fld (pv 0) (K := K)) (pv 1) pe_dnewK rfl)
    (pss_cons (ps_for (passes_of rfl) rfl (k_it (k_fld (k_fld (pv 0) (K := K)) (K := K)) (K := K)) (pg_name (i := 2) sc_RingMap_new_spot.nd rfl (Or.inl rfl))
    (pss_cons (ps_set (i := 3) sc_RingMap_new_spot.nd rfl (Or.inl rfl) (pe_k k_Ring hr (by decide) (pa_cons (k_fld (pv 0) (K := K)) (pa_cons (pv 2) (pa_cons (pe_m m_period_of hr (by decide) (k_fld (pv 0) (K := K)) (pa_cons (pv 2) pa_nil) passL) pa_nil))) passL))
    (pss_cons (ps_fldaug (pv 0) pe_int in_add)
    (pss_cons (ps_expr (pe_bm PySem.F.plainAttrs_list PySem.F.slot_list_append PySem.F.type_list_append mt_append (k_fld (pv 0) (K := K)) (pa_cons (pv 3) pa_nil)))
    (pss_cons (ps_dput (hu_of hr) (pe_dget (hu_of hr) (k_fld (pv 0) (K := K)) (pv 1) (fun _ _ => rfl)) (pv 2) (pe_lst pa_nil) rfl)
    (pss_one (ps_expr (pe_m m_seat hr (by decide) (pv 0) (pa_cons (pv 1) (pa_cons (pv 3) (pa_cons pe_int pa_nil))) passL))))))))
    (pss_one (ps_ret (pv 1)))))))), ?_⟩
    refine stp [some (.ref (ad .map)), none, none, none] rfl fun N hN => ?_
    refine ⟨_, rfl, _, CM, dx, _, _, rfl, d.ss _ _ e0, RM.cl, RM.no _ (by decide), rfl, ?_⟩
    refine hN _ _ ?_
    clear hN
    rw [sy.l]
    refine stp [some (.ref (ad .map)), some (.int (md.laid : Nat)), none, none] rfl fun N hN => ?_
    -- self.laid += 1
    refine ⟨_, rfl, _, CM, dx, _, _, rfl, d.ss _ _ e0, RM.cl, RM.no _ (by decide), rfl, _, _, rfl, rfl, dx, _, d.ss _ _ e0, by show 7 < 1000; decide, ?_⟩
    rw [put_laid]
    have u1 := Mu.put d (o' := .ins CM dx (mapFs { md with lf := md.lf + 1, df := md.df } tv ad)) e0
    have mm1 := mm.attr (md.lf + 1) md.df dx
    generalize upd H (ad .map) (.ins CM dx (mapFs { md with lf := md.lf + 1, df := md.df } tv ad)) = H1 at u1
    generalize upd S (ad .map) (.ins CM dx (mapFs { md with lf := md.lf + 1, df := md.df } tv ad)) = S1 at u1 mm1
    refine hN _ _ ?_
    clear hN
    refine stp [some (.ref (ad .map)), some (.int (md.laid : Nat)), none, none] rfl fun N hN => ?_
    -- self.spots.append(spot)
    obtain ⟨_, e1, dx1, rfl⟩ := mm1.at_ .map trivial
    obtain ⟨_, e2, rfl⟩ := mm1.at_ .spots trivial
    refine ⟨_, rfl, _, CM, dx1, _, _, rfl, u1.d1.ss _ _ e1, RM.cl, RM.no _ (by decide), rfl, .inl ⟨rfl, _, SqL.of (u1.d1.ss _ _ e2)⟩, _, rfl, _, _, _, rfl, rfl, u1.d1.ss _ _ e2, szl (by rw [List.length_map]; show md.spots.length ≤ _; omega), ?_⟩
    have esp : (md.spots.map fun (s : Nat) => V.int (s : Nat)) ++ [V.int (md.laid : Nat)] = (md.spots ++ [md.laid]).map fun (s : Nat) => V.int (s : Nat) := by rw [List.map_append]; rfl
    have u2 := u1.trans (Mu.put u1.d1 (o' := .lst ((md.spots ++ [md.laid]).map fun (s : Nat) => V.int (s : Nat))) e2)
    have mm2 := mm1.spotsP (md.spots ++ [md.laid])
    rw [show ({ md with lf := md.lf + 1, df := md.df } : MapD).spots = md.spots from rfl, esp]
    generalize upd H1 (ad .spots) (.lst ((md.spots ++ [md.laid]).map fun (s : Nat) => V.int (s : Nat))) = H2 at u2
    generalize upd S1 (ad .spots) (.lst ((md.spots ++ [md.laid]).map fun (s : Nat) => V.int (s : Nat))) = S2 at u2 mm2
    refine hN _ _ ?_
    clear hN
    refine stp [some (.ref (ad .map)), some (.int (md.laid : Nat)), none, none] rfl fun N hN => ?_
    -- self.lying[spot] = {}
    obtain ⟨_, e3, dx2, rfl⟩ := mm2.at_ .map trivial
    obtain ⟨_, e4, rfl⟩ := mm2.at_ .lying trivial
    refine fun p hp => ?_
    have u3 := u2.trans (Mu.newS u2.d1 (o := .dK []) hp)
    have np3 := u2.d1.nS hp
    have e3' : upd S2 p (.dK []) (ad .map) = _ := (upd_ne (mm2.ne (r := .map) trivial np3)).trans e3
    have e4' : upd S2 p (.dK []) (ad .lying) = _ := (upd_ne (mm2.ne (r := .lying) trivial np3)).trans e4
    refine ⟨_, rfl, _, CM, dx2, _, _, rfl, u3.d1.ss _ _ e3', RM.cl, RM.no _ (by decide), rfl, _, rfl, _, _, rfl, DPut.k (k := Sum.inl ((md.laid : Nat) : Int)) (u3.d1.ss _ _ e4') (szl (by unfold lyK; rw [List.length_map, List.length_range]; show md.laid ≤ _; omega)), ?_⟩
    have hK : putK (lyK md.laid ad) (Sum.inl ((md.laid : Nat) : Int)) (.ref p) = lyK (md.laid + 1) (adU ad (.lyD md.laid) p) := by
      rw [putK_new _ (lyK_none (Nat.le_refl _)), lyK_succ, adU_same, lyK_ad fun s hs => adU_ne fun z => by have := Ro.lyD.inj z; omega]
    have u4 := u3.trans (Mu.put u3.d1 (o' := .dK (lyK (md.laid + 1) (adU ad (.lyD md.laid) p))) e4')
    have mm4 := mm2.openS np3
    rw [show ({ ({ md with lf := md.lf + 1, df := md.df } : MapD) with spots := md.spots ++ [md.laid] } : MapD).laid = md.laid from rfl] at mm4 ⊢
    rw [hK]
    generalize upd (upd H2 p (.dK [])) (ad .lying) (.dK (lyK (md.laid + 1) (adU ad (.lyD md.laid) p))) = H4 at u4
    generalize upd (upd S2 p (.dK [])) (ad .lying) (.dK (lyK (md.laid + 1) (adU ad (.lyD md.laid) p))) = S4 at u4 mm4
    have lv0 : ∀ r, live md r → live md.newSpot0 r := fun r hr => by
      cases r with
      | lyD s => exact Nat.lt_succ_of_lt hr
      | lyL s n =>
        refine ⟨Nat.lt_succ_of_lt hr.1, ?_⟩
        show n ∈ (if s = md.laid then [] else md.has s)
        rw [if_neg (Nat.ne_of_lt hr.1)]
        exact hr.2
      | _ => exact hr
    have ha4 : ∀ r, live md r → adU ad (.lyD md.laid) p r = ad r := fun r hr => adU_ne fun e => Nat.lt_irrefl _ (show live md (.lyD md.laid) from e ▸ hr)
    have em : ad .map = adU ad (.lyD md.laid) p .map := (ha4 .map trivial).symm
    replace mm4 : MM CM CG md.newSpot0 tv (adU ad (.lyD md.laid) p) F S4 := mm4
    generalize adU ad (.lyD md.laid) p = ad4 at mm4 ha4 em
    refine hN _ _ ?_
    clear hN
    obtain ⟨ta, tdx, tp, tn, td, tr, t⟩ := id rt
    obtain ⟨_, e5, dx3, rfl⟩ := mm4.at_ .map trivial
    rw [← em] at e5
    refine stp [some (.ref (ad .map)), some (.int (md.laid : Nat)), none, none] rfl fun N hN => ?_
    refine ⟨_, rfl, _, CM, dx3, _, _, rfl, u4.d1.ss _ _ e5, RM.cl, RM.no _ (by decide), rfl, ta, CT, tdx, _, _, t.ev, u4.d1.sf _ _ (u4.ff _ _ t.ob), T.cl, T.no _ (by decide), rfl, tn, rfl, ⟨_, SqT.of (u4.d1.sf _ _ (u4.ff _ _ t.nm))⟩, ?_⟩
    refine for_it (walk_tup (xs := ks.map fun p => V.str p.1)) (fun i σ H' => ∃ (F' S' : Hp) (mi : MapD) (ad' : Ad) (x2 x3 : Option V), mi = (ks.take i).foldl (fun m p => m.addTurn md.laid p.1 p.2) md.newSpot0 ∧ (∀ r, live md r → ad' r = ad r ∧ live mi r) ∧ Mu F S H F' S' H' ∧ MM CM CG mi tv ad' F' S' ∧
        mi.laid = md.laid + 1 ∧ mi.df = mi.drawn ∧ mi.has md.laid = (ks.take i).map (·.1) ∧ mi.circles.length = md.circles.length + (ks.take i).length ∧ σ = [some (.ref (ad .map)), some (.int (md.laid : Nat)), x2, x3])
      ⟨F, S4, _, ad4, none, none, rfl, fun r hr => ⟨ha4 r hr, lv0 r hr⟩, u4, mm4, rfl, sy.d, if_pos rfl, rfl, rfl⟩ (fun i σ H' _ ⟨F', S', _, _, _, _, _, _, u, _⟩ => SqT.of (u.d1.sf _ _ (u.ff _ _ t.nm))) ?_ ?_
    · rintro i y σ H' H'' hi ⟨F', S', mi, ad', x2, x3, hmi, hlv, u, mi_mm, hl1, hd1, hh1, hc1, rfl⟩ ⟨e1, hy⟩
      subst e1
      rw [List.getElem?_map] at hy
      obtain ⟨pr, hpr, rfl⟩ := Option.map_eq_some_iff.mp hy
      have hlook := look_of ok.nd hpr
      have hny := not_yet ok.nd hpr
      rw [← hh1] at hny
      have hsl : md.laid < mi.laid := by omega
      have em := (hlv .map trivial).1
      have hkl : (ks.take i).length ≤ 8 := by rw [List.length_take]; have := ok.le; omega
      refine stp [some (.ref (ad .map)), some (.int (md.laid : Nat)), some (.str pr.1), x3] rfl fun N1 hN1 => ?_
      obtain ⟨_, f0, gx0, rfl⟩ := mi_mm.at_ .map trivial
      rw [em] at f0
      -- ring = Ring(..)
      refine ⟨_, rfl, _, CM, gx0, _, _, rfl, u.d1.ss _ _ f0, RM.cl, RM.no _ (by decide), rfl, _, rfl, _, rfl, _, CM, gx0, _, _, rfl, u.d1.ss _ _ f0, RM.cl, RM.no _ (by decide), rfl, ?_⟩
      refine ⟨ta, tdx, _, t.ev, u.d1.sf _ _ (u.ff _ _ t.ob), rfl, _, rfl, tv, pr.1, ks, pr.2, rfl, (RTurns CT).mono (u.ff.trans u.d1.sf) rt, hlook, fun H5 s5 => ?_⟩
      have u5 := u.trans (Mu.tmp u.d1 s5)
      refine fun x gx hx hgx nex => ⟨F', H5, x, gx, mi.drawn, pr.1, pr.2, by rw [hd1]; rfl, ⟨u5.d1.sf, hx, hgx, nex, rfl⟩, fun l H6 hlx ow => ⟨rfl, ?_⟩⟩
      have u6 := u5.trans (Own2.mu ow u5.d1)
      have nx := u5.d1.nS hx
      have nl : S' l = none := u5.d1.nS ((ow.al 1 l _ rfl).1)
      have mm6 := mi_mm.newR (dx := gx) ⟨pr.1, pr.2, []⟩ rfl nx nl hlx
      have a1 : adU (adU ad' (.ring mi.drawn) x) (.seats mi.drawn) l (.ring mi.drawn) = x := by rw [adU_ne (by intro z; cases z), adU_same]
      have a2 : adU (adU ad' (.ring mi.drawn) x) (.seats mi.drawn) l (.seats mi.drawn) = l := adU_same
      have a3 : ∀ r, live mi r → adU (adU ad' (.ring mi.drawn) x) (.seats mi.drawn) l r = ad' r := fun r hr => by
        have e1 : r ≠ .seats mi.drawn := fun e => Nat.lt_irrefl _ (show live mi (.seats mi.drawn) from e ▸ hr)
        have e2 : r ≠ .ring mi.drawn := fun e => Nat.lt_irrefl _ (show live mi (.ring mi.drawn) from e ▸ hr)
        rw [adU_ne e1, adU_ne e2]
      have eF : ringFs mi.drawn ⟨pr.1, pr.2, []⟩ (adU (adU ad' (.ring mi.drawn) x) (.seats mi.drawn) l) = ([("number", V.int (mi.drawn : Nat)), ("turn", V.str pr.1), ("modulus", V.int pr.2), ("seats", V.ref l)] : List (Str × V)) := by
        unfold ringFs
        rw [a2]
      rw [eF] at mm6
      generalize upd (upd S' l (.lst [])) x (.ins CG gx [("number", .int (mi.drawn : Nat)), ("turn", .str pr.1), ("modulus", .int pr.2), ("seats", .ref l)]) = S6 at u6 mm6
      generalize adU (adU ad' (.ring mi.drawn) x) (.seats mi.drawn) l = ad6 at mm6 a1 a3
      have lv6 : ∀ r, live mi r → live (mi.newR ⟨pr.1, pr.2, []⟩) r := fun r hr => by
        cases r with
        | ring k => exact Nat.lt_succ_of_lt hr
        | seats k => exact Nat.lt_succ_of_lt hr
        | _ => exact hr
      have em6 : ad6 .map = ad .map := (a3 .map (hlv .map trivial).2).trans em
      refine hN1 _ _ ?_
      clear hN1
      refine stp [some (.ref (ad .map)), some (.int (md.laid : Nat)), some (.str pr.1), some (.ref x)] rfl fun N1 hN1 => ?_
      -- self.drawn += 1
      obtain ⟨_, g0, gx1, rfl⟩ := mm6.at_ .map trivial
      rw [em6] at g0
      refine ⟨_, rfl, _, CM, gx1, _, _, rfl, u6.d1.ss _ _ g0, RM.cl, RM.no _ (by decide), rfl, _, _, rfl, rfl, gx1, _, u6.d1.ss _ _ g0, by show 7 < 1000; decide, ?_⟩
      rw [put_drawn]
      have mm7 := mm6.attr (mi.newR ⟨pr.1, pr.2, []⟩).lf ((mi.newR ⟨pr.1, pr.2, []⟩).df + 1) gx1
      rw [em6] at mm7
      have u7 := u6.trans (Mu.put u6.d1 (o' := .ins CM gx1 (mapFs { (mi.newR ⟨pr.1, pr.2, []⟩) with lf := (mi.newR ⟨pr.1, pr.2, []⟩).lf, df := (mi.newR ⟨pr.1, pr.2, []⟩).df + 1 } tv ad6)) g0)
      generalize hm7 : ({ (mi.newR ⟨pr.1, pr.2, []⟩) with lf := (mi.newR ⟨pr.1, pr.2, []⟩).lf, df := (mi.newR ⟨pr.1, pr.2, []⟩).df + 1 } : MapD) = m7 at u7 mm7
      generalize upd H6 (ad .map) (.ins CM gx1 (mapFs m7 tv ad6)) = H7 at u7
      generalize upd S6 (ad .map) (.ins CM gx1 (mapFs m7 tv ad6)) = S7 at u7 mm7
      refine hN1 _ _ ?_
      clear hN1
      refine stp [some (.ref (ad .map)), some (.int (md.laid : Nat)), some (.str pr.1), some (.ref x)] rfl fun N1 hN1 => ?_
      -- self.circles.append(ring)
      obtain ⟨_, i0, gx2, rfl⟩ := mm7.at_ .map trivial
      obtain ⟨_, i1, rfl⟩ := mm7.at_ .circ trivial
      rw [em6] at i0
      have c7 : m7.circles = mi.circles := by rw [← hm7]; rfl
      have d7 : m7.drawn = mi.drawn + 1 := by rw [← hm7]; rfl
      refine ⟨_, rfl, _, CM, gx2, _, _, rfl, u7.d1.ss _ _ i0, RM.cl, RM.no _ (by decide), rfl, .inl ⟨rfl, _, SqL.of (u7.d1.ss _ _ i1)⟩, _, rfl, _, _, _, rfl, rfl, u7.d1.ss _ _ i1, szl (by rw [List.length_map, c7]; omega), ?_⟩
      have ec : (m7.circles.map fun k => V.ref (ad6 (.ring k))) ++ [V.ref x] = (m7.circles ++ [mi.drawn]).map fun k => V.ref (ad6 (.ring k)) := by rw [List.map_append, ← a1]; rfl
      rw [ec]
      have u8 := u7.trans (Mu.put u7.d1 (o' := .lst ((m7.circles ++ [mi.drawn]).map fun k => V.ref (ad6 (.ring k)))) i1)
      have mm8 := mm7.circP (m7.circles ++ [mi.drawn]) (fun k hk => by
        rcases List.mem_append.mp hk with z | z
        · exact mm7.wf.ci k z
        · rw [List.mem_singleton.mp z, d7]; exact Nat.lt_succ_self _)
      generalize hm8 : ({ m7 with circles := m7.circles ++ [mi.drawn] } : MapD) = m8 at mm8
      generalize upd H7 (ad6 .circ) (.lst ((m7.circles ++ [mi.drawn]).map fun k => V.ref (ad6 (.ring k)))) = H8 at u8
      generalize upd S7 (ad6 .circ) (.lst ((m7.circles ++ [mi.drawn]).map fun k => V.ref (ad6 (.ring k)))) = S8 at u8 mm8
      have h8 : m8.has = mi.has := by rw [← hm8, ← hm7]; rfl
      have l8 : m8.laid = mi.laid := by rw [← hm8, ← hm7]; rfl
      have d8 : m8.drawn = mi.drawn + 1 := by rw [← hm8]; exact d7
      have r8 : m8.ring mi.drawn = ⟨pr.1, pr.2, []⟩ := by rw [← hm8, ← hm7]; exact if_pos rfl
      refine hN1 _ _ ?_
      clear hN1
      refine stp [some (.ref (ad .map)), some (.int (md.laid : Nat)), some (.str pr.1), some (.ref x)] rfl fun N1 hN1 => ?_
      -- self.lying[spot][name] = []
      have hs8 : md.laid < m8.laid := by rw [l8]; exact hsl
      have hn8 : pr.1 ∉ m8.has md.laid := by rw [h8]; exact hny
      obtain ⟨_, j0, gx3, rfl⟩ := mm8.at_ .map trivial
      obtain ⟨_, j1, rfl⟩ := mm8.at_ .lying trivial
      obtain ⟨_, j2, rfl⟩ := mm8.at_ (.lyD md.laid) hs8
      rw [em6] at j0
      refine ⟨sz (n := 0) (by decide), fun q0 hq0 => ?_⟩
      have u9 := u8.trans (Mu.newS u8.d1 (o := .lst []) hq0)
      have nq := u8.d1.nS hq0
      have j0' : upd S8 q0 (.lst []) (ad .map) = _ := (upd_ne (by rw [← em6]; exact mm8.ne (r := .map) trivial nq)).trans j0
      have j1' : upd S8 q0 (.lst []) (ad6 .lying) = _ := (upd_ne (mm8.ne (r := .lying) trivial nq)).trans j1
      have j2' : upd S8 q0 (.lst []) (ad6 (.lyD md.laid)) = _ := (upd_ne (mm8.ne (r := .lyD md.laid) hs8 nq)).trans j2
      have hz : (lyDK md.laid (m8.has md.laid) ad6).length < sizeLine := szl (by unfold lyDK; rw [List.length_map, h8, hh1, List.length_map]; omega)
      refine ⟨_, rfl, _, CM, gx3, _, _, rfl, u9.d1.ss _ _ j0', RM.cl, RM.no _ (by decide), rfl, _, rfl, _, _, rfl, dgetV (k := Sum.inl ((md.laid : Nat) : Int)) (u9.d1.ss _ _ j1') (lyK_at hs8), _, rfl, _, _, rfl, DPut.k (k := Sum.inr pr.1) (u9.d1.ss _ _ j2') hz, ?_⟩
      have hK2 : putK (lyDK md.laid (m8.has md.laid) ad6) (Sum.inr pr.1) (.ref q0) = lyDK md.laid (m8.has md.laid ++ [pr.1]) (adU ad6 (.lyL md.laid pr.1) q0) := by
        have e9 : lyDK md.laid (m8.has md.laid ++ [pr.1]) (adU ad6 (.lyL md.laid pr.1) q0) = lyDK md.laid (m8.has md.laid) (adU ad6 (.lyL md.laid pr.1) q0) ++ [(Sum.inr pr.1, .ref (adU ad6 (.lyL md.laid pr.1) q0 (.lyL md.laid pr.1)))] := by
          unfold lyDK
          rw [List.map_append]
          rfl
        rw [e9, adU_same, lyDK_ad (ad := ad6) fun n hn => adU_ne fun z => hn8 (by rw [← (Ro.lyL.inj z).2]; exact hn), putK_new _ (lyDK_none hn8)]
      rw [hK2]
      have u10 := u9.trans (Mu.put u9.d1 (o' := .dK (lyDK md.laid (m8.has md.laid ++ [pr.1]) (adU ad6 (.lyL md.laid pr.1) q0))) j2')
      have mm10 := mm8.newL hs8 hn8 nq
      have a10 : ∀ r, live m8 r → adU ad6 (.lyL md.laid pr.1) q0 r = ad6 r := fun r hr => adU_ne fun e => hn8 (show live m8 (.lyL md.laid pr.1) from e ▸ hr).2
      have em10 := (a10 .map trivial).trans em6
      have er10 := (a10 (.ring mi.drawn) (by show mi.drawn < m8.drawn; omega)).trans a1
      generalize upd (upd H8 q0 (.lst [])) (ad6 (.lyD md.laid)) (.dK (lyDK md.laid (m8.has md.laid ++ [pr.1]) (adU ad6 (.lyL md.laid pr.1) q0))) = H10 at u10
      generalize upd (upd S8 q0 (.lst [])) (ad6 (.lyD md.laid)) (.dK (lyDK md.laid (m8.has md.laid ++ [pr.1]) (adU ad6 (.lyL md.laid pr.1) q0))) = S10 at u10 mm10
      generalize adU ad6 (.lyL md.laid pr.1) q0 = ad10 at mm10 a10 em10 er10
      refine hN1 _ _ ?_
      clear hN1
      -- self.seat(spot, ring, 0)
      refine stq [some (.ref (ad .map)), some (.int (md.laid : Nat)), some (.str pr.1), some (.ref x)] rfl ?_
      obtain ⟨_, k0, gx4, rfl⟩ := mm10.at_ .map trivial
      rw [em10] at k0
      have e10 : m8.newL md.laid pr.1 = ((fun (m : MapD) => m) (m8.newL md.laid pr.1)) := rfl
      have hadd : (m8.newL md.laid pr.1).seat md.laid mi.drawn 0 = mi.addTurn md.laid pr.1 pr.2 := by rw [← hm8, ← hm7]; rfl
      refine ⟨_, rfl, _, gx4, _, rfl, u10.d1.ss _ _ k0, rfl, _, rfl, _, rfl, F', S10, m8.newL md.laid pr.1, tv, ad10, md.laid, mi.drawn, 0, by rw [em10, er10]; rfl, u10.d1, ?_, hs8, by show mi.drawn < m8.drawn; omega, ?_, ?_, ?_, fun F11 S11 H11 u11 mm11 => ?_⟩
      · exact mm10
      · show (m8.ring mi.drawn).turn ∈ (if md.laid = md.laid then m8.has md.laid ++ [pr.1] else _)
        rw [r8, if_pos rfl]
        exact List.mem_append.mpr (.inr (List.mem_singleton.mpr rfl))
      · show (m8.ring mi.drawn).seats.length ≤ 10000
        rw [r8]
        exact Nat.zero_le _
      · show (if md.laid = md.laid ∧ (m8.ring mi.drawn).turn = pr.1 then [] else m8.lying md.laid (m8.ring mi.drawn).turn).length ≤ 10000
        rw [r8, if_pos ⟨rfl, rfl⟩]
        exact Nat.zero_le _
      · rw [hadd] at mm11
        have lv10 : ∀ r, live mi r → live m8 r := fun r hr => by
          rw [← hm8, ← hm7]
          cases r with
          | ring k => exact Nat.lt_succ_of_lt hr
          | seats k => exact Nat.lt_succ_of_lt hr
          | _ => exact hr
        have lv11 : ∀ r, live mi r → live (mi.addTurn md.laid pr.1 pr.2) r := fun r hr => by
          cases r with
          | ring k => exact Nat.lt_succ_of_lt hr
          | seats k => exact Nat.lt_succ_of_lt hr
          | lyL s n =>
            refine ⟨hr.1, ?_⟩
            show n ∈ (if s = md.laid then mi.has md.laid ++ [pr.1] else mi.has s)
            by_cases y : s = md.laid
            · rw [if_pos y]
              exact List.mem_append.mpr (.inl (y ▸ hr.2))
            · rw [if_neg y]; exact hr.2
          | _ => exact hr
        refine ⟨F11, S11, mi.addTurn md.laid pr.1 pr.2, ad10, some (.str pr.1), some (.ref x), ?_, fun r hr => ?_, u10.trans u11, mm11, hl1, ?_, ?_, ?_, rfl⟩
        · rw [take_snoc hpr, List.foldl_append, ← hmi]
          rfl
        · obtain ⟨z1, z2⟩ := hlv r hr
          exact ⟨((a10 r (lv10 r z2)).trans (a3 r z2)).trans z1, lv11 r z2⟩
        · show mi.df + 1 = mi.drawn + 1
          rw [hd1]
        · show (if md.laid = md.laid then mi.has md.laid ++ [pr.1] else _) = _
          rw [if_pos rfl, hh1, take_snoc hpr, List.map_append]
          rfl
        · show (mi.circles ++ [mi.drawn]).length = _
          rw [List.length_append, hc1, take_snoc hpr, List.length_append]
          simp only [List.length_cons, List.length_nil]
          omega
    · rintro σ H' ⟨F', S', mi, ad', x2, x3, hmi, hlv, u, mi_mm, hl1, hd1, hh1, hc1, rfl⟩
      rw [List.length_map, take_all] at hmi
      refine hN _ _ ?_
      refine ⟨_, rfl, q F' S' H' ad' (fun r hr => (hlv r hr).1) u ?_⟩
      rw [hmi] at mi_mm
      exact mi_mm
end
end TR

/-! part M9 -/
/-! A new map. -/
namespace TR
open PySem PySem.Spec PyProof.Rows L2 G
theorem List.reverseRecOn' {α : Type} {motive : List α → Prop} (l : List α) (nil : motive []) (snoc : ∀ (r : List α) (n : α), motive r → motive (r ++ [n])) : motive l := by
  have : ∀ k (l : List α), l.length = k → motive l := by
    intro k
    induction k with
    | zero => intro l h; rw [List.length_eq_zero_iff.mp h]; exact nil
    | succ k ih =>
      intro l h
      have h0 : l ≠ [] := fun z => by rw [z] at h; cases h
      rw [← List.dropLast_concat_getLast h0]
      exact snoc _ _ (ih _ (by simp [h]))
  exact this _ l rfl
def emptyM : MapD := ⟨0, 0, 0, 0, [], [], fun _ => ⟨"", 0, []⟩, fun _ => [], fun _ _ => [], []⟩
def MapD.addPlace (ks : Kinds) (md : MapD) (n : Str) : MapD := { md.newSpot ks with spotOf := md.spotOf ++ [(n, md.laid)] }
def mapOf (ks : Kinds) (pl : List Str) : MapD := pl.foldl (MapD.addPlace ks) emptyM
theorem newSpot_fold (s : Nat) : ∀ (ks : Kinds) (md : MapD), let m := ks.foldl (fun m p => m.addTurn s p.1 p.2) md
    m.laid = md.laid ∧ m.lf = md.lf ∧ m.spots = md.spots ∧ m.spotOf = md.spotOf ∧ (md.df = md.drawn → m.df = m.drawn) ∧ m.circles.length = md.circles.length + ks.length
  | [], md => ⟨rfl, rfl, rfl, rfl, id, rfl⟩
  | p :: r, md => by
    obtain ⟨h1, h2, h3, h4, h5, h6⟩ := newSpot_fold s r (md.addTurn s p.1 p.2)
    refine ⟨h1, h2, h3, h4, fun e => h5 (by show md.df + 1 = md.drawn + 1; rw [e]), ?_⟩
    show (List.foldl _ (md.addTurn s p.1 p.2) r).circles.length = _
    rw [h6]
    show (md.circles ++ [md.drawn]).length + r.length = _
    simp
    omega
theorem newSpot_facts (md : MapD) (ks : Kinds) : (md.newSpot ks).laid = md.laid + 1 ∧ (md.newSpot ks).spots = md.spots ++ [md.laid] ∧ (md.newSpot ks).spotOf = md.spotOf ∧ (Sync md → Sync (md.newSpot ks)) ∧ (md.newSpot ks).circles.length = md.circles.length + ks.length := by
  obtain ⟨h1, h2, h3, h4, h5, h6⟩ := newSpot_fold md.laid ks md.newSpot0
  exact ⟨h1, h3, h4, fun sy => ⟨(h2.trans (show md.newSpot0.lf = md.newSpot0.laid from congrArg (· + 1) sy.l)).trans h1.symm, h5 sy.d⟩, h6⟩
theorem not_in_take {pl : List Str} (nd : pl.Nodup) {i : Nat} {n : Str} (h : pl[i]? = some n) : n ∉ pl.take i := by
  intro hm
  obtain ⟨j, hj⟩ := List.getElem?_of_mem hm
  rw [List.getElem?_take] at hj
  split at hj
  · have := (List.getElem?_inj (List.getElem?_eq_some_iff.mp hj).1 nd).mp (hj.trans h.symm)
    omega
  · cases hj
theorem mapOf_snoc (ks : Kinds) (pl : List Str) (n : Str) : mapOf ks (pl ++ [n]) = (mapOf ks pl).addPlace ks n := by
  unfold mapOf
  rw [List.foldl_append]
  rfl
theorem mapOf_facts (ks : Kinds) (pl : List Str) : (mapOf ks pl).laid = pl.length ∧ (mapOf ks pl).spots.length = pl.length ∧ ((mapOf ks pl).spotOf.map (·.1) = pl ∧ (mapOf ks pl).circles.length = pl.length * ks.length) ∧ Sync (mapOf ks pl) := by
  induction pl using List.reverseRecOn' with
  | nil => exact ⟨rfl, rfl, ⟨rfl, by simp [mapOf, emptyM]⟩, ⟨rfl, rfl⟩⟩
  | snoc r n ih =>
    obtain ⟨h1, h2, ⟨h3, h4⟩, h5⟩ := ih
    obtain ⟨g1, g2, g3, g4, g5⟩ := newSpot_facts (mapOf ks r) ks
    rw [mapOf_snoc]
    have g4' := g4 h5
    refine ⟨?_, ?_, ⟨?_, ?_⟩, ⟨g4'.l, g4'.d⟩⟩
    · show ((mapOf ks r).newSpot ks).laid = _
      rw [g1, h1]; simp
    · show ((mapOf ks r).newSpot ks).spots.length = _
      rw [g2]; simp [h2]
    · show ((mapOf ks r).spotOf ++ [(n, (mapOf ks r).laid)]).map (·.1) = _
      rw [List.map_append, h3]; rfl
    · show ((mapOf ks r).newSpot ks).circles.length = _
      rw [g5, h4]; simp [Nat.add_mul]
theorem spK_none {l : List (Str × Nat)} {n : Str} (h : n ∉ l.map (·.1)) : valV (spK l) (Sum.inr n) = none := by
  unfold spK
  induction l with
  | nil => rfl
  | cons a r ih =>
    rw [List.map_cons] at h
    rw [List.map_cons, valV_neg (fun z => h (by rw [← Sum.inr.inj z]; exact List.mem_cons_self))]
    exact ih fun z => h (List.mem_cons_of_mem _ z)
theorem MM.empty {CM CG x dx c1 s1 l1 o1 : Addr} {tv : V} {F : Hp} (nd : [o1, l1, s1, c1, x].Nodup) (fs : List (Str × V)) (hf : fs = ([("turns", tv), ("circles", V.ref c1), ("spots", V.ref s1), ("lying", V.ref l1), ("laid", V.int 0), ("drawn", V.int 0), ("spot_of", V.ref o1)] : List (Str × V)))
    {S : Hp} (h0 : S x = some (.ins CM dx fs)) (h1 : S c1 = some (.lst [])) (h2 : S s1 = some (.lst [])) (h3 : S l1 = some (.dK [])) (h4 : S o1 = some (.dK [])) :
    MM CM CG emptyM tv (fun r => match r with | .map => x | .circ => c1 | .spots => s1 | .lying => l1 | .spotOf => o1 | _ => 0) F S := by
  subst hf
  simp only [List.nodup_cons, List.mem_cons, List.not_mem_nil, not_or] at nd
  refine ⟨fun r hr => ?_, fun r r' a b e => ?_, ⟨fun k hk => (by cases hk), fun s n hs => absurd hs (Nat.not_lt_zero _), fun k hk => absurd hk (Nat.not_lt_zero _)⟩⟩
  · cases r with
    | map => exact ⟨_, h0, dx, rfl⟩
    | circ => exact ⟨_, h1, rfl⟩
    | spots => exact ⟨_, h2, rfl⟩
    | lying => exact ⟨_, h3, rfl⟩
    | spotOf => exact ⟨_, h4, rfl⟩
    | lyD s => exact absurd hr (Nat.not_lt_zero _)
    | lyL s n => exact absurd hr.1 (Nat.not_lt_zero _)
    | ring k => exact absurd hr (Nat.not_lt_zero _)
    | seats k => exact absurd hr (Nat.not_lt_zero _)
  · have nl : ∀ s, ¬ s < 0 := Nat.not_lt_zero
    cases r <;> cases r' <;> first | rfl | exact absurd a (Nat.not_lt_zero _) | exact absurd b (Nat.not_lt_zero _) | exact absurd a.1 (Nat.not_lt_zero _) | exact absurd b.1 (Nat.not_lt_zero _) | (dsimp only at e; simp_all)
section
variable {P : Program} {w : World} {K : PySem.W.Frag} {mg : Str → Option Value} {base : Heap} {CT CG CM CR CB : Addr}
abbrev s_RingMap_init : Stmt := inClass (top 14) 0
abbrev N_RingMap_init : List Str := ["self", "turns", "places", "name"]
abbrev P_RingMap_init : List Str := ["self", "turns", "places"]
theorem sc_RingMap_init : FnScope N_RingMap_init P_RingMap_init (defScope s_RingMap_init) := ⟨rfl, rfl, rfl, by decide +kernel, rfl, by decide +kernel, by decide +kernel⟩
theorem bn_RingMap_init (T : Addr) (kV doc pm : Value) (an : Option Addr) (cdv ct : Value) (us its : List Value) (hu : us.length = P_RingMap_init.length) (hi : its.length = 1) :
    ∃ k, bindArgs (PySem.W.fnOf "__init__" "RingMap.__init__" (defArgs s_RingMap_init) (defBody s_RingMap_init) (defScope s_RingMap_init) (.ref T) kV doc pm an cdv ct) ⟨us, []⟩ = seqItems? (.ref T) >>= k ∧ k (some its.toArray) = pure (P_RingMap_init.zip (us ++ its.drop 1)) :=
  match us, hu, its, hi with
  | [_, _, _], _, [_], _ => ⟨_, rfl, rfl⟩
def sp_RingMap_init (CM CG CT : Addr) : Sp := fun vs H Q _ => ∃ (F H0 : Hp) (x dx ts : Addr) (tv : V) (ks : Kinds) (pl : List Str), vs = [.ref x, tv, .ref ts] ∧ New CM F H0 H x dx ∧ (RTurns CT).rel ks tv F ∧ KOk ks ∧ F ts = some (.tup (pl.map V.str)) ∧ pl.Nodup ∧ pl.length ≤ 1000 ∧
  ∀ F' H' ad, Pu F H0 F' H' → RMapAt CM CG (mapOf ks pl) (.ref x) tv ad F' → Q .non H'
theorem ok_RingMap_init (RM : KlF K mg "RingMap" CM mapNames) (m_new_spot : Met P w K mg base 3 CM "new_spot" (sp_new_spot CM CG CT)) {dv : V} (F : MkF K mg "RingMap" CM "RingMap.__init__" s_RingMap_init [dv]) : Mak P w K mg base 4 "RingMap" CM (sp_RingMap_init CM CG CT) := by
  refine F.makD sc_RingMap_init (by simp) bn_RingMap_init (fun vs H Q E h => ?_) (fun f cdv A outer s H vs Q E hr h => ?_)
  · obtain ⟨_, _, _, _, _, _, _, _, rfl, _⟩ := h
    rfl
  · obtain ⟨F, H0, x, dx, ts, tv, ks, pl, rfl, nw, rt, ok, hts, hnd, hpl, q⟩ := h
    have w0 := nw.own
    refine ⟨_, (pss_cons (ps_fld (pv 0) (pv 1) rfl)
    (pss_cons (ps_fld (pv 0) (pe_lst pa_nil) rfl)
    (pss_cons (ps_fld (pv 0) (pe_lst pa_nil) rfl)
    (pss_cons (ps_fld (pv 0) pe_dnewK rfl)
    (pss_cons (ps_fld (pv 0) pe_int rfl)
    (pss_cons (ps_fld (pv 0) pe_int rfl)
    (pss_cons (ps_fld (pv 0) pe_dnewK rfl)
    (pss_one (ps_for (passes_of rfl) rfl (k_it (pv 2) (K := K)) (pg_name (i := 3) sc_RingMap_init.nd rfl (Or.inl rfl))
    (pss_one (ps_dput (hu_of hr) (k_fld (pv 0) (K := K)) (pv 3) (pe_m0 m_new_spot hr (by decide) (pv 0) passL) rfl))))))))))), ?_⟩
    refine ⟨_, rfl, _, rfl, st_fld w0 RM.cl (RM.no _ (by decide)) 0 [] rfl rfl (by decide +kernel) (by decide) fun w1 => ?_⟩
    refine ⟨sz (n := 0) (by decide), fun c1 hc1 => ?_⟩
    have w2 := w1.new (o := .lst []) hc1
    refine ⟨_, rfl, st_fld w2 RM.cl (RM.no _ (by decide)) 1 ["turns"] rfl rfl (by decide +kernel) (by decide) fun w3 => ?_⟩
    refine ⟨sz (n := 0) (by decide), fun s1 hs1 => ?_⟩
    have w4 := w3.new (o := .lst []) hs1
    refine ⟨_, rfl, st_fld w4 RM.cl (RM.no _ (by decide)) 2 ["turns", "circles"] rfl rfl (by decide +kernel) (by decide) fun w5 => ?_⟩
    refine fun l1 hl1 => ?_
    have w6 := w5.new (o := .dK []) hl1
    refine ⟨_, rfl, st_fld w6 RM.cl (RM.no _ (by decide)) 3 ["turns", "circles", "spots"] rfl rfl (by decide +kernel) (by decide) fun w7 => ?_⟩
    refine ⟨_, rfl, st_fld w7 RM.cl (RM.no _ (by decide)) 3 ["turns", "circles", "spots", "lying"] rfl rfl (by decide +kernel) (by decide) fun w8 => ?_⟩
    refine ⟨_, rfl, st_fld w8 RM.cl (RM.no _ (by decide)) 3 ["turns", "circles", "spots", "lying", "laid"] rfl rfl (by decide +kernel) (by decide) fun w9 => ?_⟩
    refine fun o1 ho1 => ?_
    have w10 := w9.new (o := .dK []) ho1
    refine ⟨_, rfl, st_fld w10 RM.cl (RM.no _ (by decide)) 4 ["turns", "circles", "spots", "lying", "laid", "drawn"] rfl rfl (by decide +kernel) (by decide) fun w11 => ?_⟩
    have u0 := w11.toMu nw.sub
    have nd : [o1, l1, s1, c1, x].Nodup := w11.nd
    have mm0 := MM.empty (CM := CM) (CG := CG) (dx := dx) (tv := tv) (F := F) nd _ rfl (lk_at w11.nd (i := 4) rfl) (lk_at w11.nd (i := 3) rfl) (lk_at w11.nd (i := 2) rfl) (lk_at w11.nd (i := 1) rfl) (lk_at w11.nd (i := 0) rfl)
    try dsimp only
    refine stq [some (.ref x), some tv, some (.ref ts), none] rfl ?_
    refine ⟨_, rfl, ts, rfl, ⟨_, SqT.of (u0.d1.sf _ _ hts)⟩, ?_⟩
    refine for_it (walk_tup (xs := pl.map V.str)) (fun i σ H' => ∃ (F' S' : Hp) (ad' : Ad) (x3 : Option V), ad' .map = x ∧ Mu F emp H0 F' S' H' ∧ MM CM CG (mapOf ks (pl.take i)) tv ad' F' S' ∧ σ = [some (.ref x), some tv, some (.ref ts), x3]) ⟨F, _, _, none, rfl, u0, mm0, rfl⟩ (fun i σ H' _ ⟨F', S', _, _, _, u, _⟩ => SqT.of (u.d1.sf _ _ (u.ff _ _ hts))) ?_ ?_
    · rintro i y σ H' H'' hi ⟨F', S', ad', x3, em, u, mm, rfl⟩ ⟨e1, hy⟩
      subst e1
      rw [List.getElem?_map] at hy
      obtain ⟨n, hn, rfl⟩ := Option.map_eq_some_iff.mp hy
      obtain ⟨f1, f2, f3, f4⟩ := mapOf_facts ks (pl.take i)
      have hil : (pl.take i).length ≤ 1000 := by rw [List.length_take]; omega
      obtain ⟨g1, g2, g3, g4, g5⟩ := newSpot_facts (mapOf ks (pl.take i)) ks
      obtain ⟨_, e0, gx0, rfl⟩ := mm.at_ .map trivial
      have hnk := not_in_take hnd hn
      have hks := ok.le
      refine ⟨_, rfl, x, gx0, _, rfl, by rw [← em]; exact u.d1.ss _ _ e0, rfl, F', S', ks, mapOf ks (pl.take i), tv, ad', by rw [em]; rfl, u.d1, mm, f4, (RTurns CT).mono u.ff rt, ok, by rw [f1]; omega, by rw [f2]; omega, by
        have : (pl.take i).length * ks.length ≤ 1000 * 8 := Nat.mul_le_mul hil hks
        rw [f3.2]
        omega, fun F2 S2 H2 ad2 ha2 u2 mm2 => ?_⟩
      have u3 := u.trans u2
      obtain ⟨_, e2, gx2, rfl⟩ := mm2.at_ .map trivial
      obtain ⟨_, e3, rfl⟩ := mm2.at_ .spotOf trivial
      have em2 : ad2 .map = x := (ha2 .map trivial).trans em
      rw [em2] at e2
      have hz : (spK ((mapOf ks (pl.take i)).newSpot ks).spotOf).length < sizeLine := szl (by unfold spK; rw [List.length_map, g3, ← List.length_map (f := (·.1)), f3.1]; omega)
      have hnk2 : n ∉ ((mapOf ks (pl.take i)).newSpot ks).spotOf.map (·.1) := by rw [g3, f3.1]; exact hnk
      refine ⟨_, rfl, x, CM, gx2, _, _, rfl, u3.d1.ss _ _ e2, RM.cl, RM.no _ (by decide), rfl, _, rfl, _, _, rfl, DPut.k (k := Sum.inr n) (u3.d1.ss _ _ e3) hz, ?_⟩
      have hK : putK (spK ((mapOf ks (pl.take i)).newSpot ks).spotOf) (Sum.inr n) (.int ((mapOf ks (pl.take i)).laid : Nat)) = spK ((mapOf ks (pl.take i)).spotOf ++ [(n, (mapOf ks (pl.take i)).laid)]) := by
        rw [putK_new _ (spK_none hnk2), g3]
        unfold spK
        rw [List.map_append]
        rfl
      rw [hK]
      have u4 := u3.trans (Mu.put u3.d1 (o' := .dK (spK ((mapOf ks (pl.take i)).spotOf ++ [(n, (mapOf ks (pl.take i)).laid)]))) e3)
      have mm4 := mm2.spotOfP ((mapOf ks (pl.take i)).spotOf ++ [(n, (mapOf ks (pl.take i)).laid)])
      refine ⟨F2, _, ad2, some (.str n), em2, u4, ?_, rfl⟩
      rw [show mapOf ks (pl.take (i + 1)) = (mapOf ks (pl.take i)).addPlace ks n by unfold mapOf; rw [take_snoc hn, List.foldl_append]; rfl]
      exact mm4
    · rintro σ H' ⟨F', S', ad', x3, em, u, mm, rfl⟩
      rw [List.length_map, take_all] at mm
      refine q (un F' S') H' ad' u.pu ?_
      have := mm.still u.d1
      rw [em] at this
      exact this
end
end TR

/-! part EqOwn -/
/-! x == y where the class of both says __eq__. -/
namespace G
open PySem PySem.Spec PyProof.Rows L2
section
variable {X : Cx} {E : XK} {C : Addr} {j k : Nat} {sp : Sp}
def rEqO (C : Addr) (sp : Sp) (E : XK) : R2 := fun x y H Q => ∃ a dx fs b dy gs, x = .ref a ∧ y = .ref b ∧ H a = some (.ins C dx fs) ∧ H b = some (.ins C dy gs) ∧ sp [x, y] H (fun v H' => ∃ c, v = .bl c ∧ Q (.bl c) H') E
theorem op_eqO (c : Met X.prog X.w X.K X.mg X.base k C "__eq__" sp) (hr : Room j X.A) (hk : k ≤ j) (hx : Passes (L2.CX X.prog X.w) X E) : OpR X (compareOp .Eq) (rEqO C sp E) := by
  obtain ⟨f, fd, ps, F, hm, b⟩ := c.ex
  intro pins s σ H x y u v Q I rx ry h
  obtain ⟨a, dx, fs, a', dy, gs, rfl, rfl, ha, hb, q⟩ := h
  cases rx
  cases ry
  obtain ⟨mA, J, _⟩ := ins_get I.hok ha
  obtain ⟨od, J, _⟩ := J.look
  obtain ⟨mB, J', _⟩ := ins_get I.hok hb
  obtain ⟨od', J', _⟩ := J'.look
  obtain ⟨m, hF⟩ := I.fr
  show wpAny _ _ (richCompare .Eq _ _) _ _ _
  refine PySem.W.cmp_K (op := .Eq) (tb := .ref C) hr.units0 hF I.ok.mod.kin J J'.type (by simp [PySem.W.notFirst]) hm.at_ hm.fn ?_
  refine thn (run_fn (us := [.ref a, .ref a']) (vs := [.ref a, .ref a']) F (hr.mono hk) b .nil hx I (.cons rfl (.cons rfl .nil)) q) fun r s' hq => ?_
  obtain ⟨z, H', I', rz, bb, rfl, q'⟩ := hq
  cases rz
  exact ⟨.bl bb, H', I', rfl, q'⟩
end
end G

/-! part M10 -/
/-! Books. -/
namespace TR
open PySem PySem.Spec PyProof.Rows L2 G
section
variable {P : Program} {w : World} {K : PySem.W.Frag} {mg : Str → Option Value} {base : Heap} {CT CG CM CR CB : Addr}
abbrev s_is_claim : Stmt := top 63
abbrev N_is_claim : List Str := ["value", "turns", "places", "place", "row", "other"]
abbrev P_is_claim : List Str := ["value", "turns", "places"]
theorem sc_is_claim : FnScope N_is_claim P_is_claim (defScope s_is_claim) := ⟨rfl, rfl, rfl, by decide +kernel, rfl, by decide +kernel, by decide +kernel⟩
theorem bn_is_claim : BindsNo "is_claim" "is_claim" s_is_claim P_is_claim := fun _ _ _ _ _ _ us hl => match us, hl with | [_, _, _], _ => rfl
/-- a claim over the turns: a place, a row, a place -/
structure ClD where
  one : Str
  row : RowD
  other : Str
def RCla (CT CR : Addr) : Rp ClD := ⟨fun d v F => ∃ a rv, v = .ref a ∧ F a = some (.tup [.str d.one, rv, .str d.other]) ∧ (RRow CT CR).rel d.row rv F, fun s ⟨a, rv, e, h, r⟩ => ⟨a, rv, e, s _ _ h, (RRow CT CR).mono s r⟩⟩
def sp_is_claim (CT CR : Addr) : Sp := fun vs H Q _ => ∃ (F : Hp) (v tv : V) (ts : Addr) (pl : List Str) (d : ClD), vs = [v, tv, .ref ts] ∧ Same F H ∧ (RCla CT CR).rel d v F ∧ (RTurns CT).rel d.row.ks tv F ∧ (∀ p ∈ d.row.ks, nameOk p.1 = true) ∧ F ts = some (.tup (pl.map V.str)) ∧
  ∀ H', Same H H' → Q (.bl (decide (d.one ∈ pl) && decide (d.other ∈ pl))) H'
theorem ok_is_claim (B : Bt mg) (IR : InsF K CR) (R : KlF K mg "Row" CR ["turns", "steps", "key"]) (m_Turns_eq : Met P w K mg base 1 CT "__eq__" (sp_Turns_eq CT)) (F : FnF K mg "is_claim" s_is_claim []) : Cal P w K mg base 2 "is_claim" (sp_is_claim CT CR) := by
  have g_Row := R.mg
  refine F.cal sc_is_claim bn_is_claim (fun vs H Q E h => ?_) (fun f cdv A outer s H vs Q E hr h => ?_)
  · obtain ⟨_, _, _, _, _, _, rfl, _⟩ := h
    rfl
  · obtain ⟨F, v, tv, ts, pl, d, rfl, sF, ⟨a, rv, rfl, ha, rr⟩, rt, nmo, hts, k⟩ := h
    obtain ⟨ra, rdx, rts, rtk, rtq, rtp, rtv, hra⟩ := id rr
    refine ⟨_, (pss_cons (ps_if (PW.pt (pw_or (pt_not (pt_val (pe_callB (k_isi (K := K)) (by rfl) B.isinstance (by decide +kernel) (pa_cons (pv 0) (pa_cons (pe_ty (n := "tuple") B.tuple) pa_nil))))) (pw_or1 (pt_cmpR (op_neU hr (K := K)) (pe_callB (call_lenU (K := K)) (by rfl) B.len (by decide +kernel) (pa_cons (pv 0) pa_nil)) pe_int (nomark _))))) (pss_one (ps_ret pe_bl)) pss_nil)
    (pss_cons (ps_asg (pv 0) (k_tup (n := 3) rfl (pgs_cons (pg_name (i := 3) sc_is_claim.nd rfl (Or.inl rfl)) (pgs_cons (pg_name (i := 4) sc_is_claim.nd rfl (Or.inl rfl)) (pgs_cons (pg_name (i := 5) sc_is_claim.nd rfl (Or.inl rfl)) pgs_nil))) (K := K)))
    (pss_cons (ps_if (PW.pt (pw_or (pt_not (pt_val (pe_callB (k_isi (K := K)) (by rfl) B.isinstance (by decide +kernel) (pa_cons (pv 3) (pa_cons (pe_ty (n := "str") B.str) pa_nil))))) (pw_or (pt_not (pt_val (pe_callB (k_isi (K := K)) (by rfl) B.isinstance (by decide +kernel) (pa_cons (pv 5) (pa_cons (pe_ty (n := "str") B.str) pa_nil))))) (pw_or1 (pt_not (pt_val (pe_callB (k_isi (K := K)) (by rfl) B.isinstance (by decide +kernel) (pa_cons (pv 4) (pa_cons (pe_gr g_Row) pa_nil))))))))) (pss_one (ps_ret pe_bl)) pss_nil)
    (pss_one (ps_ret (pe_and (pe_cmpR (op_inU (K := K)) (pv 3) (pv 2) (by rfl)) (pe_and (pe_cmpR (op_inU (K := K)) (pv 5) (pv 2) (by rfl)) (pe_one (pe_cmpR (op_eqO m_Turns_eq hr (by decide) passL) (k_fld (pv 4) (K := K)) (pv 1) (nomark _)))))))))), ?_⟩
    refine stp [some (.ref a), some tv, some (.ref ts), none, none, none] rfl fun N hN => ?_
    refine ⟨_, rfl, _, _, _, _, _, rfl, ClsV.ty _, TyX.base (TyOf.tup (sF _ _ ha)), kit_ty (r := true) (by decide +kernel), ?_⟩
    refine ⟨_, rfl, ?_⟩
    refine iteF ⟨_, rfl, .inl ⟨a, _, rfl, .inr (SqT.of (sF _ _ ha)), .inl ⟨rfl, _, rfl, ?_⟩⟩⟩
    refine iteF (hN _ _ ?_)
    clear hN
    refine stp [some (.ref a), some tv, some (.ref ts), none, none, none] rfl fun N hN => ?_
    refine ⟨_, rfl, a, _, rfl, SqT.of (sF _ _ ha), rfl, _, _, rfl, _, _, rfl, _, _, rfl, rfl, ?_⟩
    refine hN _ _ ?_
    clear hN
    refine stp [some (.ref a), some tv, some (.ref ts), some (.str d.one), some rv, some (.str d.other)] rfl fun N hN => ?_
    refine ⟨_, rfl, _, _, _, _, _, rfl, ClsV.ty _, TyX.base (TyOf.str _), kit_ty (r := true) (by decide +kernel), ?_⟩
    refine ⟨_, rfl, iteF ?_⟩
    refine ⟨_, rfl, _, _, _, _, _, rfl, ClsV.ty _, TyX.base (TyOf.str _), kit_ty (r := true) (by decide +kernel), ?_⟩
    refine ⟨_, rfl, iteF ?_⟩
    refine ⟨_, rfl, _, _, _, _, _, rfl, ClsV.own _, by rw [hra.ev]; exact IR.ty (sF _ _ hra.ob), kit_self, ?_⟩
    refine ⟨_, rfl, iteF (hN _ _ ?_)⟩
    clear hN
    try dsimp only
    refine stq [some (.ref a), some tv, some (.ref ts), some (.str d.one), some rv, some (.str d.other)] rfl ?_
    refine ⟨_, rfl, _, rfl, .inr ⟨ts, _, rfl, .inr (SqT.of (sF _ _ hts)), rfl, flat_strs pl, _, rfl, ?_⟩⟩
    show if inV (.str d.one) (pl.map V.str) = true then _ else _
    rw [inV_strs]
    have k' := k H (Same.refl _)
    by_cases h1 : d.one ∈ pl
    · rw [decide_eq_true h1] at k' ⊢
      refine iteT ⟨_, rfl, _, rfl, .inr ⟨ts, _, rfl, .inr (SqT.of (sF _ _ hts)), rfl, flat_strs pl, _, rfl, ?_⟩⟩
      show if inV (.str d.other) (pl.map V.str) = true then _ else _
      rw [inV_strs]
      by_cases h2 : d.other ∈ pl
      · rw [decide_eq_true h2]
        obtain ⟨tA, tdx, tP, tN, tD, tR, tat⟩ := id hra.tu
        obtain ⟨uA, udx, uP, uN, uD, uR, uat⟩ := id rt
        refine iteT ⟨_, rfl, ra, CR, rdx, _, _, hra.ev, sF _ _ hra.ob, R.cl, R.no _ (by decide), rfl, _, rfl, tA, _, _, uA, _, _, tat.ev, uat.ev, sF _ _ tat.ob, sF _ _ uat.ob, _, _, d.row.ks, rfl, (RTurns CT).mono sF hra.tu, (RTurns CT).mono sF rt, nmo, fun H2 s2 => ⟨true, rfl, ?_⟩⟩
        have := k H2 s2
        rw [decide_eq_true h1, decide_eq_true h2] at this
        exact this
      · rw [decide_eq_false h2] at k' ⊢
        exact iteF k'
    · rw [decide_eq_false h1] at k' ⊢
      exact iteF k'
abbrev s_map_of : Stmt := top 15
abbrev N_map_of : List Str := ["book", "made", "claim"]
abbrev P_map_of : List Str := ["book"]
theorem sc_map_of : FnScope N_map_of P_map_of (defScope s_map_of) := ⟨rfl, rfl, rfl, by decide +kernel, rfl, by decide +kernel, by decide +kernel⟩
theorem bn_map_of : BindsNo "map_of" "map_of" s_map_of P_map_of := fun _ _ _ _ _ _ us hl => match us, hl with | [_], _ => rfl
def sp_map_of0 (K : PySem.W.Frag) (CM CG CT CB : Addr) : Sp := fun vs H Q _ => ∃ (F : Hp) (a dx ts tf : Addr) (fs : List (Str × V)) (tv : V) (ks : Kinds) (pl : List Str), vs = [.ref a] ∧ Same F H ∧ H a = some (.ins CB dx fs) ∧ fs.lookup ("turns" : Str) = some tv ∧ fs.lookup ("places" : Str) = some (.ref ts) ∧ fs.lookup ("facts" : Str) = some (.ref tf) ∧
  (RTurns CT).rel ks tv F ∧ KOk ks ∧ F ts = some (.tup (pl.map V.str)) ∧ pl.Nodup ∧ pl.length ≤ 1000 ∧ (∀ H', Same F H' → SqT K H' tf []) ∧ ∀ r F' H' ad, Pu F H F' H' → RMapAt CM CG (mapOf ks pl) r tv ad F' → Q r H'
theorem ok_map_of0 (BK : KlF K mg "Book" CB ["turns", "places", "facts", "rings"]) (k_RingMap : Mak P w K mg base 4 "RingMap" CM (sp_RingMap_init CM CG CT)) (m_add_fact : Met P w K mg base 1 CM "add_fact" spNever) (m_close_up : Met P w K mg base 1 CM "close_up" spNever)
    (F : FnF K mg "map_of" s_map_of []) : Cal P w K mg base 6 "map_of" (sp_map_of0 K CM CG CT CB) := by
  refine F.cal sc_map_of bn_map_of (fun vs H Q E h => ?_) (fun f cdv A outer s H vs Q E hr h => ?_)
  · obtain ⟨_, _, _, _, _, _, _, _, _, rfl, _⟩ := h
    rfl
  · obtain ⟨F, a, dx, ts, tf, fs, tv, ks, pl, rfl, sF, ha, l1, l2, l3, rt, ok, hts, nd, hpl, hnil, k⟩ := h
    refine ⟨_, (pss_cons (ps_set (i := 1) sc_map_of.nd rfl (Or.inl rfl) (pe_k k_RingMap hr (by decide) (pa_cons (k_fld (pv 0) (K := K)) (pa_cons (k_fld (pv 0) (K := K)) pa_nil)) passL))
    (pss_cons (ps_for (passes_of rfl) rfl (k_it (k_fld (pv 0) (K := K)) (K := K)) (pg_name (i := 2) sc_map_of.nd rfl (Or.inl rfl))
    (pss_cons (ps_expr (pe_m m_add_fact hr (by decide) (pv 1) (pa_cons (pv 2) pa_nil) passL))
    (pss_one (ps_expr (pe_m0 m_close_up hr (by decide) (pv 1) passL)))))
    (pss_one (ps_ret (pv 1))))), ?_⟩
    refine stp [some (.ref a), none, none] rfl fun N hN => ?_
    refine ⟨_, rfl, a, CB, dx, _, _, rfl, ha, BK.cl, BK.no _ (by decide), l1, _, rfl, a, CB, dx, _, _, rfl, ha, BK.cl, BK.no _ (by decide), l2, ?_⟩
    refine fun x gx hx hgx ne => ⟨F, H, x, gx, ts, tv, ks, pl, rfl, ⟨sF, hx, hgx, ne, rfl⟩, rt, ok, hts, nd, hpl, fun F1 H1 ad q1 rm => ⟨rfl, ?_⟩⟩
    refine hN _ _ ?_
    clear hN
    refine stp [some (.ref a), some (.ref x), none] rfl fun N hN => ?_
    refine ⟨_, rfl, a, CB, dx, _, _, rfl, q1.same _ _ ha, BK.cl, BK.no _ (by decide), l3, tf, rfl, ⟨_, hnil H1 (q1.ff.trans q1.sub)⟩, ?_⟩
    refine for_it (walk_tup (xs := [])) (fun i σ H' => H' = H1 ∧ σ = [some (.ref a), some (.ref x), none]) ⟨rfl, rfl⟩ (fun i σ H' _ ⟨e, _⟩ => by rw [e]; exact hnil H1 (q1.ff.trans q1.sub)) (fun i y σ H' H'' hi => absurd hi (Nat.not_lt_zero _)) ?_
    rintro σ H' ⟨rfl, rfl⟩
    refine hN _ _ ?_
    exact ⟨_, rfl, k (.ref x) F1 _ ad q1 rm⟩
end
end TR

/-! part M11 -/
/-! A book without facts. -/
namespace TR
open PySem PySem.Spec PyProof.Rows L2 G
structure BookD where
  ks : Kinds
  pl : List Str
  md : MapD
structure BookAt (CB CM CG CT : Addr) (d : BookD) (v : V) (F : Hp) (a dx ts : Addr) (tv fv rv : V) (ad : Ad) : Prop where
  ev : v = .ref a
  ob : F a = some (.ins CB dx [("turns", tv), ("places", .ref ts), ("facts", fv), ("rings", rv)])
  tu : (RTurns CT).rel d.ks tv F
  pl : F ts = some (.tup (d.pl.map V.str))
  ri : RMapAt CM CG d.md rv tv ad F
def RBook (CB CM CG CT : Addr) : Rp BookD := ⟨fun d v F => ∃ a dx ts tv fv rv ad, BookAt CB CM CG CT d v F a dx ts tv fv rv ad,
  fun s ⟨a, dx, ts, tv, fv, rv, ad, h⟩ => ⟨a, dx, ts, tv, fv, rv, ad, h.ev, s _ _ h.ob, (RTurns CT).mono s h.tu, s _ _ h.pl, h.ri.mono s⟩⟩
abbrev bookNames : List Str := ["turns", "places", "facts", "rings"]
section
variable {P : Program} {w : World} {K : PySem.W.Frag} {mg : Str → Option Value} {base : Heap} {CT CG CM CR CB : Addr}
abbrev s_Book_init : Stmt := inClass (top 66) 0
abbrev N_Book_init : List Str := ["self", "turns", "places", "facts", "at", "name", "claim"]
abbrev P_Book_init : List Str := ["self", "turns", "places", "facts"]
theorem sc_Book_init : FnScope N_Book_init P_Book_init (defScope s_Book_init) := ⟨rfl, rfl, rfl, by decide +kernel, rfl, by decide +kernel, by decide +kernel⟩
theorem bn_Book_init (T : Addr) (kV doc pm : Value) (an : Option Addr) (cdv ct : Value) (us its : List Value) (hu : us.length = 3) (hi : its.length = 1) :
    ∃ k, bindArgs (PySem.W.fnOf "__init__" "Book.__init__" (defArgs s_Book_init) (defBody s_Book_init) (defScope s_Book_init) (.ref T) kV doc pm an cdv ct) ⟨us, []⟩ = seqItems? (.ref T) >>= k ∧ k (some its.toArray) = pure (P_Book_init.zip (us ++ its.drop 0)) :=
  match us, hu, its, hi with
  | [_, _, _], _, [_], _ => ⟨_, rfl, rfl⟩
def sp_Book_init0 (CB CM CG CT df : Addr) : Sp := fun vs H Q _ => ∃ (F H0 : Hp) (x dx ls : Addr) (tv : V) (ks : Kinds) (pl : List Str), vs = [.ref x, tv, .ref ls, .ref df] ∧ New CB F H0 H x dx ∧ (RTurns CT).rel ks tv F ∧ KOk ks ∧ F ls = some (.lst (pl.map V.str)) ∧ (∀ z ∈ pl, nameOk z = true ∧ z.length ≤ 1000) ∧ pl.Nodup ∧ pl.length ≤ 100 ∧
  ∀ F' H', Pu F H0 F' H' → (RBook CB CM CG CT).rel ⟨ks, pl, mapOf ks pl⟩ (.ref x) F' → Q .non H'
theorem ok_Book_init0 (B : Bt mg) {df : Addr} (hdf : ∀ H, SqT K H df []) (BK : KlF K mg "Book" CB bookNames) (c_is_name : Cal P w K mg base 1 "is_name" (sp_is_name K)) (c_is_claim : Cal P w K mg base 2 "is_claim" (sp_is_claim CT CR)) (c_map_of : Cal P w K mg base 6 "map_of" (sp_map_of0 K CM CG CT CB))
    (F : MkF K mg "Book" CB "Book.__init__" s_Book_init [.ref df]) : MakD P w K mg base 7 "Book" CB [.ref df] (sp_Book_init0 CB CM CG CT df) := by
  refine F.makN sc_Book_init (by simp) 3 0 rfl bn_Book_init (fun vs H Q E h => ?_) (fun f cdv A outer s H vs Q E hr h => ?_)
  · obtain ⟨_, _, _, _, _, _, _, _, rfl, _⟩ := h
    rfl
  · obtain ⟨F, H0, x, dx, ls, tv, ks, pl, rfl, nw, rt, ok, hls, hnm, hnd, hpl, k⟩ := h
    have w0 := nw.own
    have hml : (pl.map V.str).length = pl.length := List.length_map _
    refine ⟨_, (pss_cons (ps_fld (pv 0) (pv 1) rfl)
    (pss_cons (ps_fld (pv 0) (pe_callTy (k_tuple (K := K)) (by rfl) B.tuple (by decide +kernel) (pa_cons (pv 2) pa_nil)) rfl)
    (pss_cons (ps_fld (pv 0) (pe_callTy (k_tuple (K := K)) (by rfl) B.tuple (by decide +kernel) (pa_cons (pv 3) pa_nil)) rfl)
    (pss_cons (ps_for (passes_of rfl) rfl (pi_enumT (by rfl) B.enumerate (pa_cons (k_fld (pv 0) (K := K)) pa_nil) (K := K)) (k_tup (n := 2) rfl (pgs_cons (pg_name (i := 4) sc_Book_init.nd rfl (Or.inl rfl)) (pgs_cons (pg_name (i := 5) sc_Book_init.nd rfl (Or.inl rfl)) pgs_nil)) (K := K))
    (pss_cons (ps_if (pt_not (pt_val (pe_c c_is_name hr (by decide) (pa_cons (pv 5) pa_nil) passL))) (pss_one ps_never) pss_nil)
    (pss_one (ps_if (pt_cmpR (op_inU (K := K)) (pv 5) (pe_slice (k_sl_tup (K := K)) (k_fld (pv 0) (K := K)) po_none (po_some (pv 4))) (by rfl)) (pss_one ps_never) pss_nil))))
    (pss_cons (ps_for (passes_of rfl) rfl (pi_enumT (by rfl) B.enumerate (pa_cons (k_fld (pv 0) (K := K)) pa_nil) (K := K)) (k_tup (n := 2) rfl (pgs_cons (pg_name (i := 4) sc_Book_init.nd rfl (Or.inl rfl)) (pgs_cons (pg_name (i := 6) sc_Book_init.nd rfl (Or.inl rfl)) pgs_nil)) (K := K))
    (pss_one (ps_if (pt_not (pt_val (pe_c c_is_claim hr (by decide) (pa_cons (pv 6) (pa_cons (pv 1) (pa_cons (k_fld (pv 0) (K := K)) pa_nil))) passL))) (pss_one ps_never) pss_nil)))
    (pss_one (ps_fld (pv 0) (pe_c c_map_of hr (by decide) (pa_cons (pv 0) pa_nil) passL) rfl))))))), ?_⟩
    refine ⟨_, rfl, _, rfl, st_fld w0 BK.cl (BK.no _ (by decide)) 0 [] rfl rfl (by decide +kernel) (by decide) fun w1 => ?_⟩
    refine ⟨_, rfl, ls, _, rfl, .inl ⟨SqL.of (w1.sub _ _ hls), fun ts hts => ?_⟩⟩
    have w2 := w1.add (o := .tup (pl.map V.str)) hts
    have s2 := Same.new (o := .tup (pl.map V.str)) (w1.sub.free hts)
    have hts2 : upd F ts (.tup (pl.map V.str)) ts = some (.tup (pl.map V.str)) := upd_same
    generalize upd F ts (.tup (pl.map V.str)) = F2 at w2 s2 hts2
    refine ⟨_, rfl, st_fld w2 BK.cl (BK.no _ (by decide)) 0 ["turns"] rfl rfl (by decide +kernel) (by decide) fun w3 => ?_⟩
    refine ⟨_, rfl, df, _, rfl, .inr ⟨hdf _, ?_⟩⟩
    refine ⟨_, rfl, st_fld w3 BK.cl (BK.no _ (by decide)) 0 ["turns", "places"] rfl rfl (by decide +kernel) (by decide) fun w4 => ?_⟩
    -- the places
    try dsimp only
    refine stp [some (.ref x), some tv, some (.ref ls), some (.ref df), none, none, none] rfl fun N hN => ?_
    refine ⟨_, rfl, x, CB, dx, _, _, rfl, w4.at 0, BK.cl, BK.no _ (by decide), rfl, ts, _, rfl, SqT.of (w4.sub _ _ hts2), ?_⟩
    refine for_it (walk_enumT (xs := pl.map V.str)) (fun i σ H' => ∃ (n m : Option V), Own F H0 F2 H' [(x, .ins CB dx [("turns", tv), ("places", .ref ts), ("facts", .ref df)])] ∧ σ = [some (.ref x), some tv, some (.ref ls), some (.ref df), n, m, none]) ⟨none, none, w4, rfl⟩ (fun i σ H' _ ⟨n, m, w8, _⟩ => SqT.of (w8.sub _ _ hts2)) ?_ ?_
    · rintro i y σ H' H'' hi ⟨n0, m0, w8, rfl⟩ ⟨T, x1, x2, rfl, hT, rfl, e1, hy⟩
      cases e1
      replace hy : (pl.map V.str)[i]? = some x2 := hy
      rw [List.getElem?_map] at hy
      obtain ⟨z, hz, rfl⟩ := Option.map_eq_some_iff.mp hy
      have w9 := w8.tmp (Same.new (o := .tup [.int (i : Nat), .str z]) hT)
      refine ⟨T, _, rfl, SqT.of upd_same, rfl, _, _, rfl, _, _, rfl, rfl, ?_⟩
      have hok := hnm z (List.mem_of_getElem? hz)
      have hip : i < pl.length := (List.getElem?_eq_some_iff.mp hz).1
      have nfull : ¬(HT.sIx (pl.map V.str).length 0 none = 0 ∧ HT.sIx (pl.map V.str).length (pl.map V.str).length (some (i : Int)) = (pl.map V.str).length) := fun q => by
        have := q.2
        rw [HT.sIx_nat] at this
        omega
      refine ⟨_, rfl, .str z, rfl, .inl ⟨z, rfl, hok.2, fun H4 s4 => ?_⟩⟩
      rw [hok.1]
      refine ⟨_, rfl, iteF ?_⟩
      have w11 := w9.tmp s4
      refine ⟨_, rfl, _, rfl, x, CB, dx, _, _, rfl, w11.at 0, BK.cl, BK.no _ (by decide), rfl, _, rfl, _, rfl, ts, _, rfl, SqT.of (w11.sub _ _ hts2), nfull, fun c hc => ?_⟩
      rw [cut_take (by omega), ← List.map_take]
      refine .inr ⟨c, _, rfl, .inr (SqT.of upd_same), rfl, flat_strs _, ?_⟩
      have w12 := w11.tmp (Same.new (o := .tup ((pl.take i).map V.str)) hc)
      refine ⟨_, rfl, ?_⟩
      show (if inV (.str z) ((pl.take i).map V.str) = true then _ else _ : Prop)
      rw [inV_strs, decide_eq_false (not_in_take hnd hz)]
      exact iteF ⟨_, _, w12, rfl⟩
    · rintro σ H' ⟨n0, m0, w8, rfl⟩
      refine hN _ _ ?_
      clear hN
      try dsimp only
      refine stp [some (.ref x), some tv, some (.ref ls), some (.ref df), n0, m0, none] rfl fun N hN => ?_
      refine ⟨_, rfl, x, CB, dx, _, _, rfl, w8.at 0, BK.cl, BK.no _ (by decide), rfl, df, _, rfl, hdf _, ?_⟩
      refine for_it (walk_enumT (xs := [])) (fun i σ H'' => H'' = H' ∧ σ = [some (.ref x), some tv, some (.ref ls), some (.ref df), n0, m0, none]) ⟨rfl, rfl⟩ (fun i σ H' _ _ => hdf _) (fun i y σ H' H'' hi => absurd hi (Nat.not_lt_zero _)) ?_
      rintro σ H'' ⟨rfl, rfl⟩
      refine hN _ _ ?_
      refine ⟨_, rfl, F2, x, dx, ts, df, _, tv, ks, pl, rfl, w8.sub, w8.at 0, rfl, rfl, rfl, (RTurns CT).mono s2 rt, ok, hts2, hnd, by omega, fun H' _ => hdf H', fun r F3 H3 ad q3 rm => ?_⟩
      have w9 := w8.step q3
      refine ⟨_, rfl, st_fld w9 BK.cl (BK.no _ (by decide)) 0 ["turns", "places", "facts"] rfl rfl (by decide +kernel) (by decide) fun w10 => ?_⟩
      have w11 := w10.fix 0
      have sx := w10.ext 0
      refine k _ _ w11.pu ⟨x, dx, ts, tv, .ref df, r, ad, rfl, upd_same, (RTurns CT).mono (s2.trans (q3.ff.trans sx)) rt, (q3.ff.trans sx) _ _ hts2, rm.mono sx⟩
end
end TR

/-! part M12 -/
/-! Asking a book. -/
namespace TR
open PySem PySem.Spec PyProof.Rows L2 G
def spotN (md : MapD) (n : Str) : Nat := (md.spotOf.lookup n).getD 0
structure BkOk (d : BookD) : Prop where
  full : Full d.ks d.md
  keys : d.md.spotOf.map (·.1) = d.pl
  vals : ∀ p ∈ d.md.spotOf, p.2 ∈ d.md.spots
  nd : d.pl.Nodup
  ok : KOk d.ks
theorem spK_get {l : List (Str × Nat)} {n : Str} (h : n ∈ l.map (·.1)) : valV (spK l) (Sum.inr n) = some (.int (((l.lookup n).getD 0 : Nat) : Int)) ∧ ∃ p ∈ l, p.2 = (l.lookup n).getD 0 := by
  unfold spK
  induction l with
  | nil => cases h
  | cons a r ih =>
    rw [List.map_cons, List.lookup_cons]
    by_cases e : n = a.1
    · subst e
      rw [valV_pos rfl]
      simp
    · rw [valV_neg (fun z => e (Sum.inr.inj z).symm), show (n == a.1) = false by simp [e]]
      rcases List.mem_cons.mp h with y | y
      · exact absurd y e
      · obtain ⟨h1, p, h2, h3⟩ := ih y
        exact ⟨h1, p, List.mem_cons_of_mem _ h2, h3⟩
theorem BkOk.spot {d : BookD} (h : BkOk d) {n : Str} (hn : n ∈ d.pl) : valV (spK d.md.spotOf) (Sum.inr n) = some (.int (spotN d.md n : Nat)) ∧ spotN d.md n ∈ d.md.spots := by
  rw [← h.keys] at hn
  obtain ⟨h1, p, h2, h3⟩ := spK_get hn
  exact ⟨h1, by unfold spotN; rw [← h3]; exact h.vals p h2⟩
def inBook (d : BookD) (c : ClD) : Bool := decide (c.one ∈ d.pl) && (decide (c.other ∈ d.pl) && decide (walkM d.md (some (spotN d.md c.one)) c.row.ss = some (spotN d.md c.other)))
section
variable {P : Program} {w : World} {K : PySem.W.Frag} {mg : Str → Option Value} {base : Heap} {CT CG CM CR CB : Addr}
abbrev s_Book_need_place : Stmt := inClass (top 66) 1
abbrev N_Book_need_place : List Str := ["self", "name"]
abbrev P_Book_need_place : List Str := ["self", "name"]
theorem sc_Book_need_place : FnScope N_Book_need_place P_Book_need_place (defScope s_Book_need_place) := ⟨rfl, rfl, rfl, by decide +kernel, rfl, by decide +kernel, by decide +kernel⟩
theorem bn_Book_need_place : BindsNo "need_place" "Book.need_place" s_Book_need_place P_Book_need_place := fun _ _ _ _ _ _ us hl => match us, hl with | [_, _], _ => rfl
def sp_need_place (CB CM CG CT : Addr) : Sp := fun vs H Q _ => ∃ (F : Hp) (v : V) (z : Str) (d : BookD), vs = [v, .str z] ∧ Same F H ∧ (RBook CB CM CG CT).rel d v F ∧ z ∈ d.pl ∧ Q .non H
theorem ok_need_place (B : Bt mg) (BK : KlF K mg "Book" CB bookNames) (F : MtF K CB "need_place" "Book.need_place" s_Book_need_place []) : Met P w K mg base 1 CB "need_place" (sp_need_place CB CM CG CT) := by
  refine F.met BK.cl sc_Book_need_place bn_Book_need_place (fun vs H Q E h => ?_) (fun f cdv A outer s H vs Q E hr h => ?_)
  · obtain ⟨_, _, _, _, rfl, _⟩ := h
    rfl
  · obtain ⟨F, v, z, d, rfl, sF, ⟨a, dx, ts, tv, fv, rv, ad, hb⟩, hz, q⟩ := h
    refine ⟨_, (pss_one (ps_if (PW.pt (pw_or (pt_not (pt_val (pe_callB (k_isi (K := K)) (by rfl) B.isinstance (by decide +kernel) (pa_cons (pv 1) (pa_cons (pe_ty (n := "str") B.str) pa_nil))))) (pw_or1 (pt_cmpR (op_niU (K := K)) (pv 1) (k_fld (pv 0) (K := K)) (by rfl))))) (pss_one ps_never) pss_nil)), ?_⟩
    refine ⟨_, rfl, _, _, _, _, _, rfl, ClsV.ty _, TyX.base (TyOf.str _), kit_ty (r := true) (by decide +kernel), ?_⟩
    refine ⟨_, rfl, iteF ?_⟩
    refine ⟨_, rfl, _, rfl, a, CB, dx, _, _, hb.ev, sF _ _ hb.ob, BK.cl, BK.no _ (by decide), rfl, .inr ⟨ts, _, rfl, .inr (SqT.of (sF _ _ hb.pl)), rfl, flat_strs d.pl, ?_⟩⟩
    refine ⟨_, rfl, ?_⟩
    show (if (!inV (.str z) (d.pl.map V.str)) = true then _ else _ : Prop)
    rw [inV_strs, decide_eq_true hz]
    exact iteF q
abbrev s_Book_contains : Stmt := inClass (top 66) 3
abbrev N_Book_contains : List Str := ["self", "claim", "place", "row", "other"]
abbrev P_Book_contains : List Str := ["self", "claim"]
theorem sc_Book_contains : FnScope N_Book_contains P_Book_contains (defScope s_Book_contains) := ⟨rfl, rfl, rfl, by decide +kernel, rfl, by decide +kernel, by decide +kernel⟩
theorem bn_Book_contains : BindsNo "__contains__" "Book.__contains__" s_Book_contains P_Book_contains := fun _ _ _ _ _ _ us hl => match us, hl with | [_, _], _ => rfl
def sp_Book_in (CB CM CG CT CR : Addr) : Sp := fun vs H Q _ => ∃ (F : Hp) (v u : V) (d : BookD) (c : ClD), vs = [v, u] ∧ Same F H ∧ (RBook CB CM CG CT).rel d v F ∧ BkOk d ∧ (RCla CT CR).rel c u F ∧ c.row.ks = d.ks ∧ (∀ st ∈ c.row.ss, st.1 ∈ d.ks.map (·.1)) ∧ c.row.ss.length ≤ 10000 ∧ ∀ H', Same H H' → Q (.bl (inBook d c)) H'
theorem ok_Book_in (B : Bt mg) (BK : KlF K mg "Book" CB bookNames) (RM : KlF K mg "RingMap" CM mapNames) (c_is_claim : Cal P w K mg base 2 "is_claim" (sp_is_claim CT CR)) (m_walk : Met P w K mg base 4 CM "walk" (sp_walk CM CG CT CR)) (F : MtF K CB "__contains__" "Book.__contains__" s_Book_contains []) :
    Met P w K mg base 5 CB "__contains__" (sp_Book_in CB CM CG CT CR) := by
  refine F.met BK.cl sc_Book_contains bn_Book_contains (fun vs H Q E h => ?_) (fun f cdv A outer s H vs Q E hr h => ?_)
  · obtain ⟨_, _, _, _, _, rfl, _⟩ := h
    rfl
  · obtain ⟨F, v, u, d, c, rfl, sF, ⟨a, dx, ts, tv, fv, rv, ad, hb⟩, bo, rc, hks, hss, hlen, k⟩ := h
    obtain ⟨ca, rowv, rfl, hca, rrow⟩ := id rc
    obtain ⟨mx, hmo⟩ := hb.ri.ob
    obtain ⟨_, hso, rfl⟩ := hb.ri.at_ .spotOf trivial
    have erv := hb.ri.ev
    refine ⟨_, (pss_cons (ps_if (pt_not (pt_val (pe_c c_is_claim hr (by decide) (pa_cons (pv 1) (pa_cons (k_fld (pv 0) (K := K)) (pa_cons (k_fld (pv 0) (K := K)) pa_nil))) passL))) (pss_one (ps_ret pe_bl)) pss_nil)
    (pss_cons (ps_asg (pv 1) (k_tup (n := 3) rfl (pgs_cons (pg_name (i := 2) sc_Book_contains.nd rfl (Or.inl rfl)) (pgs_cons (pg_name (i := 3) sc_Book_contains.nd rfl (Or.inl rfl)) (pgs_cons (pg_name (i := 4) sc_Book_contains.nd rfl (Or.inl rfl)) pgs_nil))) (K := K)))
    (pss_one (ps_ret (pe_cmpR (op_eqU hr (K := K)) (pe_m m_walk hr (by decide) (k_fld (pv 0) (K := K)) (pa_cons (pe_dget (hu_of hr) (k_fld (k_fld (pv 0) (K := K)) (K := K)) (pv 2) (fun _ _ => rfl)) (pa_cons (pv 3) pa_nil)) passL) (pe_dget (hu_of hr) (k_fld (k_fld (pv 0) (K := K)) (K := K)) (pv 4) (fun _ _ => rfl)) (nomark _)))))), ?_⟩
    refine stp [some v, some (.ref ca), none, none, none] rfl fun N hN => ?_
    refine ⟨_, rfl, _, rfl, a, CB, dx, _, _, hb.ev, sF _ _ hb.ob, BK.cl, BK.no _ (by decide), rfl, _, rfl, a, CB, dx, _, _, hb.ev, sF _ _ hb.ob, BK.cl, BK.no _ (by decide), rfl, ?_⟩
    refine ⟨F, _, tv, ts, d.pl, c, rfl, sF, rc, by rw [hks]; exact hb.tu, fun p hp => by rw [hks] at hp; exact (bo.ok.nm p hp).1, hb.pl, fun H1 s1 => ?_⟩
    refine ⟨_, rfl, ?_⟩
    have k1 := fun H2 (s2 : Same H1 H2) => k H2 (s1.trans s2)
    have no : (decide (c.one ∈ d.pl) && decide (c.other ∈ d.pl)) = false → inBook d c = false := fun z => by
      unfold inBook
      rw [← Bool.and_assoc, z]
      rfl
    cases hz : (decide (c.one ∈ d.pl) && decide (c.other ∈ d.pl)) with
    | false =>
      have q := k1 H1 (Same.refl _)
      rw [no hz] at q
      exact iteT q
    | true =>
      obtain ⟨h1, h2⟩ := Bool.and_eq_true_iff.mp hz
      have h1' := of_decide_eq_true h1
      have h2' := of_decide_eq_true h2
      obtain ⟨v1, m1⟩ := bo.spot h1'
      obtain ⟨v2, m2⟩ := bo.spot h2'
      refine iteF (hN _ _ ?_)
      clear hN
      have sF1 := sF.trans s1
      refine stp [some v, some (.ref ca), none, none, none] rfl fun N hN => ?_
      refine ⟨_, rfl, ca, _, rfl, SqT.of (sF1 _ _ hca), rfl, _, _, rfl, _, _, rfl, _, _, rfl, rfl, ?_⟩
      refine hN _ _ ?_
      clear hN
      refine stq [some v, some (.ref ca), some (.str c.one), some rowv, some (.str c.other)] rfl ?_
      refine ⟨_, rfl, a, CB, dx, _, _, hb.ev, sF1 _ _ hb.ob, BK.cl, BK.no _ (by decide), rfl, _, mx, _, erv, sF1 _ _ hmo, rfl, ?_⟩
      refine ⟨_, rfl, a, CB, dx, _, _, hb.ev, sF1 _ _ hb.ob, BK.cl, BK.no _ (by decide), rfl, _, CM, mx, _, _, erv, sF1 _ _ hmo, RM.cl, RM.no _ (by decide), rfl, _, rfl, _, _, rfl, dgetV (k := Sum.inr c.one) (sF1 _ _ hso) v1, _, rfl, ?_⟩
      refine ⟨F, d.md, rv, rowv, tv, ad, some (spotN d.md c.one), c.row, rfl, sF1, hb.ri, by rw [hks]; exact bo.full, rrow, fun s hs => by cases hs; exact m1, by rw [hks]; exact hss, hlen, fun H2 s2 => ?_⟩
      have sF2 := sF1.trans s2
      refine ⟨_, rfl, a, CB, dx, _, _, hb.ev, sF2 _ _ hb.ob, BK.cl, BK.no _ (by decide), rfl, _, CM, mx, _, _, erv, sF2 _ _ hmo, RM.cl, RM.no _ (by decide), rfl, _, rfl, _, _, rfl, dgetV (k := Sum.inr c.other) (sF2 _ _ hso) v2, .inl ?_⟩
      have q := k1 H2 s2
      have e : inBook d c = decide (ofSp (walkM d.md (some (spotN d.md c.one)) c.row.ss) = .int (spotN d.md c.other : Nat)) := by
        unfold inBook
        rw [h1, h2, Bool.true_and, Bool.true_and]
        cases walkM d.md (some (spotN d.md c.one)) c.row.ss with
        | none => exact (decide_eq_false (by intro z; cases z)).trans (decide_eq_false (by intro z; cases z)).symm
        | some s =>
          by_cases e : s = spotN d.md c.other
          · subst e; exact (decide_eq_true rfl).trans (decide_eq_true rfl).symm
          · exact (decide_eq_false (fun z => e (Option.some.inj z))).trans (decide_eq_false (fun z => e (by have := V.int.inj z; omega))).symm
      rw [e] at q
      refine ⟨?_, q⟩
      cases walkM d.md (some (spotN d.md c.one)) c.row.ss <;> rfl
end
end TR

/-! part M19 -/
/-! A trace: states noted. -/
namespace TR
open PySem PySem.Spec PyProof.Rows L2 G
abbrev RunL := List (Int × Int)
structure TrD where
  st : List (Str × StD)
  ru : List (Str × RunL)
  un : Option (Str × RunL × RunL)
def RUn : Rp (Option (Str × RunL × RunL)) := ⟨fun d v F => match d with
  | none => v = .non
  | some (s, a, b) => ∃ t x y, v = .ref t ∧ F t = some (.tup [.str s, x, y]) ∧ RLs.rel a x F ∧ RLs.rel b y F,
  fun {d v F F'} s h => by
    cases d with
    | none => exact h
    | some p =>
      obtain ⟨t, x, y, e, h1, h2, h3⟩ := h
      exact ⟨t, x, y, e, s _ _ h1, RLs.mono s h2, RLs.mono s h3⟩⟩
/-- where a trace lies -/
structure TrP where
  x : Addr
  es : Addr
  er : Addr
  rv : V
  pv : V
  sv : V
def trFs (p : TrP) (uv : V) : List (Str × V) := [("rings", p.rv), ("plan", p.pv), ("start", p.sv), ("states", .ref p.es), ("runs", .ref p.er), ("unlike", uv)]
structure TrAt (CC : Addr) (p : TrP) (d : TrD) (F S : Hp) : Prop where
  ob : ∃ dx uv, S p.x = some (.ins CC dx (trFs p uv)) ∧ RUn.rel d.un uv F
  st : ∃ kvs, S p.es = some (.dK kvs) ∧ KdP RSt F d.st kvs
  ru : ∃ kvs, S p.er = some (.dK kvs) ∧ KdP RLs F d.ru kvs
  ne : p.es ≠ p.er
  ks : d.st.map (·.1) = d.ru.map (·.1)
def stD (d : StD) : PyData := .tuple [.int d.1, .tuple (d.2.map stepD)]
abbrev trNames : List Str := ["rings", "plan", "start", "states", "runs", "unlike"]
/-- what is not the trace's own is as it was -/
def Beside (p : TrP) (S S' : Hp) : Prop := ∀ a, a ≠ p.x → a ≠ p.es → a ≠ p.er → S' a = S a
def arriveD (d : TrD) (z : Str) (s : StD) (r : RunL) : TrD := match d.st.lookup z with
  | some t => if t ≠ s ∧ d.un = none then { d with un := some (z, (d.ru.lookup z).getD [], r) } else d
  | none => { d with st := d.st ++ [(z, s)], ru := d.ru ++ [(z, r)] }
theorem put_unlike {p : TrP} {uv v : V} : putF "unlike" v (trFs p uv) = trFs p v := by
  have n1 : ¬ (("unlike" : Str) = "rings") := by decide +kernel
  have n2 : ¬ (("unlike" : Str) = "plan") := by decide +kernel
  have n3 : ¬ (("unlike" : Str) = "start") := by decide +kernel
  have n4 : ¬ (("unlike" : Str) = "states") := by decide +kernel
  have n5 : ¬ (("unlike" : Str) = "runs") := by decide +kernel
  simp [putF, trFs, n1, n2, n3, n4, n5, Ne.symm n1, Ne.symm n2, Ne.symm n3, Ne.symm n4, Ne.symm n5]
theorem eqv_stp (a b : Str × Int) : PyData.eqv (stepD a) (stepD b) = decide (a = b) := by
  obtain ⟨x, i⟩ := a
  obtain ⟨y, j⟩ := b
  simp only [stepD, PyData.eqv, PyData.eqvAll, Bool.and_true]
  rw [Bool.eq_iff_iff]
  simp
theorem eqvAll_stp : ∀ a b : Steps, PyData.eqvAll (a.map stepD) (b.map stepD) = decide (a = b)
  | [], [] => by simp [PyData.eqvAll]
  | [], _ :: _ => by simp [PyData.eqvAll]
  | _ :: _, [] => by simp [PyData.eqvAll]
  | x :: r, y :: q => by
    simp only [List.map_cons, PyData.eqvAll]
    rw [eqv_stp, eqvAll_stp r q, Bool.eq_iff_iff]
    simp
theorem eqv_st (a b : StD) : PyData.eqv (stD a) (stD b) = decide (a = b) := by
  obtain ⟨x, i⟩ := a
  obtain ⟨y, j⟩ := b
  simp only [stD, PyData.eqv, PyData.eqvAll, Bool.and_true]
  rw [eqvAll_stp, Bool.eq_iff_iff]
  simp
  intro _
  omega
theorem st_shaped {d : StD} (h : ∀ e ∈ d.2, nameOk e.1 = true) : SeqAt.shaped (stD d) = true :=
  shaped_of (by
    have a : PyData.canLayAll0 (d.2.map stepD) = true := lay_all fun e he => step_lay (h e he)
    unfold stD
    simp only [PyData.canLay0, PyData.canLayAll0, a, Bool.and_true]) (by
    have a : PyData.depthAll (d.2.map stepD) ≤ 1 := dep_all (f := stepD) (n := 1) (ds := d.2) fun e _ => step_dep e
    unfold stD
    simp only [PyData.depth, PyData.depthAll]
    omega)
theorem dp_st {K : PySem.W.Frag} {F H : Hp} {d : StD} {v : V} (s : Same F H) (h : RSt.rel d v F) : Dp K H v (stD d) := by
  obtain ⟨a, t, rfl, h1, h2⟩ := h
  exact .tup (SqT.of (s _ _ h1)) (.cons (.int _) (.cons ((RD.tup (RD.pair RD.str RD.int)).dp K _ _ F H s h2) .nil))
theorem TrAt.ff {CC : Addr} {p : TrP} {d : TrD} {F F' S : Hp} (h : TrAt CC p d F S) (s : Same F F') : TrAt CC p d F' S := by
  obtain ⟨dx, uv, h0, hu⟩ := h.ob
  obtain ⟨ks, h1, kd⟩ := h.st
  obtain ⟨kr, h2, kd2⟩ := h.ru
  exact ⟨⟨dx, uv, h0, RUn.mono s hu⟩, ⟨ks, h1, kd.mono s⟩, ⟨kr, h2, kd2.mono s⟩, h.ne, h.ks⟩
section
variable {P : Program} {w : World} {K : PySem.W.Frag} {mg : Str → Option Value} {base : Heap} {CC : Addr}
abbrev s_Trace_arrive : Stmt := inClass (top 72) 1
abbrev N_Trace_arrive : List Str := ["self", "station", "state", "run"]
abbrev P_Trace_arrive : List Str := ["self", "station", "state", "run"]
theorem sc_Trace_arrive : FnScope N_Trace_arrive P_Trace_arrive (defScope s_Trace_arrive) := ⟨rfl, rfl, rfl, by decide +kernel, rfl, by decide +kernel, by decide +kernel⟩
theorem bn_Trace_arrive : BindsNo "arrive" "Trace.arrive" s_Trace_arrive P_Trace_arrive := fun _ _ _ _ _ _ us hl => match us, hl with | [_, _, _, _], _ => rfl
def sp_arrive (CC : Addr) : Sp := fun vs H Q _ => ∃ (F S : Hp) (p : TrP) (d : TrD) (z : Str) (s : StD) (r : RunL) (sv rv : V), vs = [.ref p.x, .str z, sv, rv] ∧ Sp2 F S H ∧ TrAt CC p d F S ∧ RSt.rel s sv F ∧ RLs.rel r rv F ∧ (∀ e ∈ s.2, nameOk e.1 = true) ∧ (∀ q ∈ d.st, ∀ e ∈ q.2.2, nameOk e.1 = true) ∧ d.st.length ≤ 10000 ∧
  ∀ F' S' H', Mu F S H F' S' H' → TrAt CC p (arriveD d z s r) F' S' → Beside p S S' → Q (.bl (d.st.lookup z).isNone) H'
theorem ok_arrive (B : Bt mg) (TC : KlF K mg "Trace" CC trNames) (F : MtF K CC "arrive" "Trace.arrive" s_Trace_arrive []) : Met P w K mg base 1 CC "arrive" (sp_arrive CC) := by
  refine F.met TC.cl sc_Trace_arrive bn_Trace_arrive (fun vs H Q E h => ?_) (fun f cdv A outer s H vs Q E hr h => ?_)
  · obtain ⟨_, _, _, _, _, _, _, _, _, rfl, _⟩ := h
    rfl
  · obtain ⟨F, S, p, d, z, st, r, sv, rv, rfl, d2, tr, rs, rr, nm1, nm2, hl, k⟩ := h
    refine ⟨_, (pss_cons (ps_if (pt_cmp (pc_din (hu_of hr) (pv 1) (k_fld (pv 0) (K := K)))) (pss_cons (ps_if (PW.pt (pw_and (pt_cmpR (op_neU hr (K := K)) (pe_dget (hu_of hr) (k_fld (pv 0) (K := K)) (pv 1) (fun _ _ => rfl)) (pv 2) (nomark _)) (pw_and1 (pt_cmpR op_isN (k_fld (pv 0) (K := K)) pe_non (nomark _))))) (pss_one (ps_fld (pv 0) (pe_tup (pa_cons (pv 1) (pa_cons (pe_dget (hu_of hr) (k_fld (pv 0) (K := K)) (pv 1) (fun _ _ => rfl)) (pa_cons (pv 3) pa_nil)))) rfl)) pss_nil)
    (pss_one (ps_ret pe_bl))) pss_nil)
    (pss_cons (ps_dput (hu_of hr) (k_fld (pv 0) (K := K)) (pv 1) (pv 2) rfl)
    (pss_cons (ps_dput (hu_of hr) (k_fld (pv 0) (K := K)) (pv 1) (pv 3) rfl)
    (pss_one (ps_ret pe_bl))))), ?_⟩
    obtain ⟨dx, uv, h0, hu⟩ := tr.ob
    obtain ⟨ks, h1, kd⟩ := tr.st
    obtain ⟨kr, h2, kd2⟩ := tr.ru
    refine stp [some (.ref p.x), some (.str z), some sv, some rv] rfl fun N hN => ?_
    refine ⟨_, rfl, _, rfl, p.x, CC, dx, _, _, rfl, d2.ss _ _ h0, TC.cl, TC.no _ (by decide), rfl, p.es, _, rfl, DGet.k (k := Sum.inr z) (d2.ss _ _ h1), _, rfl, ?_⟩
    by_cases hz : z ∈ d.st.map (·.1)
    · obtain ⟨t, ht⟩ := look_mem hz
      obtain ⟨tv, htv, rt⟩ := kd.get ht
      rw [ht] at k
      rw [htv]
      refine iteT ?_
      refine stp [some (.ref p.x), some (.str z), some sv, some rv] rfl fun N2 hN2 => ?_
      have fin : ∀ (F' S' H' : Hp) (d' : TrD), arriveD d z st r = d' → Mu F S H F' S' H' → TrAt CC p d' F' S' → Beside p S S' → N2 [some (.ref p.x), some (.str z), some sv, some rv] H' := fun F' S' H' d' e u tr' b => hN2 _ _ (k F' S' H' u (e ▸ tr') b)
      refine ⟨_, rfl, p.x, CC, dx, _, _, rfl, d2.ss _ _ h0, TC.cl, TC.no _ (by decide), rfl, _, rfl, p.es, tv, rfl, htv ▸ DGet.k (k := Sum.inr z) (d2.ss _ _ h1), _, rfl, .inr ⟨stD t, stD st, dp_st d2.sf rt, dp_st d2.sf rs, st_shaped (nm2 _ (mem_of_look ht)), st_shaped nm1, _, rfl, ?_⟩⟩
      rw [eqv_st]
      by_cases c1 : t = st
      · rw [decide_eq_true c1]
        refine iteF (iteF ?_)
        exact fin F S H d (by unfold arriveD; rw [ht]; exact if_neg fun q => q.1 c1) (Mu.refl d2) tr (fun _ _ _ _ => rfl)
      · rw [decide_eq_false c1]
        refine iteT ⟨_, rfl, p.x, CC, dx, _, _, rfl, d2.ss _ _ h0, TC.cl, TC.no _ (by decide), rfl, rfl, _, rfl, ?_⟩
        cases hun : d.un with
        | some u =>
          rw [hun] at hu
          obtain ⟨u1, u2, u3⟩ := u
          obtain ⟨tu, xu, yu, rfl, _⟩ := hu
          rw [decide_eq_false (by intro q; cases q)]
          refine iteF ?_
          exact fin F S H d (by unfold arriveD; rw [ht]; exact if_neg fun q => by rw [hun] at q; cases q.2) (Mu.refl d2) tr (fun _ _ _ _ => rfl)
        | none =>
          rw [hun] at hu
          have hu : uv = .non := hu
          rw [decide_eq_true hu]
          refine iteT ?_
          obtain ⟨ru, hru⟩ := look_mem (l := d.ru) (n := z) (by rw [← tr.ks]; exact hz)
          obtain ⟨rw', hrw, rrw⟩ := kd2.get hru
          refine ⟨_, rfl, _, rfl, p.x, CC, dx, _, _, rfl, d2.ss _ _ h0, TC.cl, TC.no _ (by decide), rfl, _, rfl, p.er, rw', rfl, hrw ▸ DGet.k (k := Sum.inr z) (d2.ss _ _ h2), _, rfl, sz (n := 3) (by decide), fun q hq => ?_⟩
          have u1 := Mu.newF d2 (o := .tup [.str z, rw', rv]) hq
          refine ⟨_, rfl, p.x, CC, dx, _, rfl, u1.d1.ss _ _ h0, TC.cl, TC.no _ (by decide), (show 6 < 1000 by decide), ?_⟩
          rw [put_unlike]
          have u2 := u1.trans (Mu.put u1.d1 (o' := .ins CC dx (trFs p (.ref q))) h0)
          have sF := Same.new (o := .tup [.str z, rw', rv]) (d2.nF hq)
          refine fin _ _ _ _ (show _ = { d with un := some (z, ru, r) } from ?_) u2 ⟨⟨dx, .ref q, upd_same, ⟨q, rw', rv, rfl, upd_same, RLs.mono sF rrw, RLs.mono sF rr⟩⟩, ⟨ks, ?_, kd.mono sF⟩, ⟨kr, ?_, kd2.mono sF⟩, tr.ne, tr.ks⟩ (fun a n1 _ _ => upd_ne n1)
          · unfold arriveD
            rw [ht]
            show (if t ≠ st ∧ d.un = none then _ else d) = _
            rw [if_pos ⟨c1, hun⟩, hru]
            rfl
          · rw [upd_ne (fun e => by rw [e, h0] at h1; cases h1)]
            exact h1
          · rw [upd_ne (fun e => by rw [e, h0] at h2; cases h2)]
            exact h2
    · rw [kd.none hz]
      refine iteF (hN _ _ ?_)
      clear hN
      have hz2 : z ∉ d.ru.map (·.1) := by rw [← tr.ks]; exact hz
      rw [look_none hz] at k
      refine stp [some (.ref p.x), some (.str z), some sv, some rv] rfl fun N hN => ?_
      refine ⟨_, rfl, _, rfl, p.x, CC, dx, _, _, rfl, d2.ss _ _ h0, TC.cl, TC.no _ (by decide), rfl, _, rfl, p.es, _, rfl, DPut.k (k := Sum.inr z) (d2.ss _ _ h1) (szl (by have := kd.len; omega)), ?_⟩
      obtain ⟨e1, kd3⟩ := kd.put (b := st) (v := sv) hz rs
      rw [e1]
      have u1 := Mu.put d2 (o' := .dK (ks ++ [(Sum.inr z, sv)])) h1
      have nx : p.x ≠ p.es := fun e => by rw [e, h1] at h0; cases h0
      have nx2 : p.x ≠ p.er := fun e => by rw [e, h2] at h0; cases h0
      have h0' : upd S p.es (.dK (ks ++ [(Sum.inr z, sv)])) p.x = _ := (upd_ne nx).trans h0
      have h2' : upd S p.es (.dK (ks ++ [(Sum.inr z, sv)])) p.er = _ := (upd_ne (Ne.symm tr.ne)).trans h2
      refine hN _ _ ?_
      clear hN
      refine stp [some (.ref p.x), some (.str z), some sv, some rv] rfl fun N hN => ?_
      refine ⟨_, rfl, _, rfl, p.x, CC, dx, _, _, rfl, u1.d1.ss _ _ h0', TC.cl, TC.no _ (by decide), rfl, _, rfl, p.er, _, rfl, DPut.k (k := Sum.inr z) (u1.d1.ss _ _ h2') (szl (by have := kd2.len; have := congrArg List.length tr.ks; simp only [List.length_map] at this; omega)), ?_⟩
      obtain ⟨e2, kd4⟩ := kd2.put (b := r) (v := rv) hz2 rr
      rw [e2]
      have u2 := u1.trans (Mu.put u1.d1 (o' := .dK (kr ++ [(Sum.inr z, rv)])) h2')
      refine hN _ _ ?_
      clear hN
      refine stq [some (.ref p.x), some (.str z), some sv, some rv] rfl ?_
      refine k _ _ _ u2 ?_ (fun a _ n2 n3 => by rw [upd_ne n3, upd_ne n2])
      unfold arriveD
      rw [look_none hz]
      exact ⟨⟨dx, uv, (upd_ne nx2).trans h0', hu⟩, ⟨_, (upd_ne tr.ne).trans upd_same, kd3⟩, ⟨_, upd_same, kd4⟩, tr.ne, by rw [List.map_append, List.map_append, tr.ks]; rfl⟩
end
end TR

/-! part M20 -/
/-! A trace made. -/
namespace TR
open PySem PySem.Spec PyProof.Rows L2 G
section
variable {P : Program} {w : World} {K : PySem.W.Frag} {mg : Str → Option Value} {base : Heap} {CT CG CM CR CB CC : Addr}
abbrev s_Trace_init : Stmt := inClass (top 72) 0
abbrev N_Trace_init : List Str := ["self", "book", "plan", "place"]
abbrev P_Trace_init : List Str := ["self", "book", "plan", "place"]
theorem sc_Trace_init : FnScope N_Trace_init P_Trace_init (defScope s_Trace_init) := ⟨rfl, rfl, rfl, by decide +kernel, rfl, by decide +kernel, by decide +kernel⟩
theorem bn_Trace_init : BindsNo "__init__" "Trace.__init__" s_Trace_init P_Trace_init := fun _ _ _ _ _ _ us hl => match us, hl with | [_, _, _, _], _ => rfl
def sp_Trace_init (CB CM CG CT CC : Addr) : Sp := fun vs H Q _ => ∃ (F H0 : Hp) (x dx a ts : Addr) (bdx : Addr) (pw tv fv rv : V) (ad : Ad) (d : BookD) (z : Str), vs = [.ref x, .ref a, pw, .str z] ∧ New CC F H0 H x dx ∧ BookAt CB CM CG CT d (.ref a) F a bdx ts tv fv rv ad ∧ BkOk d ∧ z ∈ d.pl ∧
  ∀ F' H' es er sv, RSt.rel (spotN d.md z, []) sv F' → es ≠ er → Own F H0 F' H' [(er, .dK []), (es, .dK []), (x, .ins CC dx (trFs ⟨x, es, er, rv, pw, sv⟩ .non))] → Q .non H'
theorem ok_Trace_init (B : Bt mg) (BK : KlF K mg "Book" CB bookNames) (RM : KlF K mg "RingMap" CM mapNames) (TC : KlF K mg "Trace" CC trNames) (F : MkF K mg "Trace" CC "Trace.__init__" s_Trace_init []) : Mak P w K mg base 1 "Trace" CC (sp_Trace_init CB CM CG CT CC) := by
  refine F.mak sc_Trace_init bn_Trace_init (fun vs H Q E h => ?_) (fun f cdv A outer s H vs Q E hr h => ?_)
  · obtain ⟨_, _, _, _, _, _, _, _, _, _, _, _, _, _, rfl, _⟩ := h
    rfl
  · obtain ⟨F, H0, x, dx, a, ts, bdx, pw, tv, fv, rv, ad, d, z, rfl, nw, hb, bo, hz, k⟩ := h
    have w0 := nw.own
    obtain ⟨mx, hmo⟩ := hb.ri.ob
    obtain ⟨_, hso, rfl⟩ := hb.ri.at_ .spotOf trivial
    have erv := hb.ri.ev
    obtain ⟨v1, m1⟩ := bo.spot hz
    refine ⟨_, (pss_cons (ps_fld (pv 0) (k_fld (pv 1) (K := K)) rfl)
    (pss_cons (ps_fld (pv 0) (pv 2) rfl)
    (pss_cons (ps_fld (pv 0) (pe_tup (pa_cons (pe_dget (hu_of hr) (k_fld (k_fld (pv 1) (K := K)) (K := K)) (pv 3) (fun _ _ => rfl)) (pa_cons (pe_tup pa_nil) pa_nil))) rfl)
    (pss_cons (ps_fld (pv 0) pe_dnewK rfl)
    (pss_cons (ps_fld (pv 0) pe_dnewK rfl)
    (pss_one (ps_fld (pv 0) pe_non rfl))))))), ?_⟩
    refine ⟨_, rfl, a, CB, bdx, _, _, rfl, w0.sub _ _ hb.ob, BK.cl, BK.no _ (by decide), rfl, _, rfl, st_fld w0 TC.cl (TC.no _ (by decide)) 0 [] rfl rfl (by decide +kernel) (by decide) fun w1 => ?_⟩
    refine ⟨_, rfl, _, rfl, st_fld w1 TC.cl (TC.no _ (by decide)) 0 ["rings"] rfl rfl (by decide +kernel) (by decide) fun w2 => ?_⟩
    refine ⟨_, rfl, a, CB, bdx, _, _, rfl, w2.sub _ _ hb.ob, BK.cl, BK.no _ (by decide), rfl, ad .map, CM, mx, _, _, erv, w2.sub _ _ hmo, RM.cl, RM.no _ (by decide), rfl, _, rfl, ad .spotOf, _, rfl, v1 ▸ DGet.k (k := Sum.inr z) (w2.sub _ _ hso), sz (n := 0) (by decide), fun q hq => ?_⟩
    have w3 := w2.add (o := .tup []) hq
    refine ⟨sz (n := 2) (by decide), fun r hr2 => ?_⟩
    have w4 := w3.add (o := .tup [.int (spotN d.md z : Nat), .ref q]) hr2
    have rs : RSt.rel (spotN d.md z, []) (.ref r) (upd (upd F q (.tup [])) r (.tup [.int (spotN d.md z : Nat), .ref q])) := ⟨r, q, rfl, upd_same, q, [], rfl, look_new upd_same (w3.sub.free hr2), .nil⟩
    refine ⟨_, rfl, st_fld w4 TC.cl (TC.no _ (by decide)) 0 ["rings", "plan"] rfl rfl (by decide +kernel) (by decide) fun w5 => ?_⟩
    refine fun es hes => ?_
    have w6 := w5.new (o := .dK []) hes
    refine ⟨_, rfl, st_fld w6 TC.cl (TC.no _ (by decide)) 1 ["rings", "plan", "start"] rfl rfl (by decide +kernel) (by decide) fun w7 => ?_⟩
    refine fun er her => ?_
    have w8 := w7.new (o := .dK []) her
    refine ⟨_, rfl, st_fld w8 TC.cl (TC.no _ (by decide)) 2 ["rings", "plan", "start", "states"] rfl rfl (by decide +kernel) (by decide) fun w9 => ?_⟩
    refine ⟨_, rfl, st_fld w9 TC.cl (TC.no _ (by decide)) 2 ["rings", "plan", "start", "states", "runs"] rfl rfl (by decide +kernel) (by decide) fun w10 => ?_⟩
    exact k _ _ es er (.ref r) rs (w10.ne (i := 1) (j := 0) rfl rfl (by decide)) w10
end
end TR

/-! part M21 -/
/-! An arrow followed. -/
namespace TR
open PySem PySem.Spec PyProof.Rows L2 G
def badFar (m far : Int) : Bool := if m = 0 then !decide (far = 0) else !decide (far % m = 0)
abbrev UnD := Option (Str × RunL × RunL)
def spinU (m first : Int) (o : Str) (run : RunL) (i : Nat) (u : UnD) (z : Int) : UnD := if badFar m (z - first) = true ∧ u = none then some (o, run ++ [((i : Int), first)], run ++ [((i : Int), z)]) else u
def followD (ks : Kinds) (md : MapD) (r : ArrD) (i : Nat) (st : StD) (run : RunL) (d : TrD) : TrD :=
  arriveD { d with un := (sampL r.num).foldl (spinU (modAt ks md st r.name) (nr0 r.num) r.other run i) d.un } r.other (beyondM ks md st (r.name, nr0 r.num)) (run ++ [((i : Int), nr0 r.num)])
structure TrOk (ks : Kinds) (md : MapD) (d : TrD) : Prop where
  sp : ∀ q ∈ d.st, q.2.1 ∈ md.spots
  nm : ∀ q ∈ d.st, ∀ e ∈ q.2.2, e.1 ∈ ks.map (·.1)
  ls : ∀ q ∈ d.st, q.2.2.length ≤ 9000
  lr : ∀ q ∈ d.ru, q.2.length ≤ 9000
theorem fromSpot_names {md : MapD} {s : Nat} {n : Str} {e : Int} : ∀ c ∈ (fromSpot md s n e).2, c.1 = n := by
  unfold fromSpot
  split
  · intro c hc; cases hc
  · split
    · intro c hc; cases hc
    · intro c hc
      rw [List.mem_singleton.mp hc]
theorem keptS_names {ks : Kinds} {n : Str} {e : Int} : ∀ c ∈ keptS ks n e, c.1 = n := by
  unfold keptS
  split
  · intro c hc; cases hc
  · intro c hc
    rw [List.mem_singleton.mp hc]
theorem beyond_names {ks : Kinds} {md : MapD} {st : StD} {n : Str} {e : Int} (h : ∀ c ∈ st.2, c.1 ∈ ks.map (·.1)) (hn : n ∈ ks.map (·.1)) : ∀ c ∈ (beyondM ks md st (n, e)).2, c.1 ∈ ks.map (·.1) := by
  unfold beyondM
  split
  · intro c hc
    rw [fromSpot_names c hc]
    exact hn
  · split
    · split
      · intro c hc
        rcases List.mem_append.mp hc with y | y
        · exact h c (List.dropLast_subset _ y)
        · rw [keptS_names c y]; exact hn
      · intro c hc
        rw [fromSpot_names c hc]
        exact hn
    · intro c hc
      rcases List.mem_append.mp hc with y | y
      · exact h c y
      · rw [keptS_names c y]; exact hn
section
variable {P : Program} {w : World} {K : PySem.W.Frag} {mg : Str → Option Value} {base : Heap} {CT CG CM CR CB CC CN CP : Addr}
theorem far_ok {σ : L2.St} {H : Hp} {m far : Int} {Q : Bool → Hp → Prop} (h9 : σ[9]? = some (some (.int m))) (h12 : σ[12]? = some (some (.int far))) (hm : 0 ≤ m) (q : Q (badFar m far) H) :
    tIfT (tTest (tOp (rEqU K) (tVar 9) (tC (V.int 0)))) (tTest (tOp (rNeU K) (tVar 12) (tC (V.int 0)))) (tTest (tOp (rNeU K) (tOp (rI (fun _ j => 0 < j) fun i j => V.int (i % j)) (tVar 12) (tVar 9)) (tC (V.int 0)))) σ H Q := by
  have vi : ∀ i j : Int, decide (V.int i = V.int j) = decide (i = j) := fun i j => by
    by_cases h : i = j
    · rw [h]; simp
    · rw [decide_eq_false h, decide_eq_false (fun z => h (by injection z))]
  refine ⟨_, h9, .inl ⟨rfl, _, rfl, ?_⟩⟩
  rw [vi]
  unfold badFar at q
  by_cases c : m = 0
  · rw [if_pos c] at q
    rw [decide_eq_true c]
    refine iteT ⟨_, h12, .inl ⟨rfl, _, rfl, ?_⟩⟩
    rw [vi]
    exact q
  · rw [if_neg c] at q
    rw [decide_eq_false c]
    refine iteF ⟨_, h12, _, h9, _, _, rfl, rfl, (by show 0 < m; omega), .inl ⟨rfl, _, rfl, ?_⟩⟩
    rw [vi]
    exact q
theorem snoc_ok {F S H : Hp} (d : Sp2 F S H) {σ : L2.St} {lr : Addr} {rxs : List V} {run : RunL} {j8 j1 je : Nat} {i e : Int} {Q : VK} (h8 : σ[j8]? = some (some (.ref lr))) (h1 : σ[j1]? = some (some (.int i))) (he : σ[je]? = some (some (.int e)))
    (hl : F lr = some (.lst rxs)) (pd : Paired (fun d x => RPr.rel d x F) run rxs) (len : run.length ≤ 9000) (k : ∀ L F' H', Mu F S H F' S H' → RLs.rel (run ++ [(i, e)]) (.ref L) F' → Q (.ref L) H') :
    tLst (StX.tStar K (tVar j8) (tCons (tTup (tCons (tVar j1) (tCons (tVar je) tNil))) tNil)) σ H Q := by
  have hxl : rxs.length = run.length := pd_len pd
  refine ⟨_, h8, lr, rxs, rfl, .inr (SqL.of (d.sf _ _ hl)), _, h1, _, he, sz (n := 2) (by decide), fun q hq => ?_⟩
  have u1 := Mu.newF d (o := .tup [.int i, .int e]) hq
  have s1 := Same.new (o := .tup [.int i, .int e]) (d.nF hq)
  refine ⟨sz (by simp only [List.length_append, List.length_cons, List.length_nil]; omega), fun L hL => ?_⟩
  have u2 := u1.trans (Mu.newF u1.d1 (o := .lst (rxs ++ [.ref q])) hL)
  have s2 := Same.new (o := .lst (rxs ++ [.ref q])) (u1.d1.nF hL)
  exact k L _ _ u2 ⟨L, _, rfl, upd_same, pd_snoc (pd_mono (fun _ _ => RPr.mono (s1.trans s2)) pd) ⟨q, _, _, rfl, s2 _ _ upd_same, rfl, rfl⟩⟩
abbrev s_Trace_follow : Stmt := inClass (top 72) 2
abbrev N_Trace_follow : List Str := ["self", "index", "waiting", "one", "name", "among", "other", "state", "run", "modulus", "first", "member", "far"]
abbrev P_Trace_follow : List Str := ["self", "index", "waiting"]
theorem sc_Trace_follow : FnScope N_Trace_follow P_Trace_follow (defScope s_Trace_follow) := ⟨rfl, rfl, rfl, by decide +kernel, rfl, by decide +kernel, by decide +kernel⟩
theorem bn_Trace_follow : BindsNo "follow" "Trace.follow" s_Trace_follow P_Trace_follow := fun _ _ _ _ _ _ us hl => match us, hl with | [_, _, _], _ => rfl
def sp_follow (CM CG CT CN CP CC : Addr) : Sp := fun vs H Q _ => ∃ (F S : Hp) (p : TrP) (d : TrD) (ks : Kinds) (md : MapD) (tw : V) (ad : Ad) (pd : PlanD) (ws : List Str) (wl : Addr) (r : ArrD) (i : Nat) (st : StD) (run : RunL),
  vs = [.ref p.x, .int (i : Nat), .ref wl] ∧ Sp2 F S H ∧ TrAt CC p d F S ∧ S wl = some (.lst (ws.map V.str)) ∧ ws.length ≤ 10000 ∧ RMapAt CM CG md p.rv tw ad F ∧ (RTurns CT).rel ks tw F ∧ Full ks md ∧ KOk ks ∧ (RPlan CT CN CP).rel pd p.pv F ∧
  pd.ds[i]? = some r ∧ r.name ∈ ks.map (·.1) ∧ NumB r.num ∧ neB r.num = true ∧ TrOk ks md d ∧ d.st.lookup r.one = some st ∧ d.ru.lookup r.one = some run ∧ 0 ≤ modAt ks md st r.name ∧ d.st.length ≤ 1000 ∧
  ∀ F' S' H', Mu F S H F' S' H' → TrAt CC p (followD ks md r i st run d) F' S' → S' wl = some (.lst ((if (d.st.lookup r.other).isNone = true then ws ++ [r.other] else ws).map V.str)) → (∀ a, a ≠ wl → a ≠ p.x → a ≠ p.es → a ≠ p.er → S' a = S a) → Q .non H'
theorem ok_follow (B : Bt mg) (PL : KlF K mg "Plan" CP ["turns", "stations", "arrows", "begin", "end"]) (TC : KlF K mg "Trace" CC trNames) (c_modulus_at : Cal P w K mg base 3 "modulus_at" (sp_modulus_at CM CG CT)) (c_beyond : Cal P w K mg base 4 "beyond" (sp_beyond CM CG CT)) (m_nearest : Met P w K mg base 2 CN "nearest" (sp_nearest CN))
    (m_samples : Met P w K mg base 1 CN "samples" (sp_samples CN)) (m_arrive : Met P w K mg base 1 CC "arrive" (sp_arrive CC)) (F : MtF K CC "follow" "Trace.follow" s_Trace_follow []) : Met P w K mg base 5 CC "follow" (sp_follow CM CG CT CN CP CC) := by
  refine F.met TC.cl sc_Trace_follow bn_Trace_follow (fun vs H Q E h => ?_) (fun f cdv A outer s H vs Q E hr h => ?_)
  · obtain ⟨_, _, _, _, _, _, _, _, _, _, _, _, _, _, _, rfl, _⟩ := h
    rfl
  · obtain ⟨F, S, p, d, ks, md, tw, ad, pd, ws, wl, r, i, st, run, rfl, d2, tr, hw, hwl, rm, rt, fl, ok, rp, hr1, hnm, hnb, hne, tok, hst, hru, hm0, hdl, k⟩ := h
    refine ⟨_, (pss_cons (ps_asg (pe_ix (k_ix (K := K)) (k_fld (k_fld (pv 0) (K := K)) (K := K)) (pv 1) (fun _ _ => rfl)) (k_tup (n := 4) rfl (pgs_cons (pg_name (i := 3) sc_Trace_follow.nd rfl (Or.inl rfl)) (pgs_cons (pg_name (i := 4) sc_Trace_follow.nd rfl (Or.inl rfl)) (pgs_cons (pg_name (i := 5) sc_Trace_follow.nd rfl (Or.inl rfl)) (pgs_cons (pg_name (i := 6) sc_Trace_follow.nd rfl (Or.inl rfl)) pgs_nil)))) (K := K)))
    (pss_cons (ps_par (i := 7) (j := 8) (by rfl) sc_Trace_follow.nd rfl rfl (by decide) rfl rfl (pa_cons (pe_dget (hu_of hr) (k_fld (pv 0) (K := K)) (pv 3) (fun _ _ => rfl)) (pa_cons (pe_dget (hu_of hr) (k_fld (pv 0) (K := K)) (pv 3) (fun _ _ => rfl)) pa_nil)) (by rfl))
    (pss_cons (ps_set (i := 9) sc_Trace_follow.nd rfl (Or.inl rfl) (pe_c c_modulus_at hr (by decide) (pa_cons (k_fld (pv 0) (K := K)) (pa_cons (pv 7) (pa_cons (pv 4) pa_nil))) passL))
    (pss_cons (ps_set (i := 10) sc_Trace_follow.nd rfl (Or.inl rfl) (pe_m m_nearest hr (by decide) (pv 5) (pa_cons pe_int pa_nil) passL))
    (pss_cons (ps_for (passes_of rfl) rfl (k_il (pe_m0 m_samples hr (by decide) (pv 5) passL) (K := K)) (pg_name (i := 11) sc_Trace_follow.nd rfl (Or.inl rfl))
    (pss_cons (ps_set (i := 12) sc_Trace_follow.nd rfl (Or.inl rfl) (pe_op op_sub (pv 11) (pv 10)))
    (pss_one (ps_if (PW.pt (pw_and (pt_ifE (pt_cmpR (op_eqU hr (K := K)) (pv 9) pe_int (nomark _)) (pt_cmpR (op_neU hr (K := K)) (pv 12) pe_int (nomark _)) (pt_cmpR (op_neU hr (K := K)) (pe_op op_mod (pv 12) (pv 9)) pe_int (nomark _))) (pw_and1 (pt_cmpR op_isN (k_fld (pv 0) (K := K)) pe_non (nomark _))))) (pss_one (ps_fld (pv 0) (pe_tup (pa_cons (pv 6) (pa_cons (pe_lst (k_star (pv 8) (pa_cons (pe_tup (pa_cons (pv 1) (pa_cons (pv 10) pa_nil))) pa_nil) (K := K))) (pa_cons (pe_lst (k_star (pv 8) (pa_cons (pe_tup (pa_cons (pv 1) (pa_cons (pv 11) pa_nil))) pa_nil) (K := K))) pa_nil)))) rfl)) pss_nil))))
    (pss_one (ps_if (pt_val (pe_m m_arrive hr (by decide) (pv 0) (pa_cons (pv 6) (pa_cons (pe_c c_beyond hr (by decide) (pa_cons (k_fld (pv 0) (K := K)) (pa_cons (pv 7) (pa_cons (pe_tup (pa_cons (pv 4) (pa_cons (pv 10) pa_nil))) pa_nil))) passL) (pa_cons (pe_lst (k_star (pv 8) (pa_cons (pe_tup (pa_cons (pv 1) (pa_cons (pv 10) pa_nil))) pa_nil) (K := K))) pa_nil))) passL)) (pss_one (ps_expr (pe_bm PySem.F.plainAttrs_list PySem.F.slot_list_append PySem.F.type_list_append mt_append (pv 2) (pa_cons (pv 6) pa_nil)))) pss_nil))))))), ?_⟩
    obtain ⟨dx, uv, h0, hu⟩ := tr.ob
    obtain ⟨ka, h1, kd⟩ := tr.st
    obtain ⟨kr, h2, kd2⟩ := tr.ru
    obtain ⟨a, pdx, ts, ta, tv, hp⟩ := id rp
    obtain ⟨_, as, eta, hta, pda⟩ := hp.ar
    cases eta
    obtain ⟨y, hy, b2, nv, hx2⟩ := pd_get' pda hr1
    obtain ⟨sv, hsv, rs⟩ := kd.get hst
    obtain ⟨rv, hrv, rr⟩ := kd2.get hru
    obtain ⟨lr, rxs, rfl, hlr, prx⟩ := id rr
    have hrl : rxs.length = run.length := pd_len prx
    have sF := d2.sf
    obtain ⟨na, ndx, lc, lsn, hn⟩ := id hx2.nu
    refine stp [some (.ref p.x), some (.int (i : Nat)), some (.ref wl), none, none, none, none, none, none, none, none, none, none] rfl fun N hN => ?_
    refine ⟨_, rfl, p.x, CC, dx, _, _, rfl, d2.ss _ _ h0, TC.cl, TC.no _ (by decide), rfl, a, CP, pdx, _, _, hp.ev, sF _ _ hp.ob, PL.cl, PL.no _ (by decide), rfl, _, rfl, .inr (.inl ⟨ta, as, _, y, rfl, rfl, SqT.of (sF _ _ hta), atI_nat hy, ?_⟩)⟩
    refine ⟨b2, _, hx2.ev, SqT.of (sF _ _ hx2.ob), rfl, _, _, rfl, _, _, rfl, _, _, rfl, _, _, rfl, rfl, ?_⟩
    refine hN _ _ ?_
    clear hN
    refine stp [some (.ref p.x), some (.int (i : Nat)), some (.ref wl), some (.str r.one), some (.str r.name), some nv, some (.str r.other), none, none, none, none, none, none] rfl fun N hN => ?_
    refine ⟨_, rfl, p.x, CC, dx, _, _, rfl, d2.ss _ _ h0, TC.cl, TC.no _ (by decide), rfl, _, rfl, p.es, sv, rfl, hsv ▸ DGet.k (k := Sum.inr r.one) (d2.ss _ _ h1), _, rfl, p.x, CC, dx, _, _, rfl, d2.ss _ _ h0, TC.cl, TC.no _ (by decide), rfl, _, rfl, p.er, .ref lr, rfl, hrv ▸ DGet.k (k := Sum.inr r.one) (d2.ss _ _ h2), _, _, rfl, ?_⟩
    refine hN _ _ ?_
    clear hN
    refine stp [some (.ref p.x), some (.int (i : Nat)), some (.ref wl), some (.str r.one), some (.str r.name), some nv, some (.str r.other), some sv, some (.ref lr), none, none, none, none] rfl fun N hN => ?_
    refine ⟨_, rfl, p.x, CC, dx, _, _, rfl, d2.ss _ _ h0, TC.cl, TC.no _ (by decide), rfl, _, rfl, _, rfl, F, ks, md, p.rv, sv, tw, ad, st, r.name, rfl, sF, rm, rt, fl, rs, tok.sp _ (mem_of_look hst), hnm, fun H1 s1 => ?_⟩
    have u1 := Mu.tmp d2 s1
    generalize hmm : modAt ks md st r.name = m at *
    refine hN _ _ ?_
    clear hN
    refine stp [some (.ref p.x), some (.int (i : Nat)), some (.ref wl), some (.str r.one), some (.str r.name), some nv, some (.str r.other), some sv, some (.ref lr), some (.int m), none, none, none] rfl fun N hN => ?_
    refine ⟨_, rfl, na, ndx, _, hn.ev, u1.d1.sf _ _ hn.ob, rfl, F, nv, 0, r.num, rfl, u1.d1.sf, hx2.nu, hnb, big0, fun H2 s2 => ?_⟩
    have u2 := u1.trans (Mu.tmp u1.d1 s2)
    rw [(nr0_ok hn.pos hne).1]
    refine hN _ _ ?_
    clear hN
    refine stp [some (.ref p.x), some (.int (i : Nat)), some (.ref wl), some (.str r.one), some (.str r.name), some nv, some (.str r.other), some sv, some (.ref lr), some (.int m), some (.int (nr0 r.num)), none, none] rfl fun N hN => ?_
    refine ⟨_, rfl, na, ndx, _, hn.ev, u2.d1.sf _ _ hn.ob, rfl, F, nv, r.num, rfl, u2.d1.sf, hx2.nu, hnb, fun lz F3 H3 pu3 hzl hlz => ?_⟩
    generalize hzs : sampL r.num = zs at *
    have u3 := u2.trans (Mu.pure u2.d1 pu3)
    refine ⟨lz, rfl, ⟨_, SqL.of (u3.d1.sf _ _ hlz)⟩, ?_⟩
    have tr3 : TrAt CC p d F3 S := tr.ff pu3.ff
    refine for_it (walk_list (xs := zs.map V.int)) (fun j σ H' => ∃ (F' S' : Hp) (x11 x12 : Option V), Mu F S H F' S' H' ∧ Same F3 F' ∧ TrAt CC p { d with un := (zs.take j).foldl (spinU m (nr0 r.num) r.other run i) d.un } F' S' ∧ Beside p S S' ∧ σ = [some (.ref p.x), some (.int (i : Nat)), some (.ref wl), some (.str r.one), some (.str r.name), some nv, some (.str r.other), some sv, some (.ref lr), some (.int m), some (.int (nr0 r.num)), x11, x12])
      ⟨F3, S, none, none, u3, Same.refl _, tr3, (fun _ _ _ _ => rfl), rfl⟩ (fun j σ H' _ ⟨F', S', _, _, u, s, _⟩ => SqL.of (u.d1.sf _ _ (s _ _ hlz))) ?_ ?_
    · rintro j y' σ H4 H5 hj ⟨F4, S4, x11, x12, u4, s4, tr4, be4, rfl⟩ ⟨e1, hy'⟩
      subst e1
      rw [List.getElem?_map] at hy'
      obtain ⟨z, hz, rfl⟩ := Option.map_eq_some_iff.mp hy'
      obtain ⟨dx4, uv4, g0, gu⟩ := tr4.ob
      have hfold : (zs.take (j + 1)).foldl (spinU m (nr0 r.num) r.other run i) d.un = spinU m (nr0 r.num) r.other run i ((zs.take j).foldl (spinU m (nr0 r.num) r.other run i) d.un) z := by rw [take_snoc hz, List.foldl_append]; rfl
      rw [hfold]
      clear hfold
      generalize (zs.take j).foldl (spinU m (nr0 r.num) r.other run i) d.un = un4 at *
      refine stp [some (.ref p.x), some (.int (i : Nat)), some (.ref wl), some (.str r.one), some (.str r.name), some nv, some (.str r.other), some sv, some (.ref lr), some (.int m), some (.int (nr0 r.num)), some (.int z), x12] rfl fun N5 hN5 => ?_
      refine ⟨_, rfl, _, rfl, _, _, rfl, rfl, ?_⟩
      refine hN5 _ _ ?_
      clear hN5
      refine stq [some (.ref p.x), some (.int (i : Nat)), some (.ref wl), some (.str r.one), some (.str r.name), some nv, some (.str r.other), some sv, some (.ref lr), some (.int m), some (.int (nr0 r.num)), some (.int z), some (.int (z - nr0 r.num))] rfl ?_
      refine far_ok rfl rfl hm0 ?_
      cases hb : badFar m (z - nr0 r.num) with
      | false =>
        refine iteF (iteF ?_)
        refine ⟨F4, S4, _, _, u4, s4, ?_, be4, rfl⟩
        rw [show spinU m (nr0 r.num) r.other run i un4 z = un4 by unfold spinU; exact if_neg fun q => by rw [hb] at q; cases q.1]
        exact tr4
      | true =>
        refine iteT ⟨_, rfl, p.x, CC, dx4, _, _, rfl, u4.d1.ss _ _ g0, TC.cl, TC.no _ (by decide), rfl, rfl, _, rfl, ?_⟩
        cases un4 with
        | some uu =>
          obtain ⟨v1, v2, v3⟩ := uu
          obtain ⟨tu, xu, yu, rfl, _⟩ := gu
          rw [decide_eq_false (by intro q; cases q)]
          refine iteF ⟨F4, S4, _, _, u4, s4, ?_, be4, rfl⟩
          rw [show spinU m (nr0 r.num) r.other run i (some (v1, v2, v3)) z = some (v1, v2, v3) by unfold spinU; exact if_neg fun q => by cases q.2]
          exact tr4
        | none =>
          have hu4 : uv4 = .non := gu
          rw [decide_eq_true hu4]
          refine iteT ?_
          have s34 : Same F F4 := pu3.ff.trans s4
          have prx4 := pd_mono (fun _ _ => RPr.mono s34) prx
          have hrn := tok.lr _ (mem_of_look hru)
          refine ⟨_, rfl, snoc_ok u4.d1 rfl rfl rfl (s34 _ _ hlr) prx4 hrn fun L1 F6 H6 u6 r6 => ?_⟩
          have u46 := u4.trans u6
          refine snoc_ok u46.d1 rfl rfl rfl (u46.ff _ _ hlr) (pd_mono (fun _ _ => RPr.mono u46.ff) prx) hrn fun L2 F7 H7 u7 r7 => ?_
          have u47 := u46.trans u7
          refine ⟨sz (n := 3) (by decide), fun q hq => ?_⟩
          have u8 := u47.trans (Mu.newF u47.d1 (o := .tup [.str r.other, .ref L1, .ref L2]) hq)
          have s8 := Same.new (o := .tup [.str r.other, .ref L1, .ref L2]) (u47.d1.nF hq)
          refine ⟨_, rfl, p.x, CC, dx4, _, rfl, u8.d1.ss _ _ g0, TC.cl, TC.no _ (by decide), (show 6 < 1000 by decide), ?_⟩
          rw [put_unlike]
          have u9 := u8.trans (Mu.put u8.d1 (o' := .ins CC dx4 (trFs p (.ref q))) g0)
          obtain ⟨ka4, g1, kd4⟩ := tr4.st
          obtain ⟨kr4, g2, kd5⟩ := tr4.ru
          have s48 : Same F4 (upd F7 q (.tup [.str r.other, .ref L1, .ref L2])) := (u6.ff.trans u7.ff).trans s8
          refine ⟨_, _, _, _, u9, s4.trans s48, ?_, fun a n1 n2 n3 => (upd_ne n1).trans (be4 a n1 n2 n3), rfl⟩
          rw [show spinU m (nr0 r.num) r.other run i none z = some (r.other, run ++ [((i : Int), nr0 r.num)], run ++ [((i : Int), z)]) by unfold spinU; exact if_pos ⟨hb, rfl⟩]
          refine ⟨⟨dx4, .ref q, upd_same, ⟨q, _, _, rfl, upd_same, RLs.mono (u7.ff.trans s8) r6, RLs.mono s8 r7⟩⟩, ⟨ka4, ?_, kd4.mono s48⟩, ⟨kr4, ?_, kd5.mono s48⟩, tr4.ne, tr4.ks⟩
          · rw [upd_ne (fun e => by rw [e, g0] at g1; cases g1)]
            exact g1
          · rw [upd_ne (fun e => by rw [e, g0] at g2; cases g2)]
            exact g2
    · rintro σ H4 ⟨F4, S4, x11, x12, u4, s4, tr4, be4, rfl⟩
      rw [List.length_map, List.take_length] at tr4
      refine hN _ _ ?_
      clear hN
      refine stq [some (.ref p.x), some (.int (i : Nat)), some (.ref wl), some (.str r.one), some (.str r.name), some nv, some (.str r.other), some sv, some (.ref lr), some (.int m), some (.int (nr0 r.num)), x11, x12] rfl ?_
      obtain ⟨dx4, uv4, g0, gu⟩ := tr4.ob
      have s34 : Same F F4 := pu3.ff.trans s4
      have hnl : run.length ≤ 9000 := tok.lr _ (mem_of_look hru)
      have hkey : ∀ z ∈ ks.map (·.1), nameOk z = true := fun z hz => by
        obtain ⟨q, hq, rfl⟩ := List.mem_map.mp hz
        exact (ok.nm q hq).1
      have nwx : wl ≠ p.x := fun e => by rw [e, h0] at hw; cases hw
      have nws : wl ≠ p.es := fun e => by rw [e, h1] at hw; cases hw
      have nwr : wl ≠ p.er := fun e => by rw [e, h2] at hw; cases hw
      refine ⟨_, rfl, p.x, dx4, _, rfl, u4.d1.ss _ _ g0, rfl, _, rfl, _, rfl, p.x, CC, dx4, _, _, rfl, u4.d1.ss _ _ g0, TC.cl, TC.no _ (by decide), rfl, _, rfl, _, rfl, _, rfl, sz (n := 2) (by decide), fun q hq => ?_⟩
      have u5 := u4.trans (Mu.newF u4.d1 (o := .tup [.str r.name, .int (nr0 r.num)]) hq)
      have s45 := Same.new (o := .tup [.str r.name, .int (nr0 r.num)]) (u4.d1.nF hq)
      have s35 := s34.trans s45
      refine ⟨_, ks, md, p.rv, sv, .ref q, tw, ad, st, (r.name, nr0 r.num), rfl, u5.d1.sf, rm.mono s35, (RTurns CT).mono s35 rt, fl, RSt.mono s35 rs, ⟨q, _, _, rfl, upd_same, rfl, rfl⟩, tok.sp _ (mem_of_look hst), hnm, Nat.le_trans (tok.ls _ (mem_of_look hst)) (by decide), fun rb F6 H6 pu6 rbs => ?_⟩
      have u6 := u5.trans (Mu.pure u5.d1 pu6)
      have s36 := s35.trans pu6.ff
      refine snoc_ok u6.d1 rfl rfl rfl (s36 _ _ hlr) (pd_mono (fun _ _ => RPr.mono s36) prx) hnl fun L F7 H7 u7 r7 => ?_
      have u67 := u6.trans u7
      refine ⟨F7, S4, p, { d with un := zs.foldl (spinU m (nr0 r.num) r.other run i) d.un }, r.other, beyondM ks md st (r.name, nr0 r.num), _, rb, .ref L, rfl, u67.d1, tr4.ff ((s45.trans pu6.ff).trans u7.ff), RSt.mono u7.ff rbs, r7, fun e he => hkey _ (beyond_names (tok.nm _ (mem_of_look hst)) hnm e he), fun q hq e he => hkey _ (tok.nm q hq e he), (by show d.st.length ≤ 10000; omega), fun F8 S8 H8 u8 tr8 be8 => ⟨_, rfl, ?_⟩⟩
      have u68 := u67.trans u8
      have hfd : arriveD { d with un := zs.foldl (spinU m (nr0 r.num) r.other run i) d.un } r.other (beyondM ks md st (r.name, nr0 r.num)) (run ++ [((i : Int), nr0 r.num)]) = followD ks md r i st run d := by
        unfold followD
        rw [hmm, hzs]
      rw [hfd] at tr8
      have hw8 : S8 wl = some (.lst (ws.map V.str)) := by rw [be8 wl nwx nws nwr, be4 wl nwx nws nwr]; exact hw
      cases hl : (d.st.lookup r.other).isNone with
      | false =>
        refine iteF ?_
        refine k _ _ _ u68 tr8 ?_ (fun a _ n1 n2 n3 => (be8 a n1 n2 n3).trans (be4 a n1 n2 n3))
        rw [hl]
        exact hw8
      | true =>
        refine iteT ?_
        refine ⟨_, rfl, .inl ⟨rfl, _, SqL.of (u68.d1.ss _ _ hw8)⟩, _, rfl, wl, _, _, rfl, rfl, u68.d1.ss _ _ hw8, szl (by rw [List.length_map]; omega), ?_⟩
        have u9 := u68.trans (Mu.put u68.d1 (o' := .lst (ws.map V.str ++ [.str r.other])) hw8)
        refine k _ _ _ u9 ?_ ?_ (fun a n0 n1 n2 n3 => (upd_ne n0).trans ((be8 a n1 n2 n3).trans (be4 a n1 n2 n3)))
        · obtain ⟨dx8, uv8, q0, qu⟩ := tr8.ob
          obtain ⟨ka8, q1, kd8⟩ := tr8.st
          obtain ⟨kr8, q2, kd9⟩ := tr8.ru
          exact ⟨⟨dx8, uv8, (upd_ne (Ne.symm nwx)).trans q0, qu⟩, ⟨ka8, (upd_ne (Ne.symm nws)).trans q1, kd8⟩, ⟨kr8, (upd_ne (Ne.symm nwr)).trans q2, kd9⟩, tr8.ne, tr8.ks⟩
        · rw [hl, if_pos rfl, List.map_append]
          exact upd_same
end
end TR

/-! part M22 -/
/-! All arrows followed. -/
namespace TR
open PySem PySem.Spec PyProof.Rows L2 G
theorem fromSpot_mem {ks : Kinds} {md : MapD} (f : Full ks md) (wf : WfM md) {s : Nat} {n : Str} {e : Int} (hs : s ∈ md.spots) (hn : n ∈ ks.map (·.1)) : (fromSpot md s n e).1 ∈ md.spots ∧ (fromSpot md s n e).2.length ≤ 1 := by
  obtain ⟨d, hl, ht, hse⟩ := f.one s hs n hn
  have hd : d.1 < md.drawn := wf.ly s n (f.lt s hs) (by rw [f.has s hs]; exact hn) d (by rw [hl]; exact List.mem_singleton.mpr rfl)
  unfold fromSpot
  rw [hl]
  simp only [List.head?_cons]
  split
  · rename_i g hg
    obtain ⟨q, hq, rfl⟩ := spotAt_mem hg
    exact ⟨f.se _ hd q hq, Nat.zero_le _⟩
  · refine ⟨?_, Nat.le_refl _⟩
    show firstOf md d.1 ∈ md.spots
    unfold firstOf
    have hm : s ∈ (md.ring d.1).seats.map (·.1) := List.mem_map.mpr ⟨_, hse, rfl⟩
    cases hmin : ((md.ring d.1).seats.map (·.1)).min? with
    | none =>
      rw [List.min?_eq_none_iff.mp hmin] at hm
      cases hm
    | some x =>
      have := List.min?_mem hmin
      obtain ⟨q, hq, rfl⟩ := List.mem_map.mp this
      exact f.se _ hd q hq
theorem keptS_len {ks : Kinds} {n : Str} {e : Int} : (keptS ks n e).length ≤ 1 := by
  unfold keptS
  split
  · exact Nat.zero_le _
  · exact Nat.le_refl _
theorem beyond_ok {ks : Kinds} {md : MapD} (f : Full ks md) (wf : WfM md) {st : StD} {n : Str} {e : Int} (hs : st.1 ∈ md.spots) (hn : n ∈ ks.map (·.1)) : (beyondM ks md st (n, e)).1 ∈ md.spots ∧ (beyondM ks md st (n, e)).2.length ≤ st.2.length + 1 := by
  have sp : ∀ e', (fromSpot md st.1 n e').1 ∈ md.spots ∧ (fromSpot md st.1 n e').2.length ≤ st.2.length + 1 := fun e' => ⟨(fromSpot_mem f wf hs hn).1, Nat.le_trans (fromSpot_mem (e := e') f wf hs hn).2 (by omega)⟩
  unfold beyondM
  split
  · exact sp _
  · rename_i l hl
    split
    · split
      · refine ⟨hs, ?_⟩
        show (st.2.dropLast ++ keptS ks n (l.2 + e)).length ≤ st.2.length + 1
        rw [List.length_append, List.length_dropLast]
        have := keptS_len (ks := ks) (n := n) (e := l.2 + e)
        omega
      · exact sp _
    · refine ⟨hs, ?_⟩
      show (st.2 ++ keptS ks n e).length ≤ st.2.length + 1
      rw [List.length_append]
      exact Nat.add_le_add_left keptS_len _
abbrev RunC := TrD × List Str
def arrowStep (ks : Kinds) (md : MapD) (us : List Str) (s : Str) (c : RunC) (q : ArrD × Nat) : RunC :=
  if q.1.one = s ∧ q.1.other ∈ us ∧ neB q.1.num = true then (followD ks md q.1 q.2 ((c.1.st.lookup q.1.one).getD (0, [])) ((c.1.ru.lookup q.1.one).getD []) c.1, if (c.1.st.lookup q.1.other).isNone = true then c.2 ++ [q.1.other] else c.2) else c
def stationStep (ks : Kinds) (md : MapD) (ds : List ArrD) (us : List Str) (s : Str) (c : RunC) : RunC := ds.zipIdx.foldl (arrowStep ks md us s) c
def runGo (ks : Kinds) (md : MapD) (ds : List ArrD) (us : List Str) : Nat → RunC → RunC
  | 0, c => c
  | n + 1, c => match c.2 with
    | [] => c
    | s :: r => if c.1.un = none then runGo ks md ds us n (stationStep ks md ds us s (c.1, r)) else c
def runAllM (ks : Kinds) (md : MapD) (pd : PlanD) (st0 : StD) : TrD := if usefulL pd = [] then ⟨[], [], none⟩ else (runGo ks md pd.ds (usefulL pd) pd.st.length (arriveD ⟨[], [], none⟩ pd.b st0 [], [pd.b])).1
/-- a trace under way, with those that wait -/
structure RunOk (ks : Kinds) (md : MapD) (st : List Str) (c : RunC) : Prop where
  nd : (c.1.st.map (·.1)).Nodup
  sub : ∀ z ∈ c.1.st.map (·.1), z ∈ st
  ks_ : c.1.st.map (·.1) = c.1.ru.map (·.1)
  ws : ∀ z ∈ c.2, z ∈ c.1.st.map (·.1)
  sp : ∀ q ∈ c.1.st, q.2.1 ∈ md.spots
  nm : ∀ q ∈ c.1.st, ∀ e ∈ q.2.2, e.1 ∈ ks.map (·.1)
  ls : ∀ q ∈ c.1.st, q.2.2.length < c.1.st.length
  lr : ∀ q ∈ c.1.ru, q.2.length < c.1.ru.length
  wl : c.2.length ≤ c.1.st.length
theorem RunOk.le {ks : Kinds} {md : MapD} {st : List Str} {c : RunC} (h : RunOk ks md st c) : c.1.st.length ≤ st.length := by
  have := List.Subset.length_le_of_nodup' h.nd h.sub
  rwa [List.length_map] at this
theorem RunOk.tr {ks : Kinds} {md : MapD} {st : List Str} {c : RunC} (h : RunOk ks md st c) (hl : st.length ≤ 1000) : TrOk ks md c.1 := by
  have := h.le
  have e := congrArg List.length h.ks_
  rw [List.length_map, List.length_map] at e
  exact ⟨h.sp, h.nm, fun q hq => by have := h.ls q hq; omega, fun q hq => by have := h.lr q hq; omega⟩
theorem arrive_len {d : TrD} {z : Str} {s : StD} {r : RunL} : (arriveD d z s r).st.length = d.st.length + (if (d.st.lookup z).isNone = true then 1 else 0) := by
  unfold arriveD
  cases h : d.st.lookup z with
  | none => simp
  | some t =>
    simp only
    split <;> simp
/-- an arrow followed keeps it right -/
theorem follow_ok {ks : Kinds} {md : MapD} (f : Full ks md) (wf : WfM md) {st : List Str} {d : TrD} {ws : List Str} {r : ArrD} {i : Nat} {s : StD} {run : RunL} (h : RunOk ks md st (d, ws)) (hs : d.st.lookup r.one = some s) (hr : d.ru.lookup r.one = some run) (g : r.other ∈ st) (hn : r.name ∈ ks.map (·.1)) :
    RunOk ks md st (followD ks md r i s run d, if (d.st.lookup r.other).isNone = true then ws ++ [r.other] else ws) ∧ (followD ks md r i s run d).st.length = d.st.length + (if (d.st.lookup r.other).isNone = true then 1 else 0) := by
  refine ⟨?_, arrive_len⟩
  have ms := mem_of_look hs
  have mr := mem_of_look hr
  have hb := beyond_ok (e := nr0 r.num) f wf (h.sp _ ms) hn
  have hbn := beyond_names (md := md) (e := nr0 r.num) (h.nm _ ms) hn
  have l1 : s.2.length < d.st.length := h.ls _ ms
  have l2 : run.length < d.ru.length := h.lr _ mr
  unfold followD arriveD
  cases hl : d.st.lookup r.other with
  | some t =>
    simp only [Option.isNone_some, Bool.false_eq_true, if_false]
    split
    · exact ⟨h.nd, h.sub, h.ks_, h.ws, h.sp, h.nm, h.ls, h.lr, h.wl⟩
    · exact ⟨h.nd, h.sub, h.ks_, h.ws, h.sp, h.nm, h.ls, h.lr, h.wl⟩
  | none =>
    have hz : r.other ∉ d.st.map (·.1) := fun z => by
      obtain ⟨b, hb⟩ := look_mem z
      rw [hl] at hb
      cases hb
    simp only [Option.isNone_none, if_true]
    refine ⟨?_, ?_, ?_, ?_, ?_, ?_, ?_, ?_, ?_⟩
    · show ((d.st ++ [(r.other, beyondM ks md s (r.name, nr0 r.num))]).map (·.1)).Nodup
      rw [List.map_append, List.nodup_append]
      refine ⟨h.nd, by simp, fun a ha b hb e => ?_⟩
      rw [List.map_cons, List.map_nil, List.mem_singleton] at hb
      have e : a = r.other := by rw [e, hb]
      exact hz (e ▸ ha)
    · intro z hz
      rw [List.map_append] at hz
      rcases List.mem_append.mp hz with y | y
      · exact h.sub z y
      · rw [List.map_cons, List.map_nil, List.mem_singleton] at y
        rw [y]
        exact g
    · show (d.st ++ [(r.other, beyondM ks md s (r.name, nr0 r.num))]).map (·.1) = (d.ru ++ [(r.other, run ++ [((i : Int), nr0 r.num)])]).map (·.1)
      rw [List.map_append, List.map_append, h.ks_]
      rfl
    · intro z hz
      show z ∈ (d.st ++ [(r.other, beyondM ks md s (r.name, nr0 r.num))]).map (·.1)
      rw [List.map_append]
      rcases List.mem_append.mp hz with y | y
      · exact List.mem_append.mpr (.inl (h.ws z y))
      · exact List.mem_append.mpr (.inr (by rw [List.mem_singleton.mp y]; exact List.mem_singleton.mpr rfl))
    · intro q hq
      rcases List.mem_append.mp hq with y | y
      · exact h.sp q y
      · rw [List.mem_singleton.mp y]; exact hb.1
    · intro q hq
      rcases List.mem_append.mp hq with y | y
      · exact h.nm q y
      · rw [List.mem_singleton.mp y]; exact hbn
    · intro q hq
      show q.2.2.length < (d.st ++ [(r.other, beyondM ks md s (r.name, nr0 r.num))]).length
      rw [List.length_append, List.length_singleton]
      rcases List.mem_append.mp hq with y | y
      · have : q.2.2.length < d.st.length := h.ls q y
        omega
      · rw [List.mem_singleton.mp y]
        have h2 : (beyondM ks md s (r.name, nr0 r.num)).2.length ≤ s.2.length + 1 := hb.2
        show (beyondM ks md s (r.name, nr0 r.num)).2.length < d.st.length + 1
        omega
    · intro q hq
      show q.2.length < (d.ru ++ [(r.other, run ++ [((i : Int), nr0 r.num)])]).length
      rw [List.length_append, List.length_singleton]
      rcases List.mem_append.mp hq with y | y
      · have : q.2.length < d.ru.length := h.lr q y
        omega
      · rw [List.mem_singleton.mp y]
        show (run ++ [((i : Int), nr0 r.num)]).length < d.ru.length + 1
        rw [List.length_append]
        show run.length + 1 < d.ru.length + 1
        omega
    · show (ws ++ [r.other]).length ≤ (d.st ++ [(r.other, beyondM ks md s (r.name, nr0 r.num))]).length
      have : ws.length ≤ d.st.length := h.wl
      rw [List.length_append, List.length_append]
      exact Nat.add_le_add_right this 1
theorem arrow_ok {ks : Kinds} {md : MapD} (f : Full ks md) (wf : WfM md) {st us : List Str} {stn : Str} {c : RunC} {q : ArrD × Nat} (h : RunOk ks md st c) (hs : stn ∈ c.1.st.map (·.1)) (g : q.1.other ∈ st) (hn : q.1.name ∈ ks.map (·.1)) :
    RunOk ks md st (arrowStep ks md us stn c q) ∧ stn ∈ (arrowStep ks md us stn c q).1.st.map (·.1) ∧ (arrowStep ks md us stn c q).1.st.length + c.2.length = c.1.st.length + (arrowStep ks md us stn c q).2.length := by
  unfold arrowStep
  split
  · rename_i hc
    obtain ⟨d, ws⟩ := c
    obtain ⟨s, h1⟩ := look_mem (l := d.st) (n := q.1.one) (by rw [hc.1]; exact hs)
    obtain ⟨run, h2⟩ := look_mem (l := d.ru) (n := q.1.one) (by rw [← h.ks_, hc.1]; exact hs)
    have fo := follow_ok (i := q.2) f wf h h1 h2 g hn
    have e1 : (d.st.lookup q.1.one).getD (0, []) = s := by rw [h1]; rfl
    have e2 : (d.ru.lookup q.1.one).getD [] = run := by rw [h2]; rfl
    show RunOk ks md st (followD ks md q.1 q.2 ((d.st.lookup q.1.one).getD (0, [])) ((d.ru.lookup q.1.one).getD []) d, if (d.st.lookup q.1.other).isNone = true then ws ++ [q.1.other] else ws) ∧ stn ∈ (followD ks md q.1 q.2 ((d.st.lookup q.1.one).getD (0, [])) ((d.ru.lookup q.1.one).getD []) d).st.map (·.1) ∧
      (followD ks md q.1 q.2 ((d.st.lookup q.1.one).getD (0, [])) ((d.ru.lookup q.1.one).getD []) d).st.length + ws.length = d.st.length + (if (d.st.lookup q.1.other).isNone = true then ws ++ [q.1.other] else ws).length
    rw [e1, e2]
    refine ⟨fo.1, ?_, ?_⟩
    · unfold followD arriveD
      cases hl : d.st.lookup q.1.other with
      | some t =>
        simp only
        split
        · exact hs
        · exact hs
      | none =>
        simp only [List.map_append]
        exact List.mem_append.mpr (.inl hs)
    · rw [fo.2]
      split
      · rw [List.length_append, List.length_singleton]
        omega
      · omega
  · exact ⟨h, hs, rfl⟩
section
variable {P : Program} {w : World} {K : PySem.W.Frag} {mg : Str → Option Value} {base : Heap} {CT CG CM CR CB CC CN CP : Addr}
abbrev s_Trace_run_all : Stmt := inClass (top 72) 3
abbrev N_Trace_run_all : List Str := ["self", "useful", "waiting", "station", "index", "one", "name", "among", "other"]
abbrev P_Trace_run_all : List Str := ["self"]
theorem sc_Trace_run_all : FnScope N_Trace_run_all P_Trace_run_all (defScope s_Trace_run_all) := ⟨rfl, rfl, rfl, by decide +kernel, rfl, by decide +kernel, by decide +kernel⟩
theorem bn_Trace_run_all : BindsNo "run_all" "Trace.run_all" s_Trace_run_all P_Trace_run_all := fun _ _ _ _ _ _ us hl => match us, hl with | [_], _ => rfl
theorem TrAt.sv {CC : Addr} {p : TrP} {d : TrD} {F S S' : Hp} (h : TrAt CC p d F S) (b : ∀ a, S a ≠ none → (∀ xs, S a ≠ some (.lst xs)) → S' a = S a) : TrAt CC p d F S' := by
  obtain ⟨dx, uv, h0, hu⟩ := h.ob
  obtain ⟨ka, h1, kd⟩ := h.st
  obtain ⟨kr, h2, kd2⟩ := h.ru
  exact ⟨⟨dx, uv, (b _ (ne_none h0) (fun xs q => by rw [h0] at q; cases q)).trans h0, hu⟩, ⟨ka, (b _ (ne_none h1) (fun xs q => by rw [h1] at q; cases q)).trans h1, kd⟩, ⟨kr, (b _ (ne_none h2) (fun xs q => by rw [h2] at q; cases q)).trans h2, kd2⟩, h.ne, h.ks⟩
theorem run0 {ks : Kinds} {md : MapD} {st : List Str} {b : Str} {st0 : StD} (hb : b ∈ st) (hs0 : st0.1 ∈ md.spots) (hs2 : st0.2 = []) : RunOk ks md st (arriveD ⟨[], [], none⟩ b st0 [], [b]) := by
  have e : arriveD ⟨[], [], none⟩ b st0 [] = ⟨[(b, st0)], [(b, [])], none⟩ := rfl
  rw [e]
  have o : ∀ q ∈ [(b, st0)], q = (b, st0) := fun q hq => List.mem_singleton.mp hq
  refine ⟨by simp, fun z hz => ?_, rfl, fun z hz => by simpa using hz, fun q hq => ?_, fun q hq => ?_, fun q hq => ?_, fun q hq => ?_, Nat.le_refl 1⟩
  · have : z = b := by simpa using hz
    rw [this]
    exact hb
  · rw [o q hq]; exact hs0
  · rw [o q hq]
    intro e he
    rw [show (b, st0).2.2 = [] from hs2] at he
    cases he
  · rw [o q hq]
    show st0.2.length < 1
    rw [hs2]
    exact Nat.zero_lt_one
  · have : q = (b, []) := List.mem_singleton.mp hq
    rw [this]
    exact Nat.zero_lt_one
def sp_run_all (CM CG CT CN CP CC : Addr) : Sp := fun vs H Q _ => ∃ (F S : Hp) (p : TrP) (ks : Kinds) (md : MapD) (tw : V) (ad : Ad) (pd : PlanD) (st0 : StD),
  vs = [.ref p.x] ∧ Sp2 F S H ∧ TrAt CC p ⟨[], [], none⟩ F S ∧ RMapAt CM CG md p.rv tw ad F ∧ (RTurns CT).rel ks tw F ∧ Full ks md ∧ KOk ks ∧ (RPlan CT CN CP).rel pd p.pv F ∧ RSt.rel st0 p.sv F ∧ pd.ks = ks ∧ pd.b ∈ pd.st ∧ pd.e ∈ pd.st ∧ pd.st.length ≤ 1000 ∧
  (∀ r ∈ pd.ds, NumB r.num) ∧ st0.1 ∈ md.spots ∧ st0.2 = [] ∧ (∀ (s : StD) n, s.1 ∈ md.spots → n ∈ ks.map (·.1) → 0 ≤ modAt ks md s n) ∧
  ∀ F' S' H', Mu F S H F' S' H' → TrAt CC p (runAllM ks md pd st0) F' S' → Q (.ref p.x) H'
theorem name_mem {ks : Kinds} {n : Str} (h : (ks.lookup n).isSome = true) : n ∈ ks.map (·.1) := by
  obtain ⟨b, hb⟩ := Option.isSome_iff_exists.mp h
  exact List.mem_map.mpr ⟨_, mem_of_look hb, rfl⟩
theorem ok_run_all (B : Bt mg) (PL : KlF K mg "Plan" CP ["turns", "stations", "arrows", "begin", "end"]) (TC : KlF K mg "Trace" CC trNames) (m_Num_bool : Met P w K mg base 1 CN "__bool__" (sp_Num_bool CN)) (m_useful : Met P w K mg base 3 CP "useful" (sp_useful CT CN CP))
    (m_follow : Met P w K mg base 5 CC "follow" (sp_follow CM CG CT CN CP CC)) (m_arrive : Met P w K mg base 1 CC "arrive" (sp_arrive CC)) (F : MtF K CC "run_all" "Trace.run_all" s_Trace_run_all []) : Met P w K mg base 6 CC "run_all" (sp_run_all CM CG CT CN CP CC) := by
  refine F.met TC.cl sc_Trace_run_all bn_Trace_run_all (fun vs H Q E h => ?_) (fun f cdv A outer s H vs Q E hr h => ?_)
  · obtain ⟨_, _, _, _, _, _, _, _, _, rfl, _⟩ := h
    rfl
  · obtain ⟨F, S, p, ks, md, tw, ad, pd, st0, rfl, d2, tr, rm, rt, fl, ok, rp, rs0, hks, hb, he, hst, hnb, hs0, hs2, hmod, k⟩ := h
    refine ⟨_, (pss_cons (ps_set (i := 1) sc_Trace_run_all.nd rfl (Or.inl rfl) (pe_m0 m_useful hr (by decide) (k_fld (pv 0) (K := K)) passL))
    (pss_cons (ps_if (pt_cmpR (op_eqU hr (K := K)) (pe_callB (call_lenU (K := K)) (by rfl) B.len (by decide +kernel) (pa_cons (pv 1) pa_nil)) pe_int (nomark _)) (pss_one (ps_ret (pv 0))) pss_nil)
    (pss_cons (ps_set (i := 2) sc_Trace_run_all.nd rfl (Or.inl rfl) (pe_lst (pa_cons (k_fld (k_fld (pv 0) (K := K)) (K := K)) pa_nil)))
    (pss_cons (ps_expr (pe_m m_arrive hr (by decide) (pv 0) (pa_cons (k_fld (k_fld (pv 0) (K := K)) (K := K)) (pa_cons (k_fld (pv 0) (K := K)) (pa_cons (pe_lst pa_nil) pa_nil))) passL))
    (pss_cons (ps_while (passes_of rfl) (PW.pt (pw_and (pt_truth (pv 2) (by intro _; rfl)) (pw_and1 (pt_cmpR op_isN (k_fld (pv 0) (K := K)) pe_non (nomark _)))))
    (pss_cons (ps_set (i := 3) sc_Trace_run_all.nd rfl (Or.inl rfl) (pe_bm PySem.F.plainAttrs_list PySem.F.slot_list_pop PySem.F.type_list_pop mt_popAt (pv 2) (pa_cons pe_int pa_nil)))
    (pss_one (ps_for (passes_of rfl) rfl (pi_enumT (by rfl) B.enumerate (pa_cons (k_fld (k_fld (pv 0) (K := K)) (K := K)) pa_nil) (K := K)) (k_tup (n := 2) rfl (pgs_cons (pg_name (i := 4) sc_Trace_run_all.nd rfl (Or.inl rfl)) (pgs_cons (k_tup (n := 4) rfl (pgs_cons (pg_name (i := 5) sc_Trace_run_all.nd rfl (Or.inl rfl)) (pgs_cons (pg_name (i := 6) sc_Trace_run_all.nd rfl (Or.inl rfl)) (pgs_cons (pg_name (i := 7) sc_Trace_run_all.nd rfl (Or.inl rfl)) (pgs_cons (pg_name (i := 8) sc_Trace_run_all.nd rfl (Or.inl rfl)) pgs_nil)))) (K := K)) pgs_nil)) (K := K))
    (pss_one (ps_if (PW.pt (pw_and (pt_cmpR (op_eqU hr (K := K)) (pv 5) (pv 3) (nomark _)) (pw_and (pt_cmpR (op_inU (K := K)) (pv 8) (pv 1) (by rfl)) (pw_and1 (pt_trO m_Num_bool hr (by decide) (pv 7) passL))))) (pss_one (ps_expr (pe_m m_follow hr (by decide) (pv 0) (pa_cons (pv 4) (pa_cons (pv 2) pa_nil)) passL))) pss_nil))))))
    (pss_one (ps_ret (pv 0)))))))), ?_⟩
    obtain ⟨dx, uv, h0, hu⟩ := tr.ob
    obtain ⟨a, pdx, ts, ta, tv, hp⟩ := id rp
    obtain ⟨_, as, eta, hta, pda⟩ := hp.ar
    cases eta
    have hal : as.length = pd.ds.length := pd_len pda
    have sF := d2.sf
    refine stp [some (.ref p.x), none, none, none, none, none, none, none, none] rfl fun N hN => ?_
    refine ⟨_, rfl, p.x, CC, dx, _, _, rfl, d2.ss _ _ h0, TC.cl, TC.no _ (by decide), rfl, a, pdx, _, hp.ev, sF _ _ hp.ob, rfl, F, p.pv, pd, rfl, sF, rp, hb, he, hst, fun L1 F1 H1 pu1 hL1 hul => ?_⟩
    have u1 := Mu.pure d2 pu1
    refine hN _ _ ?_
    clear hN
    refine stp [some (.ref p.x), some (.ref L1), none, none, none, none, none, none, none] rfl fun N hN => ?_
    refine ⟨_, rfl, .inl ⟨L1, _, rfl, .inl (SqL.of (u1.d1.sf _ _ hL1)), .inl ⟨rfl, _, rfl, ?_⟩⟩⟩
    by_cases hus : usefulL pd = []
    · rw [decide_eq_true (show V.int (((usefulL pd).map V.str).length : Nat) = V.int 0 by rw [hus]; rfl)]
      refine iteT ⟨_, rfl, k _ _ _ u1 ?_⟩
      unfold runAllM
      rw [if_pos hus]
      exact tr.ff pu1.ff
    · rw [decide_eq_false (show ¬ V.int (((usefulL pd).map V.str).length : Nat) = V.int 0 from fun q => hus (by
        injection q with q
        rw [List.length_map] at q
        exact List.length_eq_zero_iff.mp (by omega)))]
      refine iteF (hN _ _ ?_)
      clear hN
      refine stp [some (.ref p.x), some (.ref L1), none, none, none, none, none, none, none] rfl fun N hN => ?_
      refine ⟨_, rfl, p.x, CC, dx, _, _, rfl, u1.d1.ss _ _ h0, TC.cl, TC.no _ (by decide), rfl, a, CP, pdx, _, _, hp.ev, u1.d1.sf _ _ (pu1.ff _ _ hp.ob), PL.cl, PL.no _ (by decide), rfl, sz (n := 1) (by decide), fun wl hwl => ?_⟩
      have u2 := u1.trans (Mu.newS u1.d1 (o := .lst [.str pd.b]) hwl)
      have nSw := u1.d1.nS hwl
      have h0' : upd S wl (.lst [.str pd.b]) p.x = _ := (upd_ne (fun e => by rw [e, nSw] at h0; cases h0)).trans h0
      refine hN _ _ ?_
      clear hN
      refine stp [some (.ref p.x), some (.ref L1), some (.ref wl), none, none, none, none, none, none] rfl fun N hN => ?_
      refine ⟨_, rfl, p.x, dx, _, rfl, u2.d1.ss _ _ h0', rfl, _, rfl, p.x, CC, dx, _, _, rfl, u2.d1.ss _ _ h0', TC.cl, TC.no _ (by decide), rfl, a, CP, pdx, _, _, hp.ev, u2.d1.sf _ _ (pu1.ff _ _ hp.ob), PL.cl, PL.no _ (by decide), rfl, _, rfl, p.x, CC, dx, _, _, rfl, u2.d1.ss _ _ h0', TC.cl, TC.no _ (by decide), rfl, sz (n := 0) (by decide), fun L0 hL0 => ?_⟩
      have u3 := u2.trans (Mu.newF u2.d1 (o := .lst []) hL0)
      have s13 := Same.new (o := .lst []) (u2.d1.nF hL0)
      have trw : TrAt CC p ⟨[], [], none⟩ (upd F1 L0 (.lst [])) (upd S wl (.lst [.str pd.b])) := (tr.ff (pu1.ff.trans s13)).sv fun a ha _ => upd_ne fun e => ha (by rw [e]; exact nSw)
      refine ⟨_, _, p, ⟨[], [], none⟩, pd.b, st0, [], p.sv, .ref L0, rfl, u3.d1, trw, RSt.mono (pu1.ff.trans s13) rs0, ⟨L0, [], rfl, upd_same, .nil⟩, (by rw [hs2]; intro e he; cases he), (by intro q hq; cases hq), (by decide), fun F4 S4 H4 u34 tr4 be4 => ?_⟩
      have u4 := u3.trans u34
      have s14 : Same F1 F4 := s13.trans u34.ff
      have nwx : wl ≠ p.x := fun e => by rw [← e, nSw] at h0; cases h0
      obtain ⟨_, w1, _⟩ := tr.st
      obtain ⟨_, w2, _⟩ := tr.ru
      have nws : wl ≠ p.es := fun e => by rw [← e, nSw] at w1; cases w1
      have nwr : wl ≠ p.er := fun e => by rw [← e, nSw] at w2; cases w2
      have hw4 : S4 wl = some (.lst ([pd.b].map V.str)) := (be4 wl nwx nws nwr).trans upd_same
      refine hN _ _ ?_
      clear hN
      refine stp [some (.ref p.x), some (.ref L1), some (.ref wl), none, none, none, none, none, none] rfl fun N hN => ?_
      have hpos : 0 < pd.st.length := List.length_pos_of_mem hb
      refine ⟨fun m σ H' => ∃ (F' S' : Hp) (d : TrD) (ws : List Str) (x3 x4 x5 x6 x7 x8 : Option V), m = (pd.st.length - d.st.length) + ws.length ∧ RunOk ks md pd.st (d, ws) ∧ runAllM ks md pd st0 = (runGo ks md pd.ds (usefulL pd) m (d, ws)).1 ∧ Mu F S H F' S' H' ∧ Same F1 F' ∧ TrAt CC p d F' S' ∧ S' wl = some (.lst (ws.map V.str)) ∧
        σ = [some (.ref p.x), some (.ref L1), some (.ref wl), x3, x4, x5, x6, x7, x8],
        ⟨pd.st.length, F4, S4, arriveD ⟨[], [], none⟩ pd.b st0 [], [pd.b], none, none, none, none, none, none, by show pd.st.length = (pd.st.length - 1) + 1; omega,
          run0 hb hs0 hs2,
          by unfold runAllM; rw [if_neg hus], u4, s14, tr4, hw4, rfl⟩, ?_⟩
      rintro m σ H5 ⟨F5, S5, d, ws, x3, x4, x5, x6, x7, x8, rfl, ro, hgo, u5, s15, tr5, hw5, rfl⟩
      obtain ⟨dx5, uv5, g0, gu⟩ := tr5.ob
      have fin : (runGo ks md pd.ds (usefulL pd) (pd.st.length - d.st.length + ws.length) (d, ws)).1 = d → N [some (.ref p.x), some (.ref L1), some (.ref wl), x3, x4, x5, x6, x7, x8] H5 := fun e => hN _ _ ⟨_, rfl, k _ _ _ u5 (by rw [hgo, e]; exact tr5)⟩
      refine ⟨_, rfl, _, .inl ⟨_, SqL.of (u5.d1.ss _ _ hw5), rfl⟩, ?_⟩
      cases ws with
      | nil =>
        refine iteF (iteF (fin ?_))
        cases (pd.st.length - d.st.length + ([] : List Str).length) with
        | zero => rfl
        | succ n => rfl
      | cons s r =>
        refine iteT ⟨_, rfl, p.x, CC, dx5, _, _, rfl, u5.d1.ss _ _ g0, TC.cl, TC.no _ (by decide), rfl, rfl, _, rfl, ?_⟩
        have hfu : pd.st.length - d.st.length + (s :: r).length = (pd.st.length - d.st.length + r.length) + 1 := by rw [List.length_cons]; omega
        cases hun : d.un with
        | some uu =>
          rw [hun] at gu
          obtain ⟨v1, v2, v3⟩ := uu
          obtain ⟨tu, xu, yu, rfl, _⟩ := gu
          rw [decide_eq_false (by intro q; cases q)]
          refine iteF (fin ?_)
          rw [hfu]
          show (if d.un = none then _ else (d, s :: r) : RunC).1 = d
          rw [if_neg (by rw [hun]; intro q; cases q)]
        | none =>
          rw [hun] at gu
          have hu5 : uv5 = .non := gu
          rw [decide_eq_true hu5]
          refine iteT ⟨_, fun _ _ h => h, ?_⟩
          have hgo2 : runAllM ks md pd st0 = (runGo ks md pd.ds (usefulL pd) (pd.st.length - d.st.length + r.length) (stationStep ks md pd.ds (usefulL pd) s (d, r))).1 := by
            rw [hgo, hfu]
            show (if d.un = none then _ else (d, s :: r) : RunC).1 = _
            rw [if_pos hun]
          refine stp [some (.ref p.x), some (.ref L1), some (.ref wl), x3, x4, x5, x6, x7, x8] rfl fun N6 hN6 => ?_
          refine ⟨_, rfl, .inl ⟨rfl, _, SqL.of (u5.d1.ss _ _ hw5)⟩, wl, _, 0, 0, .str s, rfl, rfl, u5.d1.ss _ _ hw5, by decide, by decide, ?_, rfl, ?_⟩
          · unfold seqIndex?
            simp
          have u6 := u5.trans (Mu.put u5.d1 (o' := .lst (r.map V.str)) hw5)
          have tr6 : TrAt CC p d F5 (upd S5 wl (.lst (r.map V.str))) := tr5.sv fun b hb hx => upd_ne fun e => hx ((s :: r).map V.str) (by rw [e]; exact hw5)
          show N6 _ (upd H5 wl (.lst (r.map V.str)))
          refine hN6 _ _ ?_
          clear hN6
          have g6 : upd S5 wl (.lst (r.map V.str)) p.x = _ := (upd_ne (Ne.symm nwx)).trans g0
          have ro6 : RunOk ks md pd.st (d, r) := ⟨ro.nd, ro.sub, ro.ks_, fun z hz => ro.ws z (List.mem_cons_of_mem _ hz), ro.sp, ro.nm, ro.ls, ro.lr, Nat.le_of_succ_le ro.wl⟩
          have hsk : s ∈ d.st.map (·.1) := ro.ws s List.mem_cons_self
          refine stq [some (.ref p.x), some (.ref L1), some (.ref wl), some (.str s), x4, x5, x6, x7, x8] rfl ?_
          refine ⟨_, rfl, p.x, CC, dx5, _, _, rfl, u6.d1.ss _ _ g6, TC.cl, TC.no _ (by decide), rfl, a, CP, pdx, _, _, hp.ev, u6.d1.sf _ _ (s15 _ _ (pu1.ff _ _ hp.ob)), PL.cl, PL.no _ (by decide), rfl, ta, as, rfl, SqT.of (u6.d1.sf _ _ (s15 _ _ (pu1.ff _ _ hta))), ?_⟩
          refine for_it (walk_enumT (xs := as)) (fun i σ H' => ∃ (F' S' : Hp) (c : RunC) (x4 x5 x6 x7 x8 : Option V), (pd.ds.zipIdx.take i).foldl (arrowStep ks md (usefulL pd) s) (d, r) = c ∧ RunOk ks md pd.st c ∧ s ∈ c.1.st.map (·.1) ∧ c.1.st.length + r.length = d.st.length + c.2.length ∧ Mu F S H F' S' H' ∧ Same F1 F' ∧ TrAt CC p c.1 F' S' ∧ S' wl = some (.lst (c.2.map V.str)) ∧
            σ = [some (.ref p.x), some (.ref L1), some (.ref wl), some (.str s), x4, x5, x6, x7, x8])
            ⟨F5, _, (d, r), _, _, _, _, _, rfl, ro6, hsk, rfl, u6, s15, tr6, upd_same, rfl⟩ (fun i σ H' _ ⟨F', S', _, _, _, _, _, _, _, _, _, _, u, s, _⟩ => SqT.of (u.d1.sf _ _ (s _ _ (pu1.ff _ _ hta)))) ?_ ?_
          · rintro i y σ H7 H8 hi ⟨F7, S7, ⟨d7, w7⟩, y4, y5, y6, y7, y8, hfo, ro7, hs7, hm7, u7, s17, tr7, hw7, rfl⟩ ⟨T, z1, z2, rfl, hT, rfl, e1, hy⟩
            cases e1
            replace hy : as[i]? = some z2 := hy
            obtain ⟨q, hq1, b2, nv, hx2⟩ := pd_get pda hy
            have hqm : q ∈ pd.ds := List.mem_of_getElem? hq1
            obtain ⟨gg1, gg3, gg2⟩ := hp.gd q hqm
            have hqn : q.name ∈ ks.map (·.1) := by rw [← hks]; exact name_mem gg3
            have ao := arrow_ok (us := usefulL pd) (q := (q, i)) fl rm.wf ro7 hs7 gg2 hqn
            have hfo2 : (pd.ds.zipIdx.take (i + 1)).foldl (arrowStep ks md (usefulL pd) s) (d, r) = arrowStep ks md (usefulL pd) s (d7, w7) (q, i) := by
              rw [take_snoc (d := (q, i)) (by rw [List.getElem?_zipIdx, hq1]; simp), List.foldl_append, hfo]
              rfl
            have u8 := u7.trans (Mu.tmp u7.d1 (Same.new (o := .tup [.int (i : Nat), z2]) hT))
            have s0 : Same F F7 := pu1.ff.trans s17
            refine ⟨T, _, rfl, SqT.of upd_same, rfl, _, _, rfl, _, _, rfl, b2, _, hx2.ev, SqT.of (u8.d1.sf _ _ (s0 _ _ hx2.ob)), rfl, _, _, rfl, _, _, rfl, _, _, rfl, _, _, rfl, rfl, rfl, ?_⟩
            have hdone : ∀ (F9 S9 H9 : Hp) (c9 : RunC), arrowStep ks md (usefulL pd) s (d7, w7) (q, i) = c9 → Mu F S H F9 S9 H9 → Same F1 F9 → TrAt CC p c9.1 F9 S9 → S9 wl = some (.lst (c9.2.map V.str)) →
                ∃ (F' S' : Hp) (c : RunC) (x4 x5 x6 x7 x8 : Option V), (pd.ds.zipIdx.take (i + 1)).foldl (arrowStep ks md (usefulL pd) s) (d, r) = c ∧ RunOk ks md pd.st c ∧ s ∈ c.1.st.map (·.1) ∧ c.1.st.length + r.length = d.st.length + c.2.length ∧ Mu F S H F' S' H9 ∧ Same F1 F' ∧ TrAt CC p c.1 F' S' ∧ S' wl = some (.lst (c.2.map V.str)) ∧
                (([some (.ref p.x), some (.ref L1), some (.ref wl), some (.str s), some (.int (i : Nat)), some (.str q.one), some (.str q.name), some nv, some (.str q.other)] : L2.St)) = [some (.ref p.x), some (.ref L1), some (.ref wl), some (.str s), x4, x5, x6, x7, x8] := by
              rintro F9 S9 H9 c9 rfl u9 s9 tr9 hw9
              have := ao.2.2
              refine ⟨F9, S9, _, _, _, _, _, _, hfo2, ao.1, ao.2.1, ?_, u9, s9, tr9, hw9, rfl⟩
              have h7 : d7.st.length + r.length = d.st.length + w7.length := hm7
              have h8 : (arrowStep ks md (usefulL pd) s (d7, w7) (q, i)).1.st.length + w7.length = d7.st.length + (arrowStep ks md (usefulL pd) s (d7, w7) (q, i)).2.length := ao.2.2
              omega
            try dsimp only
            refine stq [some (.ref p.x), some (.ref L1), some (.ref wl), some (.str s), some (.int (i : Nat)), some (.str q.one), some (.str q.name), some nv, some (.str q.other)] rfl ?_
            refine ⟨_, rfl, _, rfl, .inl ⟨rfl, _, rfl, ?_⟩⟩
            have hno : ¬ (q.one = s ∧ q.other ∈ usefulL pd ∧ neB q.num = true) → arrowStep ks md (usefulL pd) s (d7, w7) (q, i) = (d7, w7) := fun h => if_neg h
            by_cases c1 : q.one = s
            · rw [decide_eq_true (congrArg V.str c1)]
              have hL1' := u8.d1.sf _ _ (s17 _ _ hL1)
              refine iteT ⟨_, rfl, _, rfl, .inr ⟨L1, _, rfl, .inl (SqL.of hL1'), rfl, flat_strs _, ?_⟩⟩
              show ∃ b, V.bl (inV (.str q.other) _) = .bl b ∧ _
              rw [inV_strs]
              by_cases c2 : q.other ∈ usefulL pd
              · rw [decide_eq_true c2]
                refine ⟨_, rfl, iteT ?_⟩
                obtain ⟨na, ndx, lc, ls, hn⟩ := id hx2.nu
                have rn := (RNum CN).mono s0 hx2.nu
                refine ⟨_, rfl, na, ndx, _, hn.ev, u8.d1.sf _ _ (s0 _ _ hn.ob), F7, nv, q.num, rfl, u8.d1.sf, rn, fun H9 s9 => ⟨_, rfl, ?_⟩⟩
                have u9 := u8.trans (Mu.tmp u8.d1 s9)
                by_cases c3 : neB q.num = true
                · rw [show (!(q.num.cs.isEmpty && q.num.sg.isEmpty)) = true from c3]
                  refine iteT ?_
                  obtain ⟨st, hst7⟩ := look_mem (l := d7.st) (n := q.one) (by rw [c1]; exact hs7)
                  obtain ⟨run, hru7⟩ := look_mem (l := d7.ru) (n := q.one) (by rw [← ro7.ks_, c1]; exact hs7)
                  obtain ⟨dx7, uv7, g7, _⟩ := tr7.ob
                  have hstep : arrowStep ks md (usefulL pd) s (d7, w7) (q, i) = (followD ks md q i st run d7, if (d7.st.lookup q.other).isNone = true then w7 ++ [q.other] else w7) := by
                    unfold arrowStep
                    rw [if_pos ⟨c1, c2, c3⟩]
                    show (followD ks md q i ((d7.st.lookup q.one).getD (0, [])) ((d7.ru.lookup q.one).getD []) d7, _) = _
                    rw [hst7, hru7]
                    rfl
                  have hw7l : w7.length ≤ 10000 := by
                    have h7 : w7.length ≤ d7.st.length := ro7.wl
                    have h8 : d7.st.length ≤ pd.st.length := ro7.le
                    omega
                  have hd7 : d7.st.length ≤ pd.st.length := ro7.le
                  refine ⟨_, rfl, p.x, dx7, _, rfl, u9.d1.ss _ _ g7, rfl, _, rfl, _, rfl, F7, S7, p, d7, ks, md, tw, ad, pd, w7, wl, q, i, st, run, rfl, u9.d1, tr7, hw7, hw7l, rm.mono s0, (RTurns CT).mono s0 rt, fl, ok, (RPlan CT CN CP).mono s0 rp, hq1, hqn, hnb q hqm, c3, ro7.tr hst, hst7, hru7, hmod _ _ (ro7.sp _ (mem_of_look hst7)) hqn, Nat.le_trans hd7 hst, fun F10 S10 H10 u10 tr10 hw10 be10 => ?_⟩
                  exact hdone F10 S10 H10 _ hstep (u9.trans u10) (s17.trans u10.ff) tr10 hw10
                · rw [show (!(q.num.cs.isEmpty && q.num.sg.isEmpty)) = false from Bool.eq_false_iff.mpr c3]
                  refine iteF ?_
                  exact hdone F7 S7 _ _ (hno fun z => c3 z.2.2) u9 s17 tr7 hw7
              · rw [decide_eq_false c2]
                refine ⟨_, rfl, iteF (iteF ?_)⟩
                exact hdone F7 S7 _ _ (hno fun z => c2 z.2.1) u8 s17 tr7 hw7
            · rw [decide_eq_false (fun z => c1 (V.str.inj z))]
              refine iteF (iteF ?_)
              exact hdone F7 S7 _ _ (hno fun z => c1 z.1) u8 s17 tr7 hw7
          · rintro σ H7 ⟨F7, S7, c, y4, y5, y6, y7, y8, hfo, ro7, hs7, hm7, u7, s17, tr7, hw7, rfl⟩
            rw [hal, List.take_of_length_le (by rw [List.length_zipIdx]; exact Nat.le_refl _)] at hfo
            have l1 := ro7.le
            have l2 : d.st.length ≤ pd.st.length := ro.le
            have hfo' : stationStep ks md pd.ds (usefulL pd) s (d, r) = c := hfo
            refine ⟨_, ?_, F7, S7, c.1, c.2, _, _, _, _, _, _, rfl, ro7, ?_, u7, s17, tr7, hw7, rfl⟩
            · show pd.st.length - c.1.st.length + c.2.length < pd.st.length - d.st.length + (r.length + 1)
              omega
            · rw [hgo2, hfo', show pd.st.length - d.st.length + r.length = pd.st.length - c.1.st.length + c.2.length by omega]
end
end TR

/-! part M23 -/
/-! A trace asked for. -/
namespace TR
open PySem PySem.Spec PyProof.Rows L2 G
section
variable {P : Program} {w : World} {K : PySem.W.Frag} {mg : Str → Option Value} {base : Heap} {CT CG CM CR CB CC CN CP : Addr}
abbrev s_checked_trace : Stmt := top 73
abbrev N_checked_trace : List Str := ["book", "plan", "place", "other"]
abbrev P_checked_trace : List Str := ["book", "plan", "place", "other"]
theorem sc_checked_trace : FnScope N_checked_trace P_checked_trace (defScope s_checked_trace) := ⟨rfl, rfl, rfl, by decide +kernel, rfl, by decide +kernel, by decide +kernel⟩
theorem bn_checked_trace : BindsNo "checked_trace" "checked_trace" s_checked_trace P_checked_trace := fun _ _ _ _ _ _ us hl => match us, hl with | [_, _, _, _], _ => rfl
def sp_checked_trace (CM CG CT CN CP CB CC : Addr) : Sp := fun vs H Q _ => ∃ (F : Hp) (ba bdx ts : Addr) (tw fv rv pw : V) (ad : Ad) (bd : BookD) (pd : PlanD) (z1 z2 : Str),
  vs = [.ref ba, pw, .str z1, .str z2] ∧ Same F H ∧ BookAt CB CM CG CT bd (.ref ba) F ba bdx ts tw fv rv ad ∧ BkOk bd ∧ (RPlan CT CN CP).rel pd pw F ∧ pd.ks = bd.ks ∧ z1 ∈ bd.pl ∧ z2 ∈ bd.pl ∧ pd.b ∈ pd.st ∧ pd.e ∈ pd.st ∧ pd.st.length ≤ 1000 ∧ (∀ r ∈ pd.ds, NumB r.num) ∧ (∀ (s : StD) n, s.1 ∈ bd.md.spots → n ∈ bd.ks.map (·.1) → 0 ≤ modAt bd.ks bd.md s n) ∧
  ∀ G H' p, Pu F H G H' → TrAt CC p (runAllM bd.ks bd.md pd (spotN bd.md z1, [])) G G → p.pv = pw → F p.er = none → Q (.ref p.x) H'
theorem TrAt.still {CC : Addr} {p : TrP} {d : TrD} {F S H : Hp} (h : TrAt CC p d F S) (s : Sp2 F S H) : TrAt CC p d (un F S) (un F S) := by
  obtain ⟨dx, uv, h0, hu⟩ := h.ob
  obtain ⟨ka, h1, kd⟩ := h.st
  obtain ⟨kr, h2, kd2⟩ := h.ru
  exact ⟨⟨dx, uv, un_s h0, RUn.mono s.sun hu⟩, ⟨ka, un_s h1, kd.mono s.sun⟩, ⟨kr, un_s h2, kd2.mono s.sun⟩, h.ne, h.ks⟩
theorem ok_checked_trace (B : Bt mg) (hmT : PySem.W.mroIn K CT (.type "object") = some true) (hnT : PySem.W.findIn K (.ref CT) "__ne__" = some (some (.builtin "object.__ne__"))) (PL : KlF K mg "Plan" CP ["turns", "stations", "arrows", "begin", "end"]) (BK : KlF K mg "Book" CB bookNames) (TC : KlF K mg "Trace" CC trNames)
    (m_Turns_eq : Met P w K mg base 1 CT "__eq__" (sp_Turns_eq CT)) (m_need_place : Met P w K mg base 1 CB "need_place" (sp_need_place CB CM CG CT)) (k_Trace : Mak P w K mg base 1 "Trace" CC (sp_Trace_init CB CM CG CT CC)) (m_run_all : Met P w K mg base 6 CC "run_all" (sp_run_all CM CG CT CN CP CC)) (F : FnF K mg "checked_trace" s_checked_trace []) : Cal P w K mg base 7 "checked_trace" (sp_checked_trace CM CG CT CN CP CB CC) := by
  refine F.cal sc_checked_trace bn_checked_trace (fun vs H Q E h => ?_) (fun f cdv A outer s H vs Q E hr h => ?_)
  · obtain ⟨_, _, _, _, _, _, _, _, _, _, _, _, _, rfl, _⟩ := h
    rfl
  · obtain ⟨F, ba, bdx, ts, tw, fv, rv, pw, ad, bd, pd, z1, z2, rfl, sF, hb, bo, rp, hks, hz1, hz2, hpb, hpe, hst, hnb, hmod, k⟩ := h
    refine ⟨_, (pss_cons (ps_if (pt_cmpR (op_neO m_Turns_eq hmT hnT hr (by decide) passL) (k_fld (pv 1) (K := K)) (k_fld (pv 0) (K := K)) (nomark _)) (pss_one ps_no) pss_nil)
    (pss_cons (ps_expr (pe_m m_need_place hr (by decide) (pv 0) (pa_cons (pv 2) pa_nil) passL))
    (pss_cons (ps_expr (pe_m m_need_place hr (by decide) (pv 0) (pa_cons (pv 3) pa_nil) passL))
    (pss_one (ps_ret (pe_m0 m_run_all hr (by decide) (pe_k k_Trace hr (by decide) (pa_cons (pv 0) (pa_cons (pv 1) (pa_cons (pv 2) pa_nil))) passL) passL)))))), ?_⟩
    obtain ⟨a, pdx, pts, ta, tv, hp⟩ := id rp
    obtain ⟨t1, td1, _, _, _, _, tt1⟩ := id hp.tu
    obtain ⟨t2, td2, _, _, _, _, tt2⟩ := id hb.tu
    have rb : (RBook CB CM CG CT).rel bd (.ref ba) F := ⟨ba, bdx, ts, tw, fv, rv, ad, hb⟩
    refine stp [some (.ref ba), some pw, some (.str z1), some (.str z2)] rfl fun N hN => ?_
    refine ⟨_, rfl, a, CP, pdx, _, _, hp.ev, sF _ _ hp.ob, PL.cl, PL.no _ (by decide), rfl, _, rfl, ba, CB, bdx, _, _, rfl, sF _ _ hb.ob, BK.cl, BK.no _ (by decide), rfl, ?_⟩
    refine ⟨t1, td1, _, t2, td2, _, tt1.ev, tt2.ev, sF _ _ tt1.ob, sF _ _ tt2.ob, tv, tw, bd.ks, rfl, by rw [← hks]; exact (RTurns CT).mono sF hp.tu, (RTurns CT).mono sF hb.tu, fun q hq => (bo.ok.nm q hq).1, fun H1 s1 => ⟨_, rfl, _, rfl, iteF (hN _ _ ?_)⟩⟩
    clear hN
    have sF1 := sF.trans s1
    refine stp [some (.ref ba), some pw, some (.str z1), some (.str z2)] rfl fun N hN => ?_
    refine ⟨_, rfl, ba, bdx, _, rfl, sF1 _ _ hb.ob, rfl, _, rfl, F, _, z1, bd, rfl, sF1, rb, hz1, hN _ _ ?_⟩
    clear hN
    refine stp [some (.ref ba), some pw, some (.str z1), some (.str z2)] rfl fun N hN => ?_
    refine ⟨_, rfl, ba, bdx, _, rfl, sF1 _ _ hb.ob, rfl, _, rfl, F, _, z2, bd, rfl, sF1, rb, hz2, hN _ _ ?_⟩
    clear hN
    refine stq [some (.ref ba), some pw, some (.str z1), some (.str z2)] rfl ?_
    refine ⟨_, rfl, _, rfl, _, rfl, fun x dx hx hdx ne => ?_⟩
    refine ⟨F, H1, x, dx, ba, ts, bdx, pw, tw, fv, rv, ad, bd, z1, rfl, ⟨sF1, hx, hdx, ne, rfl⟩, hb, bo, hz1, fun F2 H2 es er sv rs nes ow => ⟨rfl, ?_⟩⟩
    have u := (Mu.tmp (sp2_emp sF) s1).trans (ow.toMu sF1)
    have tr : TrAt CC ⟨x, es, er, rv, pw, sv⟩ ⟨[], [], none⟩ F2 (lk [(er, .dK []), (es, .dK []), (x, .ins CC dx (trFs ⟨x, es, er, rv, pw, sv⟩ .non))]) :=
      ⟨⟨dx, .non, lk_at ow.nd (i := 2) rfl, rfl⟩, ⟨[], lk_at ow.nd (i := 1) rfl, .nil⟩, ⟨[], lk_at ow.nd (i := 0) rfl, .nil⟩, nes, rfl⟩
    refine ⟨x, dx, _, rfl, ow.at 2, rfl, F2, _, ⟨x, es, er, rv, pw, sv⟩, bd.ks, bd.md, tw, ad, pd, (spotN bd.md z1, []), rfl, u.d1, tr, hb.ri.mono u.ff, (RTurns CT).mono u.ff hb.tu, bo.full, bo.ok, (RPlan CT CN CP).mono u.ff rp, rs, hks, hpb, hpe, hst, hnb, (bo.spot hz1).2, rfl, hmod, fun F3 S3 H3 u3 tr3 => k _ H3 _ (u.trans u3).pu (tr3.still u3.d1) rfl (by
      obtain ⟨_, h2, _⟩ := tr3.ru
      rcases (u.trans u3).ns _ (ne_none h2) with z | z
      · exact absurd rfl z
      · exact sF.free z)⟩
end
end TR

/-! part A14 -/
namespace TR
open PySem PySem.Spec PyProof.Rows L2 G
abbrev Run : Type := List (Option (Int × Int))
def nextOf (ds : List ArrD) : Option (Int × Int) → Str
  | none => ""
  | some p => ((arrAt ds p.1).map (·.other)).getD ""
def faultD (ds : List ArrD) (e : Str) (here : Str) (k : Nat) : Run → Option Nat
  | [] => if here = e then none else some k
  | p :: r => if takesB ds here p = true then faultD ds e (nextOf ds p) (k + 1) r else some k
theorem faultD_nil {ds : List ArrD} {e here : Str} {k : Nat} : faultD ds e here k [] = if here = e then none else some k := rfl
theorem faultD_cons {ds : List ArrD} {e here : Str} {k : Nat} {p : Option (Int × Int)} {r : Run} : faultD ds e here k (p :: r) = if takesB ds here p = true then faultD ds e (nextOf ds p) (k + 1) r else some k := rfl
def ofO : Option Nat → V
  | none => .non
  | some k => .int (k : Nat)
def stepOf (ds : List ArrD) : Option (Int × Int) → Str × Int
  | none => ("", 0)
  | some p => (((arrAt ds p.1).map (·.name)).getD "", p.2)
theorem takesB_some' {ds : List ArrD} {here : Str} {p : Option (Int × Int)} (h : takesB ds here p = true) : ∃ i n a, p = some (i, n) ∧ arrAt ds i = some a := by
  cases p with
  | none => cases h
  | some q =>
    cases h1 : arrAt ds q.1 with
    | none => rw [takesB_none (n := q.2) h1] at h; cases h
    | some a => exact ⟨q.1, q.2, a, rfl, h1⟩
theorem arrAt_int {ds : List ArrD} {i : Int} {a : ArrD} (h : arrAt ds i = some a) : 0 ≤ i ∧ ds[i.toNat]? = some a := by
  unfold arrAt at h
  split at h
  · exact ⟨‹_›, h⟩
  · cases h
theorem fault_all {ds : List ArrD} {e : Str} : ∀ {ps : Run} {here : Str} {k : Nat}, faultD ds e here k ps = none → ∀ p ∈ ps, ∃ i n a, p = some (i, n) ∧ arrAt ds i = some a
  | [], _, _, _, _, h => by cases h
  | p :: r, here, k, h, q, hq => by
    unfold faultD at h
    split at h
    · rename_i ht
      rcases List.mem_cons.mp hq with e | e
      · rw [e]; exact takesB_some' ht
      · exact fault_all h q e
    · cases h
section
variable {P : Program} {w : World} {K : PySem.W.Frag} {mg : Str → Option Value} {base : Heap} {CT CN CP EN ET EA ES CR : Addr}
abbrev s_Plan_fault : Stmt := inClass (top 71) 3
abbrev N_Plan_fault : List Str := ["self", "run", "here", "at", "pair"]
abbrev P_Plan_fault : List Str := ["self", "run"]
theorem sc_Plan_fault : FnScope N_Plan_fault P_Plan_fault (defScope s_Plan_fault) := ⟨rfl, rfl, rfl, by decide +kernel, rfl, by decide +kernel, by decide +kernel⟩
theorem bn_Plan_fault : BindsNo "fault" "Plan.fault" s_Plan_fault P_Plan_fault := fun _ _ _ _ _ _ us hl => match us, hl with | [_, _], _ => rfl
def sp_fault (K : PySem.W.Frag) (CT CN CP : Addr) : Sp := fun vs H Q _ => ∃ (F : Hp) (v : V) (a : Addr) (xs : List V) (d : PlanD) (ps : Run), vs = [v, .ref a] ∧ Same F H ∧ (RPlan CT CN CP).rel d v F ∧ Sq2 H a xs ∧ Paired (fun p x => PairV K x H p) ps xs ∧ xs.length ≤ 1000 ∧
  ∀ H', Same H H' → Q (ofO (faultD d.ds d.e d.b 0 ps)) H'
theorem ok_fault (B : Bt mg) (PL : KlF K mg "Plan" CP ["turns", "stations", "arrows", "begin", "end"]) (m_takes : Met P w K mg base 3 CP "takes" (sp_takes K CT CN CP)) (F : MtF K CP "fault" "Plan.fault" s_Plan_fault []) : Met P w K mg base 4 CP "fault" (sp_fault K CT CN CP) := by
  refine F.met PL.cl sc_Plan_fault bn_Plan_fault (fun vs H Q E h => ?_) (fun f cdv A outer s H vs Q E hr h => ?_)
  · obtain ⟨_, _, _, _, _, _, rfl, _⟩ := h
    rfl
  · obtain ⟨F, v, ra, xs, d, ps, rfl, sF, rp, hra, pd, hlen, k⟩ := h
    obtain ⟨a, dx, ts, ta, tv, hp⟩ := id rp
    obtain ⟨tb, as, etb, hta, pda⟩ := hp.ar
    cases etb
    have hxl : xs.length = ps.length := pd_len pd
    refine ⟨_, (pss_cons (ps_set (i := 2) sc_Plan_fault.nd rfl (Or.inl rfl) (k_fld (pv 0) (K := K)))
    (pss_cons (ps_for (passes_of rfl) rfl (k_enumU (by rfl) B.enumerate (pa_cons (pv 1) pa_nil) (K := K)) (k_tup (n := 2) rfl (pgs_cons (pg_name (i := 3) sc_Plan_fault.nd rfl (Or.inl rfl)) (pgs_cons (pg_name (i := 4) sc_Plan_fault.nd rfl (Or.inl rfl)) pgs_nil)) (K := K))
    (pss_cons (ps_if (pt_not (pt_val (pe_m m_takes hr (by decide) (pv 0) (pa_cons (pv 4) (pa_cons (pv 2) pa_nil)) passL))) (pss_one (ps_ret (pv 3))) pss_nil)
    (pss_one (ps_set (i := 2) sc_Plan_fault.nd rfl (Or.inl rfl) (pe_ix (k_ix (K := K)) (pe_ix (k_ix (K := K)) (k_fld (pv 0) (K := K)) (pe_ix (k_ix (K := K)) (pv 4) pe_int (fun _ _ => rfl)) (fun _ _ => rfl)) pe_int (fun _ _ => rfl))))))
    (pss_one (ps_ret (pe_ifExp (pt_cmpR (op_eqU hr (K := K)) (pv 2) (k_fld (pv 0) (K := K)) (nomark _)) pe_non (pe_callB (call_lenU (K := K)) (by rfl) B.len (by decide +kernel) (pa_cons (pv 1) pa_nil))))))), ?_⟩
    refine ⟨_, rfl, a, CP, dx, _, _, hp.ev, sF _ _ hp.ob, PL.cl, PL.no _ (by decide), rfl, ?_⟩
    refine enumU hra (fun Q q => ⟨_, rfl, q⟩) fun J Gd wk hG => ?_
    refine for_it wk (fun i σ H' => ∃ (n m : Option V) (here : Str), Same H H' ∧ faultD d.ds d.e d.b 0 ps = faultD d.ds d.e here i (ps.drop i) ∧ σ = [some v, some (.ref ra), some (.str here), n, m]) ⟨none, none, d.b, Same.refl _, rfl, rfl⟩ (fun i σ H' _ ⟨n, m, here, s1, _⟩ => hG _ s1) ?_ ?_
    · rintro i y σ H' H'' hi ⟨n0, m0, here, s1, hf, rfl⟩ ⟨T, x1, x2, rfl, hT, rfl, e1, hy⟩
      cases e1
      replace hy : xs[i]? = some x2 := hy
      obtain ⟨p, hpi, hpv⟩ := pd_get pd hy
      have hdrop : ps.drop i = p :: ps.drop (i + 1) := by
        have hlt := (List.getElem?_eq_some_iff.mp hpi).1
        have he := (List.getElem?_eq_some_iff.mp hpi).2
        rw [List.drop_eq_getElem_cons hlt, he]
      rw [hdrop, faultD_cons] at hf
      have s2 := s1.trans (Same.new (o := .tup [.int (i : Nat), x2]) hT)
      refine ⟨T, _, rfl, SqT.of upd_same, rfl, _, _, rfl, _, _, rfl, rfl, ?_⟩
      refine ⟨_, rfl, a, dx, _, hp.ev, (sF.trans s2) _ _ hp.ob, rfl, _, rfl, _, rfl, F, v, x2, here, d, p, rfl, sF.trans s2, rp, hpv.mono s2, fun H4 s4 => ?_⟩
      have s5 := s2.trans s4
      refine ⟨_, rfl, ?_⟩
      cases ht : takesB d.ds here p with
      | false =>
        rw [ht, if_neg Bool.false_ne_true] at hf
        have q := k H4 s5
        rw [hf] at q
        exact ⟨_, rfl, q⟩
      | true =>
        rw [ht, if_pos rfl] at hf
        obtain ⟨j, n, x, rfl, hx⟩ := takesB_some' ht
        obtain ⟨hj0, hjx⟩ := arrAt_int hx
        obtain ⟨y, hy2, b2, nv, ha⟩ := pd_get' pda hjx
        have sF5 := sF.trans s5
        cases hpv with
        | ok hb =>
          rename_i pb
          have hb5 := hb.mono s5
          refine ⟨_, rfl, a, CP, dx, _, _, hp.ev, sF5 _ _ hp.ob, PL.cl, PL.no _ (by decide), rfl, ?_⟩
          have ix : ∀ Q : VK, Q (.int j) H4 → rIx K (.ref pb) (.int 0) H4 Q := fun Q q => hb5.elim (fun h => .inl ⟨pb, _, 0, _, rfl, rfl, SqL.of h, atI_nat rfl, q⟩) (fun h => .inr (.inl ⟨pb, _, 0, _, rfl, rfl, SqT.of h, atI_nat rfl, q⟩))
          refine ⟨_, rfl, ix _ (.inr (.inl ⟨ta, as, j, y, rfl, rfl, SqT.of (sF5 _ _ hta), atI_int hj0 hy2, ?_⟩))⟩
          refine .inr (.inl ⟨b2, _, 3, _, ha.ev, rfl, SqT.of (sF5 _ _ ha.ob), atI_nat rfl, ?_⟩)
          refine ⟨_, _, x.other, s5, ?_, rfl⟩
          rw [hf]
          show faultD d.ds d.e (((arrAt d.ds j).map (·.other)).getD "") (i + 1) (ps.drop (i + 1)) = _
          rw [hx]
          rfl
    · rintro σ H' ⟨n0, m0, here, s1, hf, rfl⟩
      rw [hxl, List.drop_length, faultD_nil] at hf
      have q := k H' s1
      rw [hf] at q
      refine ⟨_, rfl, _, rfl, a, CP, dx, _, _, hp.ev, (sF.trans s1) _ _ hp.ob, PL.cl, PL.no _ (by decide), rfl, .inl ⟨rfl, _, rfl, ?_⟩⟩
      by_cases he : here = d.e
      · rw [decide_eq_true (congrArg V.str he)]
        rw [if_pos he] at q
        exact q
      · rw [decide_eq_false (fun z => he (V.str.inj z))]
        rw [if_neg he] at q
        refine ⟨_, rfl, .inl ⟨ra, xs, rfl, (hra.mono s1).sq, ?_⟩⟩
        rw [hxl]
        exact q
abbrev s_Plan_is_run : Stmt := inClass (top 71) 2
abbrev N_Plan_is_run : List Str := ["self", "run"]
abbrev P_Plan_is_run : List Str := ["self", "run"]
theorem sc_Plan_is_run : FnScope N_Plan_is_run P_Plan_is_run (defScope s_Plan_is_run) := ⟨rfl, rfl, rfl, by decide +kernel, rfl, by decide +kernel, by decide +kernel⟩
theorem bn_Plan_is_run : BindsNo "is_run" "Plan.is_run" s_Plan_is_run P_Plan_is_run := fun _ _ _ _ _ _ us hl => match us, hl with | [_, _], _ => rfl
def sp_is_run (K : PySem.W.Frag) (CT CN CP : Addr) : Sp := fun vs H Q _ => ∃ (v rv : V), vs = [v, rv] ∧ ((∃ t, TyX K H rv t ∧ PySem.W.kitAny K t [.type "list", .type "tuple"] = some false ∧ ∀ H', Same H H' → Q (.bl false) H') ∨
  ∃ (F : Hp) (a : Addr) (xs : List V) (d : PlanD) (ps : Run), rv = .ref a ∧ Same F H ∧ (RPlan CT CN CP).rel d v F ∧ Sq2 H a xs ∧ Paired (fun p x => PairV K x H p) ps xs ∧ xs.length ≤ 1000 ∧ ∀ H', Same H H' → Q (.bl (faultD d.ds d.e d.b 0 ps).isNone) H')
theorem ok_is_run (B : Bt mg) (PL : KlF K mg "Plan" CP ["turns", "stations", "arrows", "begin", "end"]) (m_fault : Met P w K mg base 4 CP "fault" (sp_fault K CT CN CP)) (F : MtF K CP "is_run" "Plan.is_run" s_Plan_is_run []) : Met P w K mg base 5 CP "is_run" (sp_is_run K CT CN CP) := by
  refine F.met PL.cl sc_Plan_is_run bn_Plan_is_run (fun vs H Q E h => ?_) (fun f cdv A outer s H vs Q E hr h => ?_)
  · obtain ⟨_, _, rfl, _⟩ := h
    rfl
  · obtain ⟨v, rv, rfl, h⟩ := h
    refine ⟨_, (pss_one (ps_ret (pe_and (pe_callB (k_isiT (K := K)) (by rfl) B.isinstance (by decide +kernel) (pa_cons (pv 1) (pa_cons (pe_tup (pa_cons (pe_ty (n := "list") B.list) (pa_cons (pe_ty (n := "tuple") B.tuple) pa_nil))) pa_nil))) (pe_one (pe_cmpR op_isN (pe_m m_fault hr (by decide) (pv 0) (pa_cons (pv 1) pa_nil) passL) pe_non (nomark _)))))), ?_⟩
    refine ⟨_, rfl, sz (n := 2) (by decide), fun c hc => ?_⟩
    have s1 : Same H (upd H c (.tup [.ty "list", .ty "tuple"])) := Same.new hc
    rcases h with ⟨t, h1, h2, k⟩ | ⟨F, ra, xs, d, ps, rfl, sF, rp, hra, pd, hlen, k⟩
    · refine ⟨_, c, _, _, [.type "list", .type "tuple"], false, rfl, upd_same, .cons (ClsV.ty _) (.cons (ClsV.ty _) .nil), TyX.mono s1 h1, h2, ?_⟩
      exact ⟨_, rfl, iteF (k _ s1)⟩
    · obtain ⟨t, ht, hk⟩ := ty_sq2 (K := K) (hra.mono s1)
      obtain ⟨a, dx, ts, ta, tv, hp⟩ := id rp
      refine ⟨_, c, _, _, [.type "list", .type "tuple"], true, rfl, upd_same, .cons (ClsV.ty _) (.cons (ClsV.ty _) .nil), ht, hk, ?_⟩
      refine ⟨_, rfl, iteT ⟨_, rfl, a, dx, _, hp.ev, (sF.trans s1) _ _ hp.ob, rfl, _, rfl, F, v, ra, xs, d, ps, rfl, sF.trans s1, rp, hra.mono s1, pd_mono (fun _ _ => PairV.mono s1) pd, hlen, fun H2 s2 => ?_⟩⟩
      have q := k H2 (s1.trans s2)
      refine ⟨rfl, ?_⟩
      cases hf : faultD d.ds d.e d.b 0 ps with
      | none => rw [hf] at q; exact q
      | some j => rw [hf] at q; exact q
abbrev s_Plan_row_of : Stmt := inClass (top 71) 4
abbrev N_Plan_row_of : List Str := ["self", "run", "fault", "index", "exponent"]
abbrev P_Plan_row_of : List Str := ["self", "run"]
theorem sc_Plan_row_of : FnScope N_Plan_row_of P_Plan_row_of (defScope s_Plan_row_of) := ⟨rfl, rfl, rfl, by decide +kernel, rfl, by decide +kernel, by decide +kernel⟩
theorem bn_Plan_row_of : BindsNo "row_of" "Plan.row_of" s_Plan_row_of P_Plan_row_of := fun _ _ _ _ _ _ us hl => match us, hl with | [_, _], _ => rfl
def sp_row_of (K : PySem.W.Frag) (CT CN CP CR EA : Addr) : Sp := fun vs H Q E => ∃ (F : Hp) (v : V) (a : Addr) (xs : List V) (d : PlanD) (ps : Run), vs = [v, .ref a] ∧ Same F H ∧ (RPlan CT CN CP).rel d v F ∧ Sq2 F a xs ∧ Paired (fun p x => PairV K x F p) ps xs ∧ xs.length ≤ 1000 ∧
  ((∃ k, faultD d.ds d.e d.b 0 ps = some k ∧ Rz F H EA "index" (.int (k : Nat)) E) ∨ (faultD d.ds d.e d.b 0 ps = none ∧ ∀ r F' H', Pu F H F' H' → (RRow CT CR).rel ⟨d.ks, normal d.ks (ps.map (stepOf d.ds))⟩ r F' → Q r H'))
theorem ok_row_of (B : Bt mg) {q3 : Str} {st3 : Stmt} (PL : KlF K mg "Plan" CP ["turns", "stations", "arrows", "begin", "end"]) (m_fault : Met P w K mg base 4 CP "fault" (sp_fault K CT CN CP)) (k_Row : Mak P w K mg base 5 "Row" CR (sp_Row_init K CT CR)) (x_BadArrow : XTxt P K mg "BadArrow" q3 "index" st3 EA)
    (F : MtF K CP "row_of" "Plan.row_of" s_Plan_row_of []) : Met P w K mg base 7 CP "row_of" (sp_row_of K CT CN CP CR EA) := by
  refine F.met PL.cl sc_Plan_row_of bn_Plan_row_of (fun vs H Q E h => ?_) (fun f cdv A outer s H vs Q E hr h => ?_)
  · obtain ⟨_, _, _, _, _, _, rfl, _⟩ := h
    rfl
  · obtain ⟨F, v, ra, xs, d, ps, rfl, sF, rp, hra, pd, hlen, h⟩ := h
    obtain ⟨a, dx, ts, ta, tv, hp⟩ := id rp
    obtain ⟨tb, as, etb, hta, pda⟩ := hp.ar
    cases etb
    have hxl : xs.length = ps.length := pd_len pd
    refine ⟨_, (pss_cons (ps_set (i := 2) sc_Plan_row_of.nd rfl (Or.inl rfl) (pe_m m_fault hr (by decide) (pv 0) (pa_cons (pv 1) pa_nil) passL))
    (pss_cons (ps_if (pt_cmpR op_notN (pv 2) pe_non (nomark _)) (pss_one (ps_x rfl x_BadArrow hr (takes_of rfl rfl rfl rfl) (pa_cons (pv 2) pa_nil))) pss_nil)
    (pss_one (ps_ret (pe_k k_Row hr (by decide) (pa_cons (k_fld (pv 0) (K := K)) (pa_cons (pe_lc (own := [("index", 3), ("exponent", 4)]) rfl sc_Plan_row_of.nd (k_iu (pv 1) (K := K)) (blkOk_by (N := N_Plan_row_of) (sc := defScope s_Plan_row_of) (by decide +kernel)) (fun _ _ _ _ _ => (k_seq (n := 2) rfl (pgs_cons (pg_name (i := 3) sc_Plan_row_of.nd rfl (Or.inl rfl)) (pgs_cons (pg_name (i := 4) sc_Plan_row_of.nd rfl (Or.inl rfl)) pgs_nil)) (K := K))) (fun _ _ _ _ _ => pts_nil) (fun _ _ _ _ _ => (pe_tup (pa_cons (pe_ix (k_ix (K := K)) (pe_ix (k_ix (K := K)) (k_fld (pv 0) (K := K)) (pv 3) (fun _ _ => rfl)) pe_int (fun _ _ => rfl)) (pa_cons (pv 4) pa_nil))))) pa_nil)) passL))))), ?_⟩
    refine ⟨_, rfl, a, dx, _, hp.ev, sF _ _ hp.ob, rfl, _, rfl, F, v, ra, xs, d, ps, rfl, sF, rp, hra.mono sF, pd_mono (fun _ _ => PairV.mono sF) pd, hlen, fun H1 s1 => ?_⟩
    have sF1 := sF.trans s1
    rcases h with ⟨k, hf, rz⟩ | ⟨hf, k⟩
    · rw [hf]
      refine ⟨_, rfl, rfl, _, rfl, ?_⟩
      exact iteT ⟨_, rfl, _, rfl, fun dd hd => rz F _ dd ⟨s1.trans (Same.new hd), Grow.tmp sF (s1.trans (Same.new hd))⟩ upd_same⟩
    · rw [hf]
      refine ⟨_, rfl, rfl, _, rfl, ?_⟩
      refine iteF ?_
      refine ⟨_, rfl, a, CP, dx, _, _, hp.ev, sF1 _ _ hp.ob, PL.cl, PL.no _ (by decide), rfl, ?_⟩
      refine seqU (hra.mono sF1) (fun Q q => ⟨_, rfl, q⟩) fun J Gd wk hG D hD => ?_
      have all := fault_all hf
      refine go_lc (F1 := F) wk RStep (fun i => (ps.map (stepOf d.ds)).take i) (by omega) sF1 hD (by simp) (fun F5 H5 pu => hG _ pu.same) (fun i y F5 H5 l H' N hi pu fD hl1 hy kt kf => ?_) (fun F5 H5 ys pu fD hl1 pd1 => ?_)
      · obtain ⟨e1, hy⟩ := hy
        subst e1
        obtain ⟨p, hpi, hpv⟩ := pd_get pd hy
        obtain ⟨j, n, x, rfl, hx⟩ := all p (List.mem_of_getElem? hpi)
        obtain ⟨hj0, hjx⟩ := arrAt_int hx
        obtain ⟨y2, hy2, b2, nv, ha⟩ := pd_get' pda hjx
        cases hpv with
        | ok hb =>
          have sF5 := pu.ff.trans pu.sub
          refine gseq (hb.mono sF5) rfl ⟨_, _, rfl, _, _, rfl, rfl, rfl, ?_⟩
          refine ⟨_, rfl, a, CP, dx, _, _, hp.ev, sF5 _ _ hp.ob, PL.cl, PL.no _ (by decide), rfl, _, rfl, .inr (.inl ⟨ta, as, j, y2, rfl, rfl, SqT.of (sF5 _ _ hta), atI_int hj0 hy2, ?_⟩)⟩
          refine .inr (.inl ⟨b2, _, 1, _, ha.ev, rfl, SqT.of (sF5 _ _ ha.ob), atI_nat rfl, ?_⟩)
          refine ⟨_, rfl, sz (n := 2) (by decide), fun q hq => ?_⟩
          refine kt (.ref q) _ (upd F5 q (.tup [.str x.name, .int n])) (x.name, n) ((Pu.refl pu.sub).add hq) ⟨q, _, _, rfl, upd_same, rfl, rfl⟩ (take_snoc ?_)
          rw [List.getElem?_map, hpi]
          show some (((arrAt d.ds j).map (·.name)).getD ("" : Str), n) = _
          rw [hx]
          rfl
      · rw [hxl, show ps.length = (ps.map (stepOf d.ds)).length by simp, take_all] at pd1
        have w0 : Own F H F H1 [] := (Own.nil (Pu.refl sF)).tmp s1
        have w1 := w0.lc hD pu fD hl1
        have w2 := w1.fix 0
        refine fun x dx2 hx hdx ne => ⟨_, _, x, dx2, tv, .ref D, d.ks, ps.map (stepOf d.ds), rfl, ⟨w2.sub, hx, hdx, ne, rfl⟩, (RTurns CT).mono w2.ff hp.tu, ⟨D, ys, rfl, .inl (.inl upd_same), pd_mono (fun _ _ => RStep.mono (w1.ext 0)) pd1⟩, fun s hs => ?_, by simp; omega, fun F' H' pu' rr => ⟨rfl, k _ _ _ (w2.pu.trans pu') rr⟩⟩
        obtain ⟨p, hpm, rfl⟩ := List.mem_map.mp hs
        obtain ⟨j, n, x, rfl, hx⟩ := all p hpm
        obtain ⟨hj0, hjx⟩ := arrAt_int hx
        have := (hp.gd x (List.mem_of_getElem? hjx)).2.1
        show ∃ p, d.ks.lookup (((arrAt d.ds j).map (·.name)).getD ("" : Str)) = some p
        rw [hx]
        exact Option.isSome_iff_exists.mp this
end
end TR

/-! part M24 -/
/-! A run that does not lead there. -/
namespace TR
open PySem PySem.Spec PyProof.Rows L2 G
section
variable {P : Program} {w : World} {K : PySem.W.Frag} {mg : Str → Option Value} {base : Heap} {CT CG CM CR CB CC CN CP : Addr}
abbrev s_bad_run : Stmt := top 74
abbrev N_bad_run : List Str := ["book", "plan", "place", "other", "trace", "runs", "station", "one", "two", "run"]
abbrev P_bad_run : List Str := ["book", "plan", "place", "other"]
theorem sc_bad_run : FnScope N_bad_run P_bad_run (defScope s_bad_run) := ⟨rfl, rfl, rfl, by decide +kernel, rfl, by decide +kernel, by decide +kernel⟩
theorem bn_bad_run : BindsNo "bad_run" "bad_run" s_bad_run P_bad_run := fun _ _ _ _ _ _ us hl => match us, hl with | [_, _, _, _], _ => rfl
theorem find_at {α : Type} {p : α → Bool} {l : List α} {i : Nat} {x : α} (h : l[i]? = some x) (hn : (l.take i).find? p = none) (hx : p x = true) : l.find? p = some x := by
  have hlt := (List.getElem?_eq_some_iff.mp h).1
  have e : l = l.take i ++ x :: l.drop (i + 1) := by
    have he := (List.getElem?_eq_some_iff.mp h).2
    rw [← he, ← List.drop_eq_getElem_cons hlt, List.take_append_drop]
  rw [e, List.find?_append, hn]
  simp [hx]
theorem TrAt.sv' {CC : Addr} {p : TrP} {d : TrD} {F S S' : Hp} (h : TrAt CC p d F S) (s : Same S S') : TrAt CC p d F S' := by
  obtain ⟨dx, uv, h0, hu⟩ := h.ob
  obtain ⟨ka, h1, kd⟩ := h.st
  obtain ⟨kr, h2, kd2⟩ := h.ru
  exact ⟨⟨dx, uv, s _ _ h0, hu⟩, ⟨ka, s _ _ h1, kd⟩, ⟨kr, s _ _ h2, kd2⟩, h.ne, h.ks⟩
def traceM (bd : BookD) (pd : PlanD) (z1 : Str) : TrD := runAllM bd.ks bd.md pd (spotN bd.md z1, [])
def runsM (bd : BookD) (pd : PlanD) (z1 : Str) : List RunL := match (traceM bd pd z1).un with
  | some (s, a, b) => [a ++ tailAt (wayL pd) s, b ++ tailAt (wayL pd) s]
  | none => match (traceM bd pd z1).ru.lookup pd.e with
    | some r => [r]
    | none => []
def claimM (bd : BookD) (pd : PlanD) (z1 z2 : Str) (run : RunL) : ClD := ⟨z1, ⟨bd.ks, normal bd.ks ((run.map some).map (stepOf pd.ds))⟩, z2⟩
def badRunM (bd : BookD) (pd : PlanD) (z1 z2 : Str) : Option RunL := (runsM bd pd z1).find? fun run => !inBook bd (claimM bd pd z1 z2 run)
def sp_bad_run (CM CG CT CN CP CB CC : Addr) : Sp := fun vs H Q _ => ∃ (F : Hp) (ba bdx ts : Addr) (tw fv rv pw : V) (ad : Ad) (bd : BookD) (pd : PlanD) (z1 z2 : Str),
  vs = [.ref ba, pw, .str z1, .str z2] ∧ Same F H ∧ BookAt CB CM CG CT bd (.ref ba) F ba bdx ts tw fv rv ad ∧ BkOk bd ∧ (RPlan CT CN CP).rel pd pw F ∧ pd.ks = bd.ks ∧ z1 ∈ bd.pl ∧ z2 ∈ bd.pl ∧ pd.b ∈ pd.st ∧ pd.e ∈ pd.st ∧ pd.st.length ≤ 1000 ∧ (∀ r ∈ pd.ds, NumB r.num) ∧ (∀ (s : StD) n, s.1 ∈ bd.md.spots → n ∈ bd.ks.map (·.1) → 0 ≤ modAt bd.ks bd.md s n) ∧
  (∀ run ∈ runsM bd pd z1, faultD pd.ds pd.e pd.b 0 (run.map some) = none ∧ run.length ≤ 1000 ∧ (∀ st ∈ (claimM bd pd z1 z2 run).row.ss, st.1 ∈ bd.ks.map (·.1)) ∧ (claimM bd pd z1 z2 run).row.ss.length ≤ 10000) ∧ (∀ u, (traceM bd pd z1).un = some u → ∃ t, (wayL pd).lookup u.1 = some t) ∧
  ∀ G H' v, Pu F H G H' → (match badRunM bd pd z1 z2 with
    | none => v = .non
    | some run => RLs.rel run v G) → Q v H'
theorem ok_bad_run (B : Bt mg) (PL : KlF K mg "Plan" CP ["turns", "stations", "arrows", "begin", "end"]) (TC : KlF K mg "Trace" CC trNames) (c_checked_trace : Cal P w K mg base 7 "checked_trace" (sp_checked_trace CM CG CT CN CP CB CC)) (m_way_out : Met P w K mg base 3 CP "way_out" (sp_way_out CT CN CP)) (m_row_of : Met P w K mg base 7 CP "row_of" (sp_row_of K CT CN CP CR EA))
    (m_Book_in : Met P w K mg base 5 CB "__contains__" (sp_Book_in CB CM CG CT CR)) (F : FnF K mg "bad_run" s_bad_run []) : Cal P w K mg base 8 "bad_run" (sp_bad_run CM CG CT CN CP CB CC) := by
  refine F.cal sc_bad_run bn_bad_run (fun vs H Q E h => ?_) (fun f cdv A outer s H vs Q E hr h => ?_)
  · obtain ⟨_, _, _, _, _, _, _, _, _, _, _, _, _, rfl, _⟩ := h
    rfl
  · obtain ⟨F, ba, bdx, ts, tw, fv, rv, pw, ad, bd, pd, z1, z2, rfl, sF, hb, bo, rp, hks, hz1, hz2, hpb, hpe, hst, hnb, hmod, hruns, hway, k⟩ := h
    refine ⟨_, (pss_cons (ps_set (i := 4) sc_bad_run.nd rfl (Or.inl rfl) (pe_c c_checked_trace hr (by decide) (pa_cons (pv 0) (pa_cons (pv 1) (pa_cons (pv 2) (pa_cons (pv 3) pa_nil)))) passL))
    (pss_cons (ps_set (i := 5) sc_bad_run.nd rfl (Or.inl rfl) (pe_lst pa_nil))
    (pss_cons (ps_if (pt_cmpR op_notN (k_fld (pv 4) (K := K)) pe_non (nomark _)) (pss_cons (ps_asg (k_fld (pv 4) (K := K)) (k_tup (n := 3) rfl (pgs_cons (pg_name (i := 6) sc_bad_run.nd rfl (Or.inl rfl)) (pgs_cons (pg_name (i := 7) sc_bad_run.nd rfl (Or.inl rfl)) (pgs_cons (pg_name (i := 8) sc_bad_run.nd rfl (Or.inl rfl)) pgs_nil))) (K := K)))
    (pss_one (ps_set (i := 5) sc_bad_run.nd rfl (Or.inl rfl) (pe_lst (pa_cons (pe_op op_addU (pv 7) (pe_m m_way_out hr (by decide) (pv 1) (pa_cons (pv 6) pa_nil) passL)) (pa_cons (pe_op op_addU (pv 8) (pe_m m_way_out hr (by decide) (pv 1) (pa_cons (pv 6) pa_nil) passL)) pa_nil)))))) (pss_one (ps_if (pt_cmp (pc_din (hu_of hr) (k_fld (pv 1) (K := K)) (k_fld (pv 4) (K := K)))) (pss_one (ps_set (i := 5) sc_bad_run.nd rfl (Or.inl rfl) (pe_lst (pa_cons (pe_dget (hu_of hr) (k_fld (pv 4) (K := K)) (k_fld (pv 1) (K := K)) (fun _ _ => rfl)) pa_nil)))) pss_nil)))
    (pss_cons (ps_for (passes_of rfl) rfl (k_il (pv 5) (K := K)) (pg_name (i := 9) sc_bad_run.nd rfl (Or.inl rfl))
    (pss_one (ps_if (pt_cmpR (op_niO m_Book_in hr (by decide) passL) (pe_tup (pa_cons (pv 2) (pa_cons (pe_m m_row_of hr (by decide) (pv 1) (pa_cons (pv 9) pa_nil) passL) (pa_cons (pv 3) pa_nil)))) (pv 0) (by rfl)) (pss_one (ps_ret (pv 9))) pss_nil)))
    (pss_one (ps_ret pe_non)))))), ?_⟩
    obtain ⟨a, pdx, pts, ta, tv, hp⟩ := id rp
    have rb : (RBook CB CM CG CT).rel bd (.ref ba) F := ⟨ba, bdx, ts, tw, fv, rv, ad, hb⟩
    refine stp [some (.ref ba), some pw, some (.str z1), some (.str z2), none, none, none, none, none, none] rfl fun N hN => ?_
    refine ⟨_, rfl, _, rfl, _, rfl, _, rfl, F, ba, bdx, ts, tw, fv, rv, pw, ad, bd, pd, z1, z2, rfl, sF, hb, bo, rp, hks, hz1, hz2, hpb, hpe, hst, hnb, hmod, fun G H1 p pu1 tr hpv _ => ?_⟩
    refine hN _ _ ?_
    clear hN
    refine stp [some (.ref ba), some pw, some (.str z1), some (.str z2), some (.ref p.x), none, none, none, none, none] rfl fun N hN => ?_
    refine ⟨sz (n := 0) (by decide), fun L0 hL0 => hN _ _ ?_⟩
    clear hN
    have pu2 := pu1.add (o := .lst []) hL0
    have s12 := Same.new (o := .lst []) (pu1.sub.free hL0)
    have tr2 : TrAt CC p (traceM bd pd z1) (upd G L0 (.lst [])) (upd G L0 (.lst [])) := (tr.ff s12).sv' s12
    obtain ⟨dx, uv, h0, hu⟩ := tr2.ob
    refine sj (R := fun σ2 H2 => ∃ (F2 : Hp) (L : Addr) (rs : List V) (x6 x7 x8 : Option V), Pu F H F2 H2 ∧ F2 L = some (.lst rs) ∧ Paired (fun d x => RLs.rel d x F2) (runsM bd pd z1) rs ∧ σ2 = [some (.ref ba), some pw, some (.str z1), some (.str z2), some (.ref p.x), some (.ref L), x6, x7, x8, none]) ?_ (fun fin => ?_)
    · rintro σ2 H2 ⟨F2, L, rs, x6, x7, x8, pu, hL, pdr, rfl⟩
      refine stp [some (.ref ba), some pw, some (.str z1), some (.str z2), some (.ref p.x), some (.ref L), x6, x7, x8, none] rfl fun N hN => ?_
      refine ⟨_, rfl, L, rfl, ⟨_, SqL.of (pu.sub _ _ hL)⟩, ?_⟩
      refine for_it (walk_list (xs := rs)) (fun i σ H' => ∃ (F3 : Hp) (x9 : Option V), Pu F H F3 H' ∧ Same F2 F3 ∧ ((runsM bd pd z1).take i).find? (fun run => !inBook bd (claimM bd pd z1 z2 run)) = none ∧ σ = [some (.ref ba), some pw, some (.str z1), some (.str z2), some (.ref p.x), some (.ref L), x6, x7, x8, x9]) ⟨F2, none, pu, Same.refl _, rfl, rfl⟩ (fun i σ H' _ ⟨F3, _, pu, s, _⟩ => SqL.of (pu.sub _ _ (s _ _ hL))) ?_ ?_
      · rintro i y σ H3 H4 hi ⟨F3, x9, pu3, s3, hfind, rfl⟩ ⟨e1, hy⟩
        subst e1
        obtain ⟨run, hrun, rr⟩ := pd_get pdr hy
        obtain ⟨lr, rxs, rfl, hlr, prx⟩ := RLs.mono s3 rr
        obtain ⟨hf, hlen, hnames, hcl⟩ := hruns run (List.mem_of_getElem? hrun)
        have hxl : rxs.length = run.length := pd_len prx
        have hpv2 : Paired (fun p x => PairV K x F3 p) (run.map some) rxs := by
          clear hf hlen hnames hcl hxl hrun rr hlr
          induction prx with
          | nil => exact .nil
          | cons h _ ih =>
            obtain ⟨c, u1, u2, rfl, hc, rfl, rfl⟩ := h
            exact .cons (.ok (.inr hc)) ih
        refine (show tIfS _ _ _ _ _ _ from ?_)
        refine stq [some (.ref ba), some pw, some (.str z1), some (.str z2), some (.ref p.x), some (.ref L), x6, x7, x8, some (.ref lr)] rfl ?_
        refine ⟨_, rfl, _, rfl, a, pdx, _, hp.ev, pu3.sub _ _ (pu3.ff _ _ hp.ob), rfl, _, rfl, F3, pw, lr, rxs, pd, run.map some, rfl, pu3.sub, (RPlan CT CN CP).mono pu3.ff rp, .inl hlr, hpv2, by omega, .inr ⟨hf, fun r F5 H5 pu5 rrow => ?_⟩⟩
        have pu35 := pu3.trans pu5
        have rrow' : (RRow CT CR).rel (claimM bd pd z1 z2 run).row r F5 := by
          unfold claimM
          rw [← hks]
          exact rrow
        refine ⟨_, rfl, sz (n := 3) (by decide), fun q hq => ?_⟩
        have pu6 := pu35.add (o := .tup [.str z1, r, .str z2]) hq
        have s6 := Same.new (o := .tup [.str z1, r, .str z2]) (pu35.sub.free hq)
        refine ⟨_, rfl, ba, bdx, _, rfl, pu6.sub _ _ (pu6.ff _ _ hb.ob), ?_⟩
        refine ⟨_, _, _, bd, claimM bd pd z1 z2 run, rfl, pu6.sub, (RBook CB CM CG CT).mono pu6.ff rb, bo, ⟨q, r, rfl, upd_same, (RRow CT CR).mono s6 rrow'⟩, rfl, hnames, hcl, fun H7 s7 => ⟨_, rfl, ?_⟩⟩
        have pu7 : Pu F H _ H7 := pu6.trans ⟨s7, Grow.tmp pu6.sub s7⟩
        have s37 : Same F3 (upd F5 q (.tup [.str z1, r, .str z2])) := pu5.ff.trans s6
        cases hin : inBook bd (claimM bd pd z1 z2 run) with
        | true =>
          refine ⟨_, rfl, iteF ?_⟩
          refine ⟨_, _, pu7, s3.trans s37, ?_, rfl⟩
          rw [take_snoc hrun, List.find?_append, hfind]
          simp [hin]
        | false =>
          refine ⟨_, rfl, iteT ⟨_, rfl, ?_⟩⟩
          refine k _ H7 (.ref lr) pu7 ?_
          show match badRunM bd pd z1 z2 with
            | none => V.ref lr = .non
            | some run => RLs.rel run (.ref lr) (upd F5 q (.tup [.str z1, r, .str z2]))
          rw [show badRunM bd pd z1 z2 = some run from find_at hrun hfind (by rw [hin]; rfl)]
          exact RLs.mono (s3.trans s37) rr
      · rintro σ H3 ⟨F3, x9, pu3, s3, hfind, rfl⟩
        rw [pd_len pdr, List.take_length] at hfind
        refine hN _ _ ?_
        clear hN
        refine k F3 H3 .non pu3 ?_
        show match badRunM bd pd z1 z2 with
          | none => V.non = .non
          | some run => RLs.rel run .non F3
        rw [show badRunM bd pd z1 z2 = none from hfind]
    · refine stq [some (.ref ba), some pw, some (.str z1), some (.str z2), some (.ref p.x), some (.ref L0), none, none, none, none] rfl ?_
      refine stp [some (.ref ba), some pw, some (.str z1), some (.str z2), some (.ref p.x), some (.ref L0), none, none, none, none] rfl fun N hN => ?_
      refine ⟨_, rfl, p.x, CC, dx, _, _, rfl, pu2.sub _ _ h0, TC.cl, TC.no _ (by decide), rfl, rfl, _, rfl, ?_⟩
      have jn : ∀ (F2 : Hp) (H2 : Hp) (L : Addr) (rs : List V) (x6 x7 x8 : Option V), Pu F H F2 H2 → F2 L = some (.lst rs) → Paired (fun d x => RLs.rel d x F2) (runsM bd pd z1) rs → N [some (.ref ba), some pw, some (.str z1), some (.str z2), some (.ref p.x), some (.ref L), x6, x7, x8, none] H2 := fun F2 H2 L rs x6 x7 x8 q1 q2 q3 => hN _ _ (fin _ _ ⟨F2, L, rs, x6, x7, x8, q1, q2, q3, rfl⟩)
      cases hun : (traceM bd pd z1).un with
      | some u =>
        obtain ⟨s, ra, rb'⟩ := u
        rw [hun] at hu
        obtain ⟨tu, xa, xb, rfl, htu, rla, rlb⟩ := hu
        obtain ⟨tl, htl⟩ := hway _ hun
        have hta : tailAt (wayL pd) s = tl := by unfold tailAt; rw [htl]; rfl
        have hrs : runsM bd pd z1 = [ra ++ tl, rb' ++ tl] := by unfold runsM; rw [hun]; show [ra ++ tailAt (wayL pd) s, rb' ++ tailAt (wayL pd) s] = _; rw [hta]
        rw [decide_eq_false (by intro q; cases q)]
        refine iteT ?_
        refine stp [some (.ref ba), some pw, some (.str z1), some (.str z2), some (.ref p.x), some (.ref L0), none, none, none, none] rfl fun N3 hN3 => ?_
        refine ⟨_, rfl, p.x, CC, dx, _, _, rfl, pu2.sub _ _ h0, TC.cl, TC.no _ (by decide), rfl, tu, _, rfl, SqT.of (pu2.sub _ _ htu), rfl, _, _, rfl, _, _, rfl, _, _, rfl, rfl, ?_⟩
        refine hN3 _ _ ?_
        clear hN3
        refine stq [some (.ref ba), some pw, some (.str z1), some (.str z2), some (.ref p.x), some (.ref L0), some (.str s), some xa, some xb, none] rfl ?_
        have l1 := (hruns (ra ++ tl) (by rw [hrs]; simp)).2.1
        have l2 := (hruns (rb' ++ tl) (by rw [hrs]; simp)).2.1
        rw [List.length_append] at l1 l2
        -- one of the two
        have one : ∀ (rq : RunL) (xq : V) (j : Nat) (F3 H3 : Hp), ([some (.ref ba), some pw, some (.str z1), some (.str z2), some (.ref p.x), some (.ref L0), some (.str s), some xa, some xb, none] : L2.St)[j]? = some (some xq) → rq.length + tl.length ≤ 1000 → Pu F H F3 H3 → RLs.rel rq xq F3 → ∀ Q' : VK, (∀ q F4 H4, Pu F3 H3 F4 H4 → RLs.rel (rq ++ tl) (.ref q) F4 → Q' (.ref q) H4) →
            tOp rAddU (tVar j) (tMeth CP "way_out" (sp_way_out CT CN CP) [] E0 (tVar 1) (tCons (tVar 6) tNil)) [some (.ref ba), some pw, some (.str z1), some (.str z2), some (.ref p.x), some (.ref L0), some (.str s), some xa, some xb, none] H3 Q' := by
          intro rq xq j F3 H3 hj hlen pu3 rrq Q' kq
          refine ⟨xq, hj, _, rfl, a, pdx, _, hp.ev, pu3.sub _ _ (pu3.ff _ _ hp.ob), rfl, _, rfl, F3, pw, pd, s, tl, rfl, pu3.sub, (RPlan CT CN CP).mono pu3.ff rp, hpe, hst, hnb, htl, fun vt F4 H4 pu4 rt _ => ?_⟩
          obtain ⟨la, xs, rfl, hla, pxs⟩ := RLs.mono pu4.ff rrq
          obtain ⟨lb, zs, rfl, hlb, pzs⟩ := rt
          have e1 := pd_len pxs
          have e2 := pd_len pzs
          refine .inr (.inr ⟨la, lb, xs, zs, rfl, rfl, pu4.sub _ _ hla, pu4.sub _ _ hlb, sz (by omega), fun q hq => ?_⟩)
          have s4 := Same.new (o := .lst (xs ++ zs)) (pu4.sub.free hq)
          exact kq q _ _ (pu4.add hq) ⟨q, _, rfl, upd_same, pd_app (pd_mono (fun _ _ => RPr.mono s4) pxs) (pd_mono (fun _ _ => RPr.mono s4) pzs)⟩
        refine one ra xa 7 _ _ rfl l1 pu2 rla _ fun q1 F3 H3 pu3 r1 => ?_
        have pu23 := pu2.trans pu3
        refine one rb' xb 8 _ _ rfl l2 pu23 (RLs.mono pu3.ff rlb) _ fun q2 F4 H4 pu4 r2 => ?_
        have pu24 := pu23.trans pu4
        refine ⟨sz (n := 2) (by decide), fun L hL => ?_⟩
        have s5 := Same.new (o := .lst [.ref q1, .ref q2]) (pu24.sub.free hL)
        refine jn _ _ L [.ref q1, .ref q2] (some (.str s)) (some xa) (some xb) (pu24.add hL) upd_same ?_
        rw [hrs]
        exact .cons (RLs.mono (pu4.ff.trans s5) r1) (.cons (RLs.mono s5 r2) .nil)
      | none =>
        rw [hun] at hu
        have hu : uv = .non := hu
        rw [decide_eq_true hu]
        refine iteF ?_
        refine stq [some (.ref ba), some pw, some (.str z1), some (.str z2), some (.ref p.x), some (.ref L0), none, none, none, none] rfl ?_
        obtain ⟨ka, h1, kd⟩ := tr2.st
        obtain ⟨kr, h2, kd2⟩ := tr2.ru
        refine ⟨_, rfl, a, CP, pdx, _, _, hp.ev, pu2.sub _ _ (pu2.ff _ _ hp.ob), PL.cl, PL.no _ (by decide), rfl, _, rfl, p.x, CC, dx, _, _, rfl, pu2.sub _ _ h0, TC.cl, TC.no _ (by decide), rfl, p.es, _, rfl, DGet.k (k := Sum.inr pd.e) (pu2.sub _ _ h1), _, rfl, ?_⟩
        cases hl : (traceM bd pd z1).st.lookup pd.e with
        | none =>
          have hne : pd.e ∉ (traceM bd pd z1).st.map (·.1) := fun z => by
            obtain ⟨b, hb⟩ := look_mem z
            rw [hl] at hb
            cases hb
          rw [kd.none hne]
          refine iteF (jn _ _ L0 [] none none none pu2 upd_same ?_)
          rw [show runsM bd pd z1 = [] by unfold runsM; rw [hun]; show (match (traceM bd pd z1).ru.lookup pd.e with
            | some r => [r]
            | none => [] : List RunL) = []; rw [look_none (by rw [← tr2.ks]; exact hne)]]
          exact .nil
        | some st =>
          obtain ⟨sv, hsv, _⟩ := kd.get hl
          rw [hsv]
          refine iteT ?_
          have hme : pd.e ∈ (traceM bd pd z1).ru.map (·.1) := by rw [← tr2.ks]; exact List.mem_map.mpr ⟨_, mem_of_look hl, rfl⟩
          obtain ⟨r, hr⟩ := look_mem hme
          obtain ⟨rv', hrv, rr⟩ := kd2.get hr
          refine ⟨_, rfl, p.x, CC, dx, _, _, rfl, pu2.sub _ _ h0, TC.cl, TC.no _ (by decide), rfl, _, rfl, a, CP, pdx, _, _, hp.ev, pu2.sub _ _ (pu2.ff _ _ hp.ob), PL.cl, PL.no _ (by decide), rfl, p.er, rv', rfl, hrv ▸ DGet.k (k := Sum.inr pd.e) (pu2.sub _ _ h2), sz (n := 1) (by decide), fun L hL => ?_⟩
          refine jn _ _ L [rv'] none none none (pu2.add (o := .lst [rv']) hL) upd_same ?_
          rw [show runsM bd pd z1 = [r] by unfold runsM; rw [hun]; show (match (traceM bd pd z1).ru.lookup pd.e with
            | some r => [r]
            | none => [] : List RunL) = [r]; rw [hr]]
          exact .cons (RLs.mono (Same.new (pu2.sub.free hL)) rr) .nil
end
end TR

/-! part M25 -/
/-! Whether a plan is sure; its table. -/
namespace TR
open PySem PySem.Spec PyProof.Rows L2 G
section
variable {P : Program} {w : World} {K : PySem.W.Frag} {mg : Str → Option Value} {base : Heap} {CT CG CM CR CB CC CN CP : Addr}
/-- what is asked of a book and a plan ahead of a trace -/
structure Askd (CM CG CT CN CP CB : Addr) (F : Hp) (ba : Addr) (pw : V) (bd : BookD) (pd : PlanD) (z1 z2 : Str) : Prop where
  at_ : ∃ bdx ts tw fv rv ad, BookAt CB CM CG CT bd (.ref ba) F ba bdx ts tw fv rv ad
  bo : BkOk bd
  rp : (RPlan CT CN CP).rel pd pw F
  ks : pd.ks = bd.ks
  m1 : z1 ∈ bd.pl
  m2 : z2 ∈ bd.pl
  b : pd.b ∈ pd.st
  e : pd.e ∈ pd.st
  ln : pd.st.length ≤ 1000
  nb : ∀ r ∈ pd.ds, NumB r.num
  md : ∀ (s : StD) n, s.1 ∈ bd.md.spots → n ∈ bd.ks.map (·.1) → 0 ≤ modAt bd.ks bd.md s n
  rn : ∀ run ∈ runsM bd pd z1, faultD pd.ds pd.e pd.b 0 (run.map some) = none ∧ run.length ≤ 1000 ∧ (∀ st ∈ (claimM bd pd z1 z2 run).row.ss, st.1 ∈ bd.ks.map (·.1)) ∧ (claimM bd pd z1 z2 run).row.ss.length ≤ 10000
  wy : ∀ u, (traceM bd pd z1).un = some u → ∃ t, (wayL pd).lookup u.1 = some t
theorem Askd.mono {F F' : Hp} {ba : Addr} {pw : V} {bd : BookD} {pd : PlanD} {z1 z2 : Str} (h : Askd CM CG CT CN CP CB F ba pw bd pd z1 z2) (s : Same F F') : Askd CM CG CT CN CP CB F' ba pw bd pd z1 z2 := by
  obtain ⟨bdx, ts, tw, fv, rv, ad, hb⟩ := h.at_
  exact ⟨⟨bdx, ts, tw, fv, rv, ad, hb.ev, s _ _ hb.ob, (RTurns CT).mono s hb.tu, s _ _ hb.pl, hb.ri.mono s⟩, h.bo, (RPlan CT CN CP).mono s h.rp, h.ks, h.m1, h.m2, h.b, h.e, h.ln, h.nb, h.md, h.rn, h.wy⟩
abbrev s_sure : Stmt := top 75
abbrev N_sure : List Str := ["book", "plan", "place", "other"]
abbrev P_sure : List Str := ["book", "plan", "place", "other"]
theorem sc_sure : FnScope N_sure P_sure (defScope s_sure) := ⟨rfl, rfl, rfl, by decide +kernel, rfl, by decide +kernel, by decide +kernel⟩
theorem bn_sure : BindsNo "sure" "sure" s_sure P_sure := fun _ _ _ _ _ _ us hl => match us, hl with | [_, _, _, _], _ => rfl
def sp_sure (CM CG CT CN CP CB : Addr) : Sp := fun vs H Q _ => ∃ (F : Hp) (ba : Addr) (pw : V) (bd : BookD) (pd : PlanD) (z1 z2 : Str), vs = [.ref ba, pw, .str z1, .str z2] ∧ Same F H ∧ Askd CM CG CT CN CP CB F ba pw bd pd z1 z2 ∧
  ∀ H', Same H H' → Q (.bl (badRunM bd pd z1 z2).isNone) H'
theorem ok_sure (c_bad_run : Cal P w K mg base 8 "bad_run" (sp_bad_run CM CG CT CN CP CB CC)) (F : FnF K mg "sure" s_sure []) : Cal P w K mg base 9 "sure" (sp_sure CM CG CT CN CP CB) := by
  refine F.cal sc_sure bn_sure (fun vs H Q E h => ?_) (fun f cdv A outer s H vs Q E hr h => ?_)
  · obtain ⟨_, _, _, _, _, _, _, rfl, _⟩ := h
    rfl
  · obtain ⟨F, ba, pw, bd, pd, z1, z2, rfl, sF, ask, k⟩ := h
    obtain ⟨bdx, ts, tw, fv, rv, ad, hb⟩ := ask.at_
    refine ⟨_, (pss_one (ps_ret (pe_cmpR op_isN (pe_c c_bad_run hr (by decide) (pa_cons (pv 0) (pa_cons (pv 1) (pa_cons (pv 2) (pa_cons (pv 3) pa_nil)))) passL) pe_non (nomark _)))), ?_⟩
    refine ⟨_, rfl, _, rfl, _, rfl, _, rfl, F, ba, bdx, ts, tw, fv, rv, pw, ad, bd, pd, z1, z2, rfl, sF, hb, ask.bo, ask.rp, ask.ks, ask.m1, ask.m2, ask.b, ask.e, ask.ln, ask.nb, ask.md, ask.rn, ask.wy, fun G H1 v pu hv => ?_⟩
    have q := k H1 pu.same
    refine ⟨rfl, ?_⟩
    cases hbr : badRunM bd pd z1 z2 with
    | none =>
      rw [hbr] at hv q
      have hv : v = .non := hv
      rw [decide_eq_true hv]
      exact q
    | some run =>
      rw [hbr] at hv q
      obtain ⟨a, xs, rfl, _⟩ := hv
      rw [decide_eq_false (by intro z; cases z)]
      exact q
end
end TR

/-! part N1 -/
/-! The plain law: sets of exponents; the map of one place. -/
namespace TR
open PySem PySem.Spec PyProof.Rows L2 G
theorem numB_of {d : NumD} {ps : Classes} (h : NumOk d ps) (hb : ∀ p ∈ ps, p.1.natAbs < bigN ∧ p.2.natAbs < bigN) : NumB d where
  cs := fun c hc => by
    obtain ⟨p, hp, h0, e⟩ := h.cs c hc
    subst e
    have h1 := (hb p hp).2
    refine ⟨?_, h1⟩
    have l1 : 0 ≤ p.1 % p.2 := Int.emod_nonneg _ (by omega)
    have l2 : p.1 % p.2 < p.2 := Int.emod_lt_of_pos _ h0
    show (p.1 % p.2).natAbs < bigN
    generalize bigN = b at *
    omega
  sg := fun k hk => by
    obtain ⟨p, hp, _, rfl⟩ := h.sg k hk
    exact (hb p hp).1
/-- a set of one integer has it alone -/
theorem single_mem {d : NumD} {n k : Int} (h : NumOk d [(n, 0)]) : memD k d = true ↔ k = n := by
  rw [h.mem]
  unfold memP
  simp
theorem neB_iff {d : NumD} (pos : Pos d.cs) : neB d = true ↔ ∃ k, memD k d = true := by
  constructor
  · intro h
    exact ⟨_, (nr0_ok pos h).2⟩
  · rintro ⟨k, hk⟩
    unfold neB
    cases hs : d.sg with
    | cons _ _ => simp
    | nil =>
      cases hc : d.cs with
      | cons _ _ => simp
      | nil =>
        rcases mem_cases.mp hk with h | ⟨c, h, _⟩
        · rw [hs] at h; cases h
        · rw [hc] at h; cases h
end TR

/-! part N2 -/
/-! The plain law: the map of one place. -/
namespace TR
open PySem PySem.Spec PyProof.Rows L2 G
/-- a map of one spot, a ring for each of some turns -/
structure OneM (ks : Kinds) (md : MapD) : Prop where
  laid : md.laid = 1
  drawn : md.drawn = ks.length
  spots : md.spots = [0]
  has : md.has 0 = ks.map (·.1)
  ring : ∀ i p, ks[i]? = some p → md.ring i = ⟨p.1, p.2, [(0, 0)]⟩ ∧ md.lying 0 p.1 = [(i, 0)]
theorem addTurn_ring {md : MapD} {s : Nat} {n : Str} {per : Int} (k : Nat) : (md.addTurn s n per).ring k = if k = md.drawn then ⟨n, per, [(s, 0)]⟩ else md.ring k := by
  unfold MapD.addTurn MapD.seat
  by_cases h : k = md.drawn
  · subst h
    rw [if_pos rfl]
    show (MapD.setRing _ _ _).ring _ = _
    rw [setRing_same]
    simp [MapD.newL, MapD.newR, RingD.sit]
  · rw [if_neg h]
    show (MapD.setRing _ _ _).ring _ = _
    rw [setRing_ne h]
    simp [MapD.newL, MapD.newR, h]
theorem addTurn_lying {md : MapD} {s : Nat} {n : Str} {per : Int} (s' : Nat) (n' : Str) : (md.addTurn s n per).lying s' n' = if s' = s ∧ n' = n then [(md.drawn, 0)] else md.lying s' n' := by
  unfold MapD.addTurn MapD.seat
  simp only [MapD.newL, MapD.newR, MapD.setLie, MapD.setRing, if_true]
  by_cases h : s' = s ∧ n' = n
  · rw [if_pos h, if_pos h]
    simp
  · rw [if_neg h, if_neg h, if_neg h]
theorem OneM.snoc {ks : Kinds} {md : MapD} {p : Str × Int} (h : OneM ks md) (hn : p.1 ∉ ks.map (·.1)) : OneM (ks ++ [p]) (md.addTurn 0 p.1 p.2) where
  laid := h.laid
  drawn := by show md.drawn + 1 = _; rw [h.drawn, List.length_append]; rfl
  spots := h.spots
  has := by
    show (if (0 : Nat) = 0 then md.has 0 ++ [p.1] else md.has 0) = _
    rw [if_pos rfl, h.has, List.map_append]
    rfl
  ring := fun i q hq => by
    rw [addTurn_ring, addTurn_lying, h.drawn]
    by_cases hi : i < ks.length
    · rw [List.getElem?_append_left hi] at hq
      obtain ⟨h1, h2⟩ := h.ring i q hq
      rw [if_neg (by omega), if_neg (fun z => hn (by rw [← z.2]; exact List.mem_map_of_mem (List.mem_of_getElem? hq)))]
      exact ⟨h1, h2⟩
    · have hl := (List.getElem?_eq_some_iff.mp hq).1
      rw [List.length_append, List.length_singleton] at hl
      have e : i = ks.length := by omega
      subst e
      rw [List.getElem?_append_right (Nat.le_refl _), Nat.sub_self] at hq
      cases hq
      rw [if_pos rfl, if_pos ⟨rfl, rfl⟩]
      exact ⟨rfl, rfl⟩
theorem one_fold : ∀ (ks done : Kinds) (md : MapD), OneM done md → ((done ++ ks).map (·.1)).Nodup → OneM (done ++ ks) (ks.foldl (fun m p => m.addTurn 0 p.1 p.2) md)
  | [], done, md, h, _ => by rw [List.append_nil]; exact h
  | p :: r, done, md, h, nd => by
    have hn : p.1 ∉ done.map (·.1) := fun hm => by
      rw [List.map_append, List.map_cons] at nd
      exact (List.nodup_append.mp nd).2.2 _ hm _ List.mem_cons_self rfl
    have := one_fold r (done ++ [p]) _ (h.snoc hn) (by rw [List.append_assoc]; exact nd)
    rw [List.append_assoc] at this
    exact this
theorem one_map {ks : Kinds} {n : Str} (nd : (ks.map (·.1)).Nodup) : OneM ks (mapOf ks [n]) ∧ (mapOf ks [n]).spotOf = [(n, 0)] := by
  refine ⟨?_, rfl⟩
  have h0 : OneM [] (emptyM.newSpot0) := ⟨rfl, rfl, rfl, rfl, fun i p h => by simp at h⟩
  have := one_fold ks [] _ h0 nd
  exact ⟨this.laid, this.drawn, this.spots, this.has, this.ring⟩
end TR

/-! part N3 -/
/-! The plain law: steps from the one spot. -/
namespace TR
open PySem PySem.Spec PyProof.Rows L2 G
theorem place0 {m : Int} : placeI m 0 = 0 := by
  unfold placeI
  split
  · exact Int.zero_emod _
  · rfl
theorem place_red (m e : Int) : placeI m e = redE m e := rfl
theorem one_at {ks : Kinds} {md : MapD} (h : OneM ks md) {n : Str} {per : Int} (hn : ks.lookup n = some per) : ∃ i, i < md.drawn ∧ md.lying 0 n = [(i, 0)] ∧ md.ring i = ⟨n, per, [(0, 0)]⟩ := by
  obtain ⟨i, hi⟩ := List.getElem?_of_mem (mem_of_look hn)
  obtain ⟨h1, h2⟩ := h.ring i _ hi
  exact ⟨i, by rw [h.drawn]; exact (List.getElem?_eq_some_iff.mp hi).1, h2, h1⟩
theorem fromSpot_one {ks : Kinds} {md : MapD} (h : OneM ks md) {n : Str} {per e : Int} (hn : ks.lookup n = some per) : fromSpot md 0 n e = (0, keptS ks n e) := by
  obtain ⟨i, _, h1, h2⟩ := one_at h hn
  have hp : perOf ks n = per := by unfold perOf; rw [hn]; rfl
  have hf : firstOf md i = 0 := by
    unfold firstOf
    rw [h2]
    rfl
  unfold fromSpot keptS
  rw [h1, hp]
  simp only [List.head?_cons]
  rw [h2, hf, h1]
  simp only [List.head?_cons, h2, place0, Int.zero_add, Int.sub_zero]
  unfold spotAt
  by_cases c : redE per e = 0
  · rw [if_pos c]
    have r0 : redE per 0 = 0 := place0
    simp [place_red, c, r0]
  · rw [if_neg c]
    have c' : ¬ 0 = redE per e := fun z => c z.symm
    have r0 : redE per 0 = 0 := place0
    simp [place_red, c, c', r0]
theorem one_full {ks : Kinds} {md : MapD} (h : OneM ks md) (nd : (ks.map (·.1)).Nodup) : Full ks md where
  lt := fun s hs => by
    rw [h.spots] at hs
    rw [List.mem_singleton.mp hs, h.laid]
    exact Nat.zero_lt_one
  has := fun s hs => by
    rw [h.spots] at hs
    rw [List.mem_singleton.mp hs]
    exact h.has
  one := fun s hs n hn => by
    rw [h.spots] at hs
    rw [List.mem_singleton.mp hs]
    obtain ⟨p, hp⟩ := mem_look hn
    obtain ⟨i, _, h1, h2⟩ := one_at h hp
    exact ⟨(i, 0), h1, by rw [h2], by rw [h2]; exact List.mem_singleton.mpr rfl⟩
  se := fun k hk d hd => by
    rw [h.drawn] at hk
    obtain ⟨h1, _⟩ := h.ring k ks[k] (List.getElem?_eq_getElem hk)
    rw [h1] at hd
    rw [List.mem_singleton.mp hd, h.spots]
    exact List.mem_singleton.mpr rfl
  sz := fun k hk => by
    rw [h.drawn] at hk
    obtain ⟨h1, _⟩ := h.ring k ks[k] (List.getElem?_eq_getElem hk)
    rw [h1]
    exact Nat.le_add_left 1 999
theorem one_book {ks : Kinds} {n : Str} (ok : KOk ks) : BkOk ⟨ks, [n], mapOf ks [n]⟩ where
  full := one_full (one_map ok.nd).1 ok.nd
  keys := by rw [(one_map ok.nd).2]; rfl
  vals := fun p hp => by
    rw [(one_map (n := n) ok.nd).2] at hp
    rw [List.mem_singleton.mp hp, (one_map (n := n) ok.nd).1.spots]
    exact List.mem_singleton.mpr rfl
  nd := by simp
  ok := ok
theorem nput_kept {ks : Kinds} {kept : Steps} {z : Str} {e : Int} : nput ks kept z e = kept ++ keptS ks z e := by
  unfold nput keptS
  split
  · rw [List.append_nil]
  · rfl
/-- states of the map of one spot: the steps of a normal row -/
theorem beyond_one {ks : Kinds} {md : MapD} (h : OneM ks md) {ss : Steps} {c : Str × Int} {per : Int} (hn : ks.lookup c.1 = some per) : beyondM ks md (0, ss) c = (0, nstep ks ss c) := by
  have sp : ∀ e, fromSpot md 0 c.1 e = (0, keptS ks c.1 e) := fun e => fromSpot_one h hn
  unfold beyondM nstep
  show (match ss.getLast? with
    | none => fromSpot md 0 c.1 c.2
    | some l => if l.1 = c.1 then (if 1 < ss.length then (0, ss.dropLast ++ keptS ks c.1 (l.2 + c.2)) else fromSpot md 0 c.1 (c.2 + l.2)) else (0, ss ++ keptS ks c.1 c.2)) = _
  cases hl : ss.getLast? with
  | none =>
    have e : ss = [] := List.getLast?_eq_none_iff.mp hl
    subst e
    show fromSpot md 0 c.1 c.2 = (0, nput ks [] c.1 c.2)
    rw [sp, nput_kept, List.nil_append]
  | some l =>
    show (if l.1 = c.1 then (if 1 < ss.length then (0, ss.dropLast ++ keptS ks c.1 (l.2 + c.2)) else fromSpot md 0 c.1 (c.2 + l.2)) else (0, ss ++ keptS ks c.1 c.2)) = (0, if l.1 = c.1 then nput ks ss.dropLast c.1 (c.2 + l.2) else nput ks ss c.1 c.2)
    by_cases e : l.1 = c.1
    · rw [if_pos e, if_pos e]
      by_cases g : 1 < ss.length
      · rw [if_pos g, nput_kept, Int.add_comm]
      · rw [if_neg g, sp, nput_kept]
        have hd : ss.dropLast = [] := List.length_eq_zero_iff.mp (by rw [List.length_dropLast]; omega)
        rw [hd, List.nil_append]
    · rw [if_neg e, if_neg e, nput_kept]
end TR

/-! part N4 -/
/-! The plain law: the modulus on the map of one spot. -/
namespace TR
open PySem PySem.Spec PyProof.Rows L2 G
theorem mod_one {ks : Kinds} {md : MapD} (h : OneM ks md) {ss : Steps} {n : Str} {per : Int} (hn : ks.lookup n = some per) : modAt ks md (0, ss) n = per := by
  obtain ⟨i, _, h1, h2⟩ := one_at h hn
  have hp : perOf ks n = per := by unfold perOf; rw [hn]; rfl
  have hr : (match (md.lying 0 n).head? with
    | some d => (md.ring d.1).modulus
    | none => 0 : Int) = per := by
    rw [h1]
    simp only [List.head?_cons]
    rw [h2]
  unfold modAt
  cases ss with
  | nil => exact hr
  | cons l r =>
    cases r with
    | nil =>
      show (if l.1 = n then (match (md.lying 0 n).head? with
        | some d => (md.ring d.1).modulus
        | none => 0 : Int) else perOf ks n) = per
      rw [hr, hp]
      split <;> rfl
    | cons _ _ => exact hp
theorem mod_pos {ks : Kinds} {md : MapD} (h : OneM ks md) (ok : KOk ks) (s : StD) (n : Str) (hs : s.1 ∈ md.spots) (hn : n ∈ ks.map (·.1)) : 0 ≤ modAt ks md s n := by
  obtain ⟨s0, ss⟩ := s
  rw [h.spots] at hs
  have e : s0 = 0 := List.mem_singleton.mp hs
  subst e
  obtain ⟨p, hp⟩ := mem_look hn
  rw [mod_one h hp]
  exact (ok.pe _ (mem_of_look hp)).1
theorem spot_one {ks : Kinds} {n : Str} (nd : (ks.map (·.1)).Nodup) : spotN (mapOf ks [n]) n = 0 := by
  unfold spotN
  rw [(one_map nd).2]
  simp
end TR

/-! part N5 -/
/-! The plain law: what follows from a book without facts. -/
namespace TR
open PySem PySem.Spec PyProof.Rows L2 G
theorem red_red {p e : Int} : redE p (redE p e) = redE p e := by
  unfold redE
  split
  · exact Int.emod_emod_of_dvd e (Int.dvd_refl p)
  · rfl
theorem after_one {ks : Kinds} {md : MapD} (h : OneM ks md) {c : Str × Int} {per : Int} (hn : ks.lookup c.1 = some per) : afterM md 0 c = if redE per c.2 = 0 then some 0 else none := by
  obtain ⟨i, _, h1, h2⟩ := one_at h hn
  unfold afterM
  rw [h1]
  simp only [List.head?_cons]
  rw [h2]
  simp only [place0, Int.zero_add]
  unfold spotAt
  have r0 : redE per 0 = 0 := place0
  by_cases c0 : redE per c.2 = 0
  · rw [if_pos c0]
    simp [place_red, c0, r0]
  · rw [if_neg c0]
    have c' : ¬ 0 = redE per c.2 := fun z => c0 z.symm
    simp [place_red, c', r0]
/-- steps that are reduced and not nothing -/
def Redd (ks : Kinds) (ss : Steps) : Prop := ∀ c ∈ ss, redE (perOf ks c.1) c.2 ≠ 0
theorem nput_redd {ks : Kinds} {ss : Steps} {z : Str} {e : Int} (h : Redd ks ss) : Redd ks (nput ks ss z e) := by
  unfold nput
  split
  · exact h
  · rename_i c
    intro q hq
    rcases List.mem_append.mp hq with y | y
    · exact h q y
    · rw [List.mem_singleton.mp y]
      show redE (perOf ks z) (redE (perOf ks z) e) ≠ 0
      rw [red_red]
      exact c
theorem nstep_redd {ks : Kinds} {ss : Steps} {d : Str × Int} (h : Redd ks ss) : Redd ks (nstep ks ss d) := by
  unfold nstep
  split
  · exact nput_redd h
  · split
    · exact nput_redd fun c hc => h c (List.dropLast_subset _ hc)
    · exact nput_redd h
theorem fold_redd {ks : Kinds} : ∀ (ds ss : Steps), Redd ks ss → Redd ks (ds.foldl (nstep ks) ss)
  | [], _, h => h
  | d :: r, ss, h => fold_redd r _ (nstep_redd h)
theorem normal_redd (ks : Kinds) (ds : Steps) : Redd ks (normal ks ds) := fold_redd ds [] fun c hc => by cases hc
theorem walk_one {ks : Kinds} {md : MapD} (h : OneM ks md) {ss : Steps} (hr : Redd ks ss) (hn : ∀ c ∈ ss, c.1 ∈ ks.map (·.1)) : walkM md (some 0) ss = some 0 ↔ ss = [] := by
  cases ss with
  | nil => exact ⟨fun _ => rfl, fun _ => rfl⟩
  | cons c r =>
    obtain ⟨p, hp⟩ := mem_look (hn c List.mem_cons_self)
    have hpo : perOf ks c.1 = p := by unfold perOf; rw [hp]; rfl
    have := hr c List.mem_cons_self
    rw [hpo] at this
    show walkM md (afterM md 0 c) r = some 0 ↔ _
    rw [after_one h hp, if_neg this, walkM_none]
    exact ⟨fun q => (by cases q), fun q => (by cases q)⟩
/-- a claim from the one place to itself follows exactly if its row is empty -/
theorem in_one {ks : Kinds} {n : Str} (ok : KOk ks) {ss : Steps} (hr : Redd ks ss) (hn : ∀ c ∈ ss, c.1 ∈ ks.map (·.1)) : inBook ⟨ks, [n], mapOf ks [n]⟩ ⟨n, ⟨ks, ss⟩, n⟩ = decide (ss = []) := by
  have w := walk_one (one_map (n := n) ok.nd).1 hr hn
  unfold inBook
  simp only [spot_one ok.nd]
  rw [Bool.eq_iff_iff]
  simp only [List.mem_singleton, decide_true, Bool.true_and, decide_eq_true_eq]
  exact w
end TR

/-! part P1 -/
/-! The plain law: normal rows as a group acts on them. -/
namespace TR
open PySem PySem.Spec PyProof.Rows L2 G
theorem redE_dec {p a b : Int} : redE p a = redE p b ↔ (if 0 < p then p ∣ a - b else a = b) := by
  unfold redE
  split
  · constructor
    · exact fun h => Int.dvd_of_emod_eq_zero (Int.emod_eq_emod_iff_emod_sub_eq_zero.mp h)
    · exact fun h => Int.emod_eq_emod_iff_emod_sub_eq_zero.mpr (Int.emod_eq_zero_of_dvd h)
  · exact Iff.rfl
theorem redE_add {p a b c : Int} (h : redE p a = redE p b) : redE p (a + c) = redE p (b + c) := by
  rw [redE_dec] at h ⊢
  rw [show a + c - (b + c) = a - b by omega]
  split
  · rename_i q; rw [if_pos q] at h; exact h
  · rename_i q; rw [if_neg q] at h; omega
theorem redE_can {p a b c : Int} (h : redE p (a + c) = redE p (b + c)) : redE p a = redE p b := by
  rw [redE_dec] at h ⊢
  rw [show a + c - (b + c) = a - b by omega] at h
  split
  · rename_i q; rw [if_pos q] at h; exact h
  · rename_i q; rw [if_neg q] at h; omega
theorem redE_idem {p e : Int} : redE p (redE p e) = redE p e := by
  unfold redE
  split
  · exact Int.emod_emod_of_dvd e (Int.dvd_refl p)
  · rfl
theorem redE_zero {p : Int} : redE p 0 = 0 := by
  unfold redE
  split
  · exact Int.zero_emod _
  · rfl
theorem nput_congr {ks : Kinds} {t : Steps} {x : Str} {a b : Int} (h : redE (perOf ks x) a = redE (perOf ks x) b) : nput ks t x a = nput ks t x b := by
  unfold nput
  rw [h]
theorem nput_inj {ks : Kinds} {t : Steps} {x : Str} {a b : Int} (h : nput ks t x a = nput ks t x b) : redE (perOf ks x) a = redE (perOf ks x) b := by
  unfold nput at h
  split at h
  · split at h
    · omega
    · have := congrArg List.length h
      simp at this
  · split at h
    · have := congrArg List.length h
      simp at this
    · have := List.append_cancel_left h
      simpa using this
/-- normal rows -/
inductive Norm (ks : Kinds) : Steps → Prop
  | nil : Norm ks []
  | snoc {s : Steps} {x : Str} {e : Int} (h : Norm ks s) (n : ∀ m, s.getLast? = some m → m.1 ≠ x) (r : redE (perOf ks x) e = e) (z : e ≠ 0) : Norm ks (s ++ [(x, e)])
theorem nput_norm {ks : Kinds} {t : Steps} {x : Str} {e : Int} (h : Norm ks t) (n : ∀ m, t.getLast? = some m → m.1 ≠ x) : Norm ks (nput ks t x e) := by
  unfold nput
  split
  · exact h
  · rename_i c
    exact .snoc h n redE_idem c
/-- a normal row, looked at from one turn -/
theorem Norm.split {ks : Kinds} {s : Steps} (h : Norm ks s) (x : Str) : ∃ t e, Norm ks t ∧ (∀ m, t.getLast? = some m → m.1 ≠ x) ∧ s = nput ks t x e := by
  cases h with
  | nil => exact ⟨[], 0, Norm.nil, (fun m hm => by cases hm), by unfold nput; rw [redE_zero, if_pos rfl]⟩
  | @snoc s y e h n r z =>
    by_cases c : y = x
    · subst c
      exact ⟨s, e, h, n, by unfold nput; rw [r, if_neg z]⟩
    · refine ⟨s ++ [(y, e)], 0, .snoc h n r z, fun m hm => ?_, by unfold nput; rw [redE_zero, if_pos rfl]⟩
      simp at hm
      subst hm
      exact c
theorem nstep_nput {ks : Kinds} {t : Steps} {x : Str} {e a : Int} (n : ∀ m, t.getLast? = some m → m.1 ≠ x) : nstep ks (nput ks t x e) (x, a) = nput ks t x (e + a) := by
  by_cases c : redE (perOf ks x) e = 0
  · have e1 : nput ks t x e = t := by unfold nput; rw [if_pos c]
    rw [e1]
    have e2 : nput ks t x (e + a) = nput ks t x a := nput_congr (by
      have := redE_add (c := a) (show redE (perOf ks x) e = redE (perOf ks x) 0 by rw [c, redE_zero])
      rwa [Int.zero_add] at this)
    rw [e2]
    cases hl : t.getLast? with
    | none => unfold nstep; rw [hl]
    | some m =>
      rw [nstep_some hl, if_neg (n m hl)]
  · have e1 : nput ks t x e = t ++ [(x, redE (perOf ks x) e)] := by unfold nput; rw [if_neg c]
    rw [e1, nstep_some (m := (x, redE (perOf ks x) e)) (by simp), if_pos rfl]
    rw [List.dropLast_concat]
    refine nput_congr ?_
    have := redE_add (c := a) (show redE (perOf ks x) (redE (perOf ks x) e) = redE (perOf ks x) e from redE_idem)
    rw [Int.add_comm] at this
    exact this
theorem nstep_norm {ks : Kinds} {s : Steps} {c : Str × Int} (h : Norm ks s) : Norm ks (nstep ks s c) := by
  obtain ⟨x, a⟩ := c
  obtain ⟨t, e, h1, n, rfl⟩ := h.split x
  rw [nstep_nput n]
  exact nput_norm h1 n
theorem fold_norm {ks : Kinds} : ∀ (ds s : Steps), Norm ks s → Norm ks (ds.foldl (nstep ks) s)
  | [], _, h => h
  | d :: r, s, h => fold_norm r _ (nstep_norm h)
theorem normal_norm (ks : Kinds) (ds : Steps) : Norm ks (normal ks ds) := fold_norm ds [] .nil
theorem nstep_add {ks : Kinds} {s : Steps} {x : Str} {a b : Int} (h : Norm ks s) : nstep ks (nstep ks s (x, a)) (x, b) = nstep ks s (x, a + b) := by
  obtain ⟨t, e, h1, n, rfl⟩ := h.split x
  rw [nstep_nput n, nstep_nput n, nstep_nput n, Int.add_assoc]
theorem nstep_eq {ks : Kinds} {s : Steps} {x : Str} {a b : Int} (h : Norm ks s) : nstep ks s (x, a) = nstep ks s (x, b) ↔ redE (perOf ks x) a = redE (perOf ks x) b := by
  obtain ⟨t, e, h1, n, rfl⟩ := h.split x
  rw [nstep_nput n, nstep_nput n]
  constructor
  · intro q
    have := nput_inj q
    rw [Int.add_comm e a, Int.add_comm e b] at this
    exact redE_can this
  · intro q
    refine nput_congr ?_
    rw [Int.add_comm e a, Int.add_comm e b]
    exact redE_add q
theorem nstep_zero {ks : Kinds} {s : Steps} {x : Str} (h : Norm ks s) : nstep ks s (x, 0) = s := by
  obtain ⟨t, e, h1, n, rfl⟩ := h.split x
  rw [nstep_nput n, Int.add_zero]
theorem nstep_can {ks : Kinds} {s s' : Steps} {c : Str × Int} (h : Norm ks s) (h' : Norm ks s') (e : nstep ks s c = nstep ks s' c) : s = s' := by
  obtain ⟨x, a⟩ := c
  have := congrArg (fun z => nstep ks z (x, -a)) e
  simp only [nstep_add h, nstep_add h'] at this
  rwa [Int.add_right_neg, nstep_zero h, nstep_zero h'] at this
theorem fold_can {ks : Kinds} : ∀ {ds s s' : Steps}, Norm ks s → Norm ks s' → ds.foldl (nstep ks) s = ds.foldl (nstep ks) s' → s = s'
  | [], _, _, _, _, e => e
  | _ :: r, _, _, h, h', e => nstep_can h h' (fold_can (ds := r) (nstep_norm h) (nstep_norm h') e)
theorem normal_app {ks : Kinds} {a b : Steps} : normal ks (a ++ b) = b.foldl (nstep ks) (normal ks a) := by
  unfold normal
  rw [List.foldl_append]
theorem normal_snoc {ks : Kinds} {a : Steps} {c : Str × Int} : normal ks (a ++ [c]) = nstep ks (normal ks a) c := by
  rw [normal_app]
  rfl
theorem normal_can {ks : Kinds} {a b t : Steps} (e : normal ks (a ++ t) = normal ks (b ++ t)) : normal ks a = normal ks b := by
  rw [normal_app, normal_app] at e
  exact fold_can (normal_norm ks a) (normal_norm ks b) e
end TR

/-! part P2 -/
/-! The plain law: paths of a plan; which stations are met. -/
namespace TR
open PySem PySem.Spec PyProof.Rows L2 G
/-- pairs that fit, from one station to another -/
inductive Path (ds : List ArrD) : Str → RunL → Str → Prop
  | nil {s : Str} : Path ds s [] s
  | cons {s z : Str} {i : Nat} {e : Int} {r : ArrD} {run : RunL} (h : ds[i]? = some r) (o : r.one = s) (m : memD e r.num = true) (t : Path ds r.other run z) : Path ds s (((i : Int), e) :: run) z
theorem Path.app {ds : List ArrD} {a b c : Str} {p q : RunL} (h : Path ds a p b) (g : Path ds b q c) : Path ds a (p ++ q) c := by
  induction h with
  | nil => exact g
  | cons h o m _ ih => exact .cons h o m (ih g)
theorem Path.one {ds : List ArrD} {i : Nat} {e : Int} {r : ArrD} (h : ds[i]? = some r) (m : memD e r.num = true) : Path ds r.one [((i : Int), e)] r.other := .cons h rfl m .nil
theorem arrAt_nat {ds : List ArrD} {i : Nat} : arrAt ds (i : Int) = ds[i]? := by
  unfold arrAt
  rw [if_pos (by omega), Int.toNat_natCast]
theorem Path.fault {ds : List ArrD} {s z : Str} {run : RunL} (h : Path ds s run z) : ∀ k, faultD ds z s k (run.map some) = none := by
  induction h with
  | nil =>
    intro k
    show (if _ = _ then _ else _) = _
    rw [if_pos rfl]
  | @cons s z i e r run h o m _ ih =>
    intro k
    show (if takesB ds s (some ((i : Int), e)) = true then faultD ds z (nextOf ds (some ((i : Int), e))) (k + 1) (run.map some) else some k) = none
    have ha : arrAt ds (i : Int) = some r := by rw [arrAt_nat, h]
    rw [takesB_some ha, if_pos (by rw [decide_eq_true o, m]; rfl)]
    have hn : nextOf ds (some ((i : Int), e)) = r.other := by
      show ((arrAt ds (i : Int)).map (·.other)).getD ("" : Str) = _
      rw [ha]
      rfl
    rw [hn]
    exact ih (k + 1)
def rowR (ds : List ArrD) (run : RunL) : Steps := (run.map some).map (stepOf ds)
theorem rowR_app {ds : List ArrD} {a b : RunL} : rowR ds (a ++ b) = rowR ds a ++ rowR ds b := by
  unfold rowR
  rw [List.map_append, List.map_append]
theorem rowR_one {ds : List ArrD} {i : Nat} {e : Int} {r : ArrD} (h : ds[i]? = some r) : rowR ds [((i : Int), e)] = [(r.name, e)] := by
  show [stepOf ds (some ((i : Int), e))] = _
  show [(((arrAt ds (i : Int)).map (·.name)).getD ("" : Str), e)] = _
  rw [arrAt_nat, h]
  rfl
theorem rowR_cons {ds : List ArrD} {i : Nat} {e : Int} {r : ArrD} {run : RunL} (h : ds[i]? = some r) : rowR ds (((i : Int), e) :: run) = (r.name, e) :: rowR ds run := by
  have := rowR_app (ds := ds) (a := [((i : Int), e)]) (b := run)
  rw [rowR_one h] at this
  exact this
/-! ### reached -/
def Arw (ds : List ArrD) (a z : Str) : Prop := ∃ r ∈ ds, r.one = a ∧ neB r.num = true ∧ r.other = z
inductive Rch (ds : List ArrD) : Str → Str → Prop
  | refl {a : Str} : Rch ds a a
  | tail {a b c : Str} (h : Rch ds a b) (g : Arw ds b c) : Rch ds a c
theorem Rch.trans {ds : List ArrD} {a b c : Str} (h : Rch ds a b) (g : Rch ds b c) : Rch ds a c := by
  induction g with
  | refl => exact h
  | tail _ g ih => exact .tail ih g
theorem Rch.head {ds : List ArrD} {a b c : Str} (h : Arw ds a b) (g : Rch ds b c) : Rch ds a c := (Rch.tail .refl h).trans g
/-- from the one to the other, ahead or back -/
def RchA (ds : List ArrD) (ahead : Bool) (x z : Str) : Prop := if ahead = true then Rch ds x z else Rch ds z x
theorem RchA.step {ds : List ArrD} {ahead : Bool} {x z : Str} {r : ArrD} (h : RchA ds ahead x (srcA ahead r)) (hr : r ∈ ds) (hn : neB r.num = true) : RchA ds ahead x (dstA ahead r) := by
  cases ahead with
  | true => exact Rch.tail h ⟨r, hr, rfl, hn, rfl⟩
  | false => exact Rch.head ⟨r, hr, rfl, hn, rfl⟩ h
theorem RchA.ind {ds : List ArrD} {ahead : Bool} {x z : Str} {p : Str → Prop} (h : RchA ds ahead x z) (h0 : p x) (hs : ∀ r ∈ ds, neB r.num = true → p (srcA ahead r) → p (dstA ahead r)) : p z := by
  cases ahead with
  | true =>
    have h' : Rch ds x z := h
    clear h
    induction h' with
    | refl => exact h0
    | tail _ g ih =>
      obtain ⟨r, hr, rfl, hn, rfl⟩ := g
      exact hs r hr hn ih
  | false =>
    have h' : Rch ds z x := h
    clear h
    induction h' with
    | refl => exact h0
    | tail _ g ih =>
      obtain ⟨r, hr, rfl, hn, rfl⟩ := g
      exact ih (hs r hr hn h0)
theorem metStep_ok {st : List Str} {ahead : Bool} {x : Str} : ∀ {ds : List ArrD} {fs : List Str}, MetOk st fs → (∀ r ∈ ds, r.one ∈ st ∧ r.other ∈ st) →
    MetOk st (metStep ds ahead fs x) ∧ (∃ r, metStep ds ahead fs x = fs ++ r) ∧ (∀ r ∈ ds, srcA ahead r = x → neB r.num = true → dstA ahead r ∈ metStep ds ahead fs x) ∧ ∀ z ∈ metStep ds ahead fs x, z ∈ fs ∨ ∃ r ∈ ds, srcA ahead r = x ∧ neB r.num = true ∧ z = dstA ahead r
  | [], fs, h, _ => ⟨h, ⟨[], by show fs = _; simp⟩, (fun r hr => by cases hr), (fun z hz => Or.inl hz)⟩
  | d :: ds, fs, h, g => by
    obtain ⟨h1, r1, e1⟩ := metArr_ok (ahead := ahead) (x := x) h (g d List.mem_cons_self).1 (g d List.mem_cons_self).2
    obtain ⟨h2, ⟨r2, e2⟩, h3, h4⟩ := metStep_ok (ahead := ahead) (x := x) (ds := ds) h1 (fun r hr => g r (List.mem_cons_of_mem _ hr))
    have e : metStep (d :: ds) ahead fs x = metStep ds ahead (metArr ahead x fs d) x := rfl
    rw [e]
    refine ⟨h2, ⟨r1 ++ r2, by rw [e2, e1, List.append_assoc]⟩, fun r hr hs hn => ?_, fun z hz => ?_⟩
    · rcases List.mem_cons.mp hr with q | q
      · subst q
        rw [e2]
        refine List.mem_append.mpr (.inl ?_)
        unfold metArr
        split
        · exact List.mem_append.mpr (.inr (List.mem_singleton.mpr rfl))
        · rename_i c
          by_cases m : dstA ahead r ∈ fs
          · exact m
          · exact absurd ⟨hs, hn, m⟩ c
      · exact h3 r q hs hn
    · rcases h4 z hz with q | ⟨r, hr, q⟩
      · unfold metArr at q
        split at q
        · rename_i c
          rcases List.mem_append.mp q with y | y
          · exact .inl y
          · exact .inr ⟨d, List.mem_cons_self, c.1, c.2.1, List.mem_singleton.mp y⟩
        · exact .inl q
      · exact .inr ⟨r, List.mem_cons_of_mem _ hr, q⟩
theorem metGo_ok {st : List Str} {ahead : Bool} {x : Str} {ds : List ArrD} (g : ∀ r ∈ ds, r.one ∈ st ∧ r.other ∈ st) : ∀ (n : Nat) (fs : List Str) (at_ : Nat), MetOk st fs → n + at_ = st.length + 1 → x ∈ fs → (∀ z ∈ fs, RchA ds ahead x z) →
    (∀ j s, j < at_ → fs[j]? = some s → ∀ r ∈ ds, srcA ahead r = s → neB r.num = true → dstA ahead r ∈ fs) →
    x ∈ metGo ds ahead n fs at_ ∧ (∀ z ∈ metGo ds ahead n fs at_, RchA ds ahead x z) ∧ ∀ r ∈ ds, srcA ahead r ∈ metGo ds ahead n fs at_ → neB r.num = true → dstA ahead r ∈ metGo ds ahead n fs at_
  | 0, fs, at_, h, e, hx, hr, hc => by
    refine ⟨hx, hr, fun r hr hs hn => ?_⟩
    have hs : srcA ahead r ∈ fs := hs
    obtain ⟨j, hj⟩ := List.getElem?_of_mem hs
    have := (List.getElem?_eq_some_iff.mp hj).1
    have := h.len
    exact hc j _ (by omega) hj r hr rfl hn
  | n + 1, fs, at_, h, e, hx, hr, hc => by
    unfold metGo
    cases hf : fs[at_]? with
    | none =>
      refine ⟨hx, hr, fun r hr hs hn => ?_⟩
      have hs : srcA ahead r ∈ fs := hs
      obtain ⟨j, hj⟩ := List.getElem?_of_mem hs
      have h1 := (List.getElem?_eq_some_iff.mp hj).1
      have h2 := List.getElem?_eq_none_iff.mp hf
      exact hc j _ (by omega) hj r hr rfl hn
    | some s =>
      obtain ⟨h1, ⟨r1, e1⟩, h2, h3⟩ := metStep_ok (ahead := ahead) (x := s) h g
      have hsm := List.mem_of_getElem? hf
      have sub : ∀ z ∈ fs, z ∈ metStep ds ahead fs s := fun z hz => by rw [e1]; exact List.mem_append.mpr (.inl hz)
      refine metGo_ok g n _ (at_ + 1) h1 (by omega) (sub x hx) (fun z hz => ?_) (fun j q hj hq r hrd hs hn => ?_)
      · rcases h3 z hz with q | ⟨r, hrd, rfl, hn, rfl⟩
        · exact hr z q
        · exact RchA.step (z := x) (hr _ hsm) hrd hn
      · have hlt := (List.getElem?_eq_some_iff.mp hf).1
        rw [e1, List.getElem?_append_left (by omega)] at hq
        by_cases c : j = at_
        · subst c
          rw [hf] at hq
          cases hq
          exact h2 r hrd hs hn
        · exact sub _ (hc j q (by omega) hq r hrd hs hn)
theorem met_iff {d : PlanD} {ahead : Bool} {x z : Str} (hx : x ∈ d.st) (g : ∀ r ∈ d.ds, r.one ∈ d.st ∧ r.other ∈ d.st) : z ∈ metL d ahead x ↔ RchA d.ds ahead x z := by
  have h0 : MetOk d.st [x] := ⟨by simp, fun z hz => by rw [List.mem_singleton.mp hz]; exact hx⟩
  have r0 : RchA d.ds ahead x x := by unfold RchA; split <;> exact .refl
  obtain ⟨h1, h2, h3⟩ := metGo_ok (ahead := ahead) (x := x) g (d.st.length + 1) [x] 0 h0 rfl (List.mem_singleton.mpr rfl) (fun z hz => by rw [List.mem_singleton.mp hz]; exact r0) (fun j s hj => by omega)
  exact ⟨h2 z, fun h => RchA.ind (p := fun z => z ∈ metL d ahead x) h h1 (fun r hr hn hs => h3 r hr hs hn)⟩
theorem useful_iff {d : PlanD} {z : Str} (hb : d.b ∈ d.st) (he : d.e ∈ d.st) (g : ∀ r ∈ d.ds, r.one ∈ d.st ∧ r.other ∈ d.st) : z ∈ usefulL d ↔ Rch d.ds d.b z ∧ Rch d.ds z d.e := by
  unfold usefulL
  rw [List.mem_filter, met_iff hb g, decide_eq_true_eq, met_iff he g]
  exact Iff.rfl
theorem Path.rch {ds : List ArrD} {s z : Str} {run : RunL} (h : Path ds s run z) (hn : ∀ r ∈ ds, ∀ k, memD k r.num = true → neB r.num = true) : Rch ds s z := by
  induction h with
  | nil => exact .refl
  | cons h o m _ ih => exact Rch.head ⟨_, List.mem_of_getElem? h, o, hn _ (List.mem_of_getElem? h) _ m, rfl⟩ ih
theorem Rch.path {ds : List ArrD} {s z : Str} (h : Rch ds s z) (pos : ∀ r ∈ ds, Pos r.num.cs) : ∃ run, Path ds s run z := by
  induction h with
  | refl => exact ⟨[], .nil⟩
  | tail _ g ih =>
    obtain ⟨run, hp⟩ := ih
    obtain ⟨r, hr, rfl, hn, rfl⟩ := g
    obtain ⟨i, hi⟩ := List.getElem?_of_mem hr
    exact ⟨_, hp.app (Path.one hi (nr0_ok (pos r hr) hn).2)⟩
/-! ### the way to the end -/
structure WayIn (ds : List ArrD) (e : Str) (ts : Tails) : Prop where
  path : ∀ p ∈ ts, Path ds p.1 p.2 e
theorem lookup_app {β : Type} {n : Str} {b : β} {l r : List (Str × β)} (h : l.lookup n = some b) : (l ++ r).lookup n = some b := by
  induction l with
  | nil => cases h
  | cons p l ih =>
    obtain ⟨m, c⟩ := p
    rw [List.cons_append, List.lookup_cons]
    rw [List.lookup_cons] at h
    split
    · rename_i q; rw [q] at h; exact h
    · rename_i q; rw [q] at h; exact ih h
theorem zip_at {ds : List ArrD} {p : ArrD × Nat} (h : p ∈ ds.zipIdx) : ds[p.2]? = some p.1 := by
  obtain ⟨r, i⟩ := p
  exact List.mk_mem_zipIdx_iff_getElem?.mp h
theorem wayStep_ok {ds : List ArrD} {e : Str} {st : List Str} {cur : Str} (pos : ∀ r ∈ ds, Pos r.num.cs) (g : ∀ r ∈ ds, r.one ∈ st) : ∀ {ps : List (ArrD × Nat)} {ts : Tails}, (∀ p ∈ ps, p ∈ ds.zipIdx) → WayOk st ts → cur ∈ ts.map (·.1) → WayIn ds e ts →
    WayOk st (ps.foldl (wayArr cur) ts) ∧ WayIn ds e (ps.foldl (wayArr cur) ts) ∧ (∃ r, ps.foldl (wayArr cur) ts = ts ++ r) ∧ ∀ p ∈ ps, p.1.other = cur → neB p.1.num = true → p.1.one ∈ (ps.foldl (wayArr cur) ts).map (·.1)
  | [], ts, _, h, _, hi => ⟨h, hi, ⟨[], by simp⟩, (fun p hp => by cases hp)⟩
  | p :: ps, ts, hp, h, hc, hi => by
    have hz := zip_at (hp p List.mem_cons_self)
    have hm := List.mem_of_getElem? hz
    obtain ⟨h1, r1, e1⟩ := wayArr_ok (cur := cur) h (g _ hm) hc
    have hc1 : cur ∈ (wayArr cur ts p).map (·.1) := by rw [e1, List.map_append]; exact List.mem_append.mpr (.inl hc)
    have hi1 : WayIn ds e (wayArr cur ts p) := by
      refine ⟨fun q hq => ?_⟩
      unfold wayArr at hq
      split at hq
      · rename_i c
        rcases List.mem_append.mp hq with y | y
        · exact hi.path q y
        · rw [List.mem_singleton.mp y]
          obtain ⟨t, ht⟩ := look_mem (l := ts) (show p.1.other ∈ ts.map (·.1) by rw [c.1]; exact hc)
          have : Path ds p.1.other t e := hi.path _ (mem_of_look ht)
          have et : tailAt ts p.1.other = t := by unfold tailAt; rw [ht]; rfl
          show Path ds p.1.one (((p.2 : Int), nr0 p.1.num) :: tailAt ts p.1.other) e
          rw [et]
          exact .cons hz rfl (nr0_ok (pos _ hm) c.2.1).2 this
      · exact hi.path q hq
    obtain ⟨h2, hi2, ⟨r2, e2⟩, h3⟩ := wayStep_ok pos g (ps := ps) (ts := wayArr cur ts p) (fun q hq => hp q (List.mem_cons_of_mem _ hq)) h1 hc1 hi1
    rw [List.foldl_cons]
    refine ⟨h2, hi2, ⟨r1 ++ r2, by rw [e2, e1, List.append_assoc]⟩, fun q hq ho hn => ?_⟩
    rcases List.mem_cons.mp hq with y | y
    · subst y
      rw [e2, List.map_append]
      refine List.mem_append.mpr (.inl ?_)
      unfold wayArr
      split
      · rw [List.map_append]
        exact List.mem_append.mpr (.inr (List.mem_singleton.mpr rfl))
      · rename_i c
        by_cases m : q.1.one ∈ ts.map (·.1)
        · exact m
        · exact absurd ⟨ho, hn, m⟩ c
    · exact h3 q y ho hn
theorem wayGo_ok {ds : List ArrD} {e : Str} {st : List Str} (pos : ∀ r ∈ ds, Pos r.num.cs) (g : ∀ r ∈ ds, r.one ∈ st) : ∀ (n : Nat) (ts : Tails) (at_ : Nat), WayOk st ts → WayIn ds e ts → n + at_ = st.length + 1 → e ∈ ts.map (·.1) →
    (∀ j q, j < at_ → ts[j]? = some q → ∀ r ∈ ds, r.other = q.1 → neB r.num = true → r.one ∈ ts.map (·.1)) →
    WayOk st (wayGo ds n ts at_) ∧ WayIn ds e (wayGo ds n ts at_) ∧ e ∈ (wayGo ds n ts at_).map (·.1) ∧ ∀ r ∈ ds, r.other ∈ (wayGo ds n ts at_).map (·.1) → neB r.num = true → r.one ∈ (wayGo ds n ts at_).map (·.1)
  | 0, ts, at_, h, hi, en, he, hc => by
    refine ⟨h, hi, he, fun r hr hs hn => ?_⟩
    have hs : r.other ∈ ts.map (·.1) := hs
    obtain ⟨q, hq, eq⟩ := List.mem_map.mp hs
    obtain ⟨j, hj⟩ := List.getElem?_of_mem hq
    have := (List.getElem?_eq_some_iff.mp hj).1
    have := h.le
    exact hc j q (by omega) hj r hr eq.symm hn
  | n + 1, ts, at_, h, hi, en, he, hc => by
    unfold wayGo
    cases hf : ts[at_]? with
    | none =>
      refine ⟨h, hi, he, fun r hr hs hn => ?_⟩
      have hs : r.other ∈ ts.map (·.1) := hs
      obtain ⟨q, hq, eq⟩ := List.mem_map.mp hs
      obtain ⟨j, hj⟩ := List.getElem?_of_mem hq
      have h1 := (List.getElem?_eq_some_iff.mp hj).1
      have h2 := List.getElem?_eq_none_iff.mp hf
      exact hc j q (by omega) hj r hr eq.symm hn
    | some x =>
      have hx : x.1 ∈ ts.map (·.1) := List.mem_map_of_mem (List.mem_of_getElem? hf)
      obtain ⟨h1, hi1, ⟨r1, e1⟩, h2⟩ := wayStep_ok (cur := x.1) pos g (ps := ds.zipIdx) (fun _ hp => hp) h hx hi
      have sub : ∀ z ∈ ts.map (·.1), z ∈ (wayStep ds ts x.1).map (·.1) := fun z hz => by
        show z ∈ (ds.zipIdx.foldl (wayArr x.1) ts).map (·.1)
        rw [e1, List.map_append]
        exact List.mem_append.mpr (.inl hz)
      refine wayGo_ok pos g n _ (at_ + 1) h1 hi1 (by omega) (sub _ he) (fun j q hj hq r hrd hs hn => ?_)
      have hlt := (List.getElem?_eq_some_iff.mp hf).1
      have e1' : wayStep ds ts x.1 = ts ++ r1 := e1
      rw [e1', List.getElem?_append_left (by omega)] at hq
      by_cases c : j = at_
      · subst c
        rw [hf] at hq
        cases hq
        obtain ⟨i, hi⟩ := List.getElem?_of_mem hrd
        exact h2 (r, i) (List.mk_mem_zipIdx_iff_getElem?.mpr hi) hs hn
      · exact sub _ (hc j q (by omega) hq r hrd hs hn)
theorem way_ok {d : PlanD} {z : Str} (he : d.e ∈ d.st) (g : ∀ r ∈ d.ds, r.one ∈ d.st ∧ r.other ∈ d.st) (pos : ∀ r ∈ d.ds, Pos r.num.cs) (h : Rch d.ds z d.e) : ∃ t, (wayL d).lookup z = some t ∧ Path d.ds z t d.e ∧ t.length ≤ d.st.length := by
  have h0 : WayOk d.st [(d.e, [])] := ⟨by simp, fun z hz => by rw [List.map_cons, List.map_nil, List.mem_singleton] at hz; rw [hz]; exact he, fun p hp => by rw [List.mem_singleton.mp hp]; exact Nat.zero_lt_one⟩
  have i0 : WayIn d.ds d.e [(d.e, [])] := ⟨fun p hp => by rw [List.mem_singleton.mp hp]; exact .nil⟩
  obtain ⟨hw, h1, h2, h3⟩ := wayGo_ok pos (fun r hr => (g r hr).1) (d.st.length + 1) [(d.e, [])] 0 h0 i0 rfl (by simp) (fun j q hj => by omega)
  have hz : z ∈ (wayL d).map (·.1) := RchA.ind (ahead := false) (x := d.e) (p := fun z => z ∈ (wayL d).map (·.1)) h h2 (fun r hr hn hs => h3 r hr hs hn)
  obtain ⟨t, ht⟩ := look_mem hz
  have l1 : t.length < (wayL d).length := hw.len _ (mem_of_look ht)
  have l2 : (wayL d).length ≤ d.st.length := hw.le
  exact ⟨t, ht, h1.path _ (mem_of_look ht), by omega⟩
end TR

/-! part P3 -/
/-! The plain law: what a trace finds. -/
namespace TR
open PySem PySem.Spec PyProof.Rows L2 G
def stF (ks : Kinds) (md : MapD) (st : StD) (ss : Steps) : StD := ss.foldl (beyondM ks md) st
theorem stF_snoc {ks : Kinds} {md : MapD} {st : StD} {ss : Steps} {c : Str × Int} : stF ks md st (ss ++ [c]) = beyondM ks md (stF ks md st ss) c := by
  unfold stF
  rw [List.foldl_append]
  rfl
theorem spin_some {m first : Int} {o : Str} {run : RunL} {i : Nat} {x : Str × RunL × RunL} : ∀ zs : List Int, zs.foldl (spinU m first o run i) (some x) = some x
  | [] => rfl
  | z :: zs => by
    rw [List.foldl_cons, show spinU m first o run i (some x) z = some x by unfold spinU; rw [if_neg (by rintro ⟨_, h⟩; cases h)]]
    exact spin_some zs
theorem spin_none {m first : Int} {o : Str} {run : RunL} {i : Nat} : ∀ {zs : List Int} {u : UnD}, zs.foldl (spinU m first o run i) u = none → u = none ∧ ∀ z ∈ zs, badFar m (z - first) = false
  | [], _, h => ⟨h, fun z hz => by cases hz⟩
  | z :: zs, u, h => by
    rw [List.foldl_cons] at h
    obtain ⟨h1, h2⟩ := spin_none h
    unfold spinU at h1
    split at h1
    · cases h1
    · rename_i c
      refine ⟨h1, fun y hy => ?_⟩
      rcases List.mem_cons.mp hy with e | e
      · subst e
        cases hb : badFar m (y - first) with
        | false => rfl
        | true => exact absurd ⟨hb, h1⟩ c
      · exact h2 y e
theorem spin_got {m first : Int} {o : Str} {run : RunL} {i : Nat} {x : Str × RunL × RunL} : ∀ {zs : List Int}, zs.foldl (spinU m first o run i) none = some x → ∃ z ∈ zs, badFar m (z - first) = true ∧ x = (o, run ++ [((i : Int), first)], run ++ [((i : Int), z)])
  | [], h => by cases h
  | z :: zs, h => by
    rw [List.foldl_cons] at h
    by_cases c : badFar m (z - first) = true
    · rw [show spinU m first o run i none z = some (o, run ++ [((i : Int), first)], run ++ [((i : Int), z)]) by unfold spinU; rw [if_pos ⟨c, rfl⟩], spin_some] at h
      cases h
      exact ⟨z, List.mem_cons_self, c, rfl⟩
    · rw [show spinU m first o run i none z = none by unfold spinU; rw [if_neg (fun q => c q.1)]] at h
      obtain ⟨y, hy, q⟩ := spin_got h
      exact ⟨y, List.mem_cons_of_mem _ hy, q⟩
/-- nothing noted is lost -/
structure TrMore (d d' : TrD) : Prop where
  st : ∀ z s, d.st.lookup z = some s → d'.st.lookup z = some s
  ru : ∀ z r, d.ru.lookup z = some r → d'.ru.lookup z = some r
theorem TrMore.refl (d : TrD) : TrMore d d := ⟨fun _ _ h => h, fun _ _ h => h⟩
theorem TrMore.trans {a b c : TrD} (h : TrMore a b) (g : TrMore b c) : TrMore a c := ⟨fun z s q => g.st z s (h.st z s q), fun z s q => g.ru z s (h.ru z s q)⟩
theorem arrive_more {d : TrD} {z : Str} {s : StD} {r : RunL} : TrMore d (arriveD d z s r) := by
  unfold arriveD
  split
  · split
    · exact ⟨fun _ _ h => h, fun _ _ h => h⟩
    · exact TrMore.refl d
  · exact ⟨fun _ _ h => lookup_app h, fun _ _ h => lookup_app h⟩
theorem lookup_snoc_new {β : Type} {n : Str} {b : β} {l : List (Str × β)} (h : n ∉ l.map (·.1)) : (l ++ [(n, b)]).lookup n = some b := by
  induction l with
  | nil => rw [List.nil_append, List.lookup_cons]; simp
  | cons p l ih =>
    obtain ⟨m, c⟩ := p
    rw [List.map_cons, List.mem_cons, not_or] at h
    rw [List.cons_append, List.lookup_cons, show (n == m) = false by simp [h.1]]
    exact ih h.2
theorem lookup_snoc_ne {β : Type} {n m : Str} {b : β} {l : List (Str × β)} (h : m ≠ n) : (l ++ [(n, b)]).lookup m = l.lookup m := by
  induction l with
  | nil =>
    rw [List.nil_append, List.lookup_cons, show (m == n) = false by simp [h]]
  | cons p l ih =>
    obtain ⟨k, c⟩ := p
    rw [List.cons_append, List.lookup_cons, List.lookup_cons, ih]
theorem arrive_none {d : TrD} {z : Str} {s : StD} {r : RunL} (h : (arriveD d z s r).un = none) : d.un = none ∧ (arriveD d z s r).st.lookup z = some s := by
  unfold arriveD at h ⊢
  cases hl : d.st.lookup z with
  | some t =>
    rw [hl] at h
    dsimp only at h ⊢
    split at h
    · cases h
    · rename_i c
      rw [if_neg c]
      refine ⟨h, ?_⟩
      by_cases e : t = s
      · rw [hl, e]
      · exact absurd ⟨e, h⟩ c
  | none =>
    rw [hl] at h
    refine ⟨h, lookup_snoc_new fun m => ?_⟩
    obtain ⟨b, hb⟩ := look_mem m
    rw [hl] at hb
    cases hb
structure TrIn (ks : Kinds) (md : MapD) (ds : List ArrD) (b : Str) (us : List Str) (st0 : StD) (d : TrD) : Prop where
  kk : d.st.map (·.1) = d.ru.map (·.1)
  nd : (d.st.map (·.1)).Nodup
  ent : ∀ z s, d.st.lookup z = some s → ∃ run, d.ru.lookup z = some run ∧ Path ds b run z ∧ stF ks md st0 (rowR ds run) = s ∧ z ∈ us
  unl : ∀ z r1 r2, d.un = some (z, r1, r2) → Path ds b r1 z ∧ Path ds b r2 z ∧ z ∈ us ∧ stF ks md st0 (rowR ds r1) ≠ stF ks md st0 (rowR ds r2)
  ln : ∀ z r, d.ru.lookup z = some r → r.length < d.ru.length
  lu : ∀ z r1 r2, d.un = some (z, r1, r2) → r1.length ≤ d.ru.length ∧ r2.length ≤ d.ru.length
theorem TrIn.arrive {ks : Kinds} {md : MapD} {ds : List ArrD} {b : Str} {us : List Str} {st0 : StD} {d : TrD} {z : Str} {s : StD} {r : RunL} (h : TrIn ks md ds b us st0 d) (hp : Path ds b r z) (hs : stF ks md st0 (rowR ds r) = s) (hz : z ∈ us) (hr : r.length ≤ d.ru.length) : TrIn ks md ds b us st0 (arriveD d z s r) := by
  unfold arriveD
  cases hl : d.st.lookup z with
  | some t =>
    dsimp only
    split
    · rename_i c
      obtain ⟨run, h1, h2, h3, h4⟩ := h.ent z t hl
      refine ⟨h.kk, h.nd, h.ent, fun y r1 r2 e => ?_, h.ln, fun y r1 r2 e => ?_⟩
      · cases e
        rw [h1]
        refine ⟨h2, hp, hz, ?_⟩
        show stF ks md st0 (rowR ds run) ≠ _
        rw [h3, hs]
        exact c.1
      · cases e
        rw [h1]
        exact ⟨Nat.le_of_lt (h.ln _ _ h1), hr⟩
    · exact h
  | none =>
    have hn : z ∉ d.st.map (·.1) := fun m => by
      obtain ⟨b, hb⟩ := look_mem m
      rw [hl] at hb
      cases hb
    have hn2 : z ∉ d.ru.map (·.1) := by rw [← h.kk]; exact hn
    refine ⟨?_, ?_, fun y u e => ?_, h.unl, fun y u e => ?_, fun y r1 r2 e => ?_⟩
    · show (d.st ++ [(z, s)]).map (·.1) = (d.ru ++ [(z, r)]).map (·.1)
      rw [List.map_append, List.map_append, h.kk]
      rfl
    · show ((d.st ++ [(z, s)]).map (·.1)).Nodup
      rw [List.map_append, List.nodup_append]
      refine ⟨h.nd, by simp, fun a ha c hc e => ?_⟩
      rw [List.map_cons, List.map_nil, List.mem_singleton] at hc
      have hc : c = z := hc
      exact hn (by rw [← hc, ← e]; exact ha)
    · have e : (d.st ++ [(z, s)]).lookup y = some u := e
      show ∃ run, (d.ru ++ [(z, r)]).lookup y = some run ∧ _
      by_cases c : y = z
      · subst c
        rw [lookup_snoc_new hn] at e
        cases e
        exact ⟨r, lookup_snoc_new hn2, hp, hs, hz⟩
      · rw [lookup_snoc_ne c] at e ⊢
        exact h.ent y u e
    · have e : (d.ru ++ [(z, r)]).lookup y = some u := e
      show u.length < (d.ru ++ [(z, r)]).length
      rw [List.length_append, List.length_singleton]
      by_cases c : y = z
      · subst c
        rw [lookup_snoc_new hn2] at e
        cases e
        omega
      · rw [lookup_snoc_ne c] at e
        have := h.ln y u e
        omega
    · have := h.lu y r1 r2 e
      show r1.length ≤ (d.ru ++ [(z, r)]).length ∧ r2.length ≤ (d.ru ++ [(z, r)]).length
      rw [List.length_append, List.length_singleton]
      omega
/-- what is asked of the states -/
structure Asks (ks : Kinds) (md : MapD) (ds : List ArrD) (b : Str) (st0 : StD) : Prop where
  pos : ∀ r ∈ ds, Pos r.num.cs
  sm : ∀ r ∈ ds, ∀ z ∈ sampL r.num, memD z r.num = true
  df : ∀ run r e e', r ∈ ds → Path ds b run r.one → badFar (modAt ks md (stF ks md st0 (rowR ds run)) r.name) (e - e') = true → beyondM ks md (stF ks md st0 (rowR ds run)) (r.name, e') ≠ beyondM ks md (stF ks md st0 (rowR ds run)) (r.name, e)
/-- an arrow that agrees -/
structure Done (ks : Kinds) (md : MapD) (r : ArrD) (d : TrD) : Prop where
  ex : ∃ s, d.st.lookup r.one = some s ∧ d.st.lookup r.other = some (beyondM ks md s (r.name, nr0 r.num)) ∧ ∀ z ∈ sampL r.num, badFar (modAt ks md s r.name) (z - nr0 r.num) = false
theorem Done.more {ks : Kinds} {md : MapD} {r : ArrD} {d d' : TrD} (h : Done ks md r d) (m : TrMore d d') : Done ks md r d' := by
  obtain ⟨s, h1, h2, h3⟩ := h.ex
  exact ⟨s, m.st _ _ h1, m.st _ _ h2, h3⟩
theorem follow_in {ks : Kinds} {md : MapD} {ds : List ArrD} {b : Str} {us : List Str} {st0 : StD} {d : TrD} {r : ArrD} {i : Nat} {s : StD} {run : RunL} (a : Asks ks md ds b st0) (h : TrIn ks md ds b us st0 d) (hi : ds[i]? = some r) (hn : neB r.num = true) (hu : r.other ∈ us)
    (hs : d.st.lookup r.one = some s) (hr : d.ru.lookup r.one = some run) : TrIn ks md ds b us st0 (followD ks md r i s run d) ∧ TrMore d (followD ks md r i s run d) ∧ ((followD ks md r i s run d).un = none → d.un = none ∧ Done ks md r (followD ks md r i s run d)) := by
  have hm := List.mem_of_getElem? hi
  obtain ⟨run', h1, h2, h3, h4⟩ := h.ent _ _ hs
  rw [hr] at h1
  cases h1
  have np := (nr0_ok (a.pos r hm) hn).2
  have p1 : ∀ e, memD e r.num = true → Path ds b (run ++ [((i : Int), e)]) r.other := fun e he => h2.app (Path.one hi he)
  have q1 : ∀ e, stF ks md st0 (rowR ds (run ++ [((i : Int), e)])) = beyondM ks md s (r.name, e) := fun e => by rw [rowR_app, rowR_one hi, stF_snoc, h3]
  generalize hU : (sampL r.num).foldl (spinU (modAt ks md s r.name) (nr0 r.num) r.other run i) d.un = U
  have t1 : TrIn ks md ds b us st0 { d with un := U } := by
    have hq : ∀ z r1 r2, U = some (z, r1, r2) → (Path ds b r1 z ∧ Path ds b r2 z ∧ z ∈ us ∧ stF ks md st0 (rowR ds r1) ≠ stF ks md st0 (rowR ds r2)) ∧ r1.length ≤ d.ru.length ∧ r2.length ≤ d.ru.length := fun z r1 r2 e => by
      cases hd : d.un with
      | some x =>
        rw [hd, spin_some] at hU
        have ed : d.un = some (z, r1, r2) := by rw [hd, hU, e]
        exact ⟨h.unl z r1 r2 ed, h.lu z r1 r2 ed⟩
      | none =>
        rw [hd, e] at hU
        obtain ⟨y, hy, hb, ex⟩ := spin_got hU
        cases ex
        refine ⟨⟨p1 _ np, p1 _ (a.sm r hm y hy), hu, ?_⟩, ?_⟩
        · rw [q1, q1, ← h3]
          exact a.df run r y (nr0 r.num) hm h2 (by rw [h3]; exact hb)
        · have := h.ln _ _ hr
          rw [List.length_append, List.length_append, List.length_singleton, List.length_singleton]
          omega
    exact ⟨h.kk, h.nd, h.ent, fun z r1 r2 e => (hq z r1 r2 e).1, h.ln, fun z r1 r2 e => (hq z r1 r2 e).2⟩
  have e : followD ks md r i s run d = arriveD { d with un := U } r.other (beyondM ks md s (r.name, nr0 r.num)) (run ++ [((i : Int), nr0 r.num)]) := by
    unfold followD
    rw [hU]
  have m0 : TrMore d { d with un := U } := ⟨fun _ _ h => h, fun _ _ h => h⟩
  rw [e]
  refine ⟨t1.arrive (p1 _ np) (q1 _) hu (by have := h.ln _ _ hr; rw [List.length_append, List.length_singleton]; exact this), m0.trans arrive_more, fun hun => ?_⟩
  obtain ⟨u1, u2⟩ := arrive_none hun
  have u1 : U = none := u1
  rw [u1] at hU
  obtain ⟨v1, v2⟩ := spin_none hU
  exact ⟨v1, ⟨s, (m0.trans arrive_more).st _ _ hs, u2, v2⟩⟩
/-- a trace under way -/
structure TrGo (ks : Kinds) (md : MapD) (ds : List ArrD) (b : Str) (us : List Str) (st0 : StD) (ex : Str → ArrD → Prop) (c : RunC) : Prop where
  tr : TrIn ks md ds b us st0 c.1
  ws : ∀ z ∈ c.2, z ∈ c.1.st.map (·.1)
  dn : c.1.un = none → ∀ z ∈ c.1.st.map (·.1), z ∉ c.2 → ∀ r ∈ ds, r.one = z → r.other ∈ us → neB r.num = true → ex z r ∨ Done ks md r c.1
theorem more_keys {d d' : TrD} (m : TrMore d d') {z : Str} (h : z ∈ d.st.map (·.1)) : z ∈ d'.st.map (·.1) := by
  obtain ⟨b, hb⟩ := look_mem h
  exact List.mem_map.mpr ⟨_, mem_of_look (m.st _ _ hb), rfl⟩
theorem follow_keys {ks : Kinds} {md : MapD} {r : ArrD} {i : Nat} {s : StD} {run : RunL} {d : TrD} : (followD ks md r i s run d).st.map (·.1) = if (d.st.lookup r.other).isNone = true then d.st.map (·.1) ++ [r.other] else d.st.map (·.1) := by
  unfold followD arriveD
  cases h : d.st.lookup r.other with
  | some t =>
    dsimp only
    rw [if_neg (show ¬ (some t).isNone = true by simp)]
    split <;> rfl
  | none =>
    dsimp only
    rw [if_pos (show (none : Option StD).isNone = true from rfl), List.map_append]
    rfl
theorem arrow_go {ks : Kinds} {md : MapD} {ds : List ArrD} {b : Str} {us : List Str} {st0 : StD} {stn : Str} (a : Asks ks md ds b st0) : ∀ {ps : List (ArrD × Nat)} {c : RunC}, (∀ p ∈ ps, p ∈ ds.zipIdx) → TrGo ks md ds b us st0 (fun z r => z = stn ∧ ∃ p ∈ ps, p.1 = r) c → stn ∈ c.1.st.map (·.1) →
    TrGo ks md ds b us st0 (fun _ _ => False) (ps.foldl (arrowStep ks md us stn) c) ∧ TrMore c.1 (ps.foldl (arrowStep ks md us stn) c).1 ∧ (ps.foldl (arrowStep ks md us stn) c).1.st.length + c.2.length = c.1.st.length + (ps.foldl (arrowStep ks md us stn) c).2.length
  | [], c, _, h, _ => by
    refine ⟨⟨h.tr, h.ws, fun hu z hz hw r hr e1 e2 e3 => ?_⟩, TrMore.refl _, rfl⟩
    rcases h.dn hu z hz hw r hr e1 e2 e3 with ⟨_, p, hp, _⟩ | q
    · cases hp
    · exact .inr q
  | p :: ps, c, hp, h, hs => by
    rw [List.foldl_cons]
    have hz := zip_at (hp p List.mem_cons_self)
    have key : TrGo ks md ds b us st0 (fun z r => z = stn ∧ ∃ p ∈ ps, p.1 = r) (arrowStep ks md us stn c p) ∧ TrMore c.1 (arrowStep ks md us stn c p).1 ∧ (arrowStep ks md us stn c p).1.st.length + c.2.length = c.1.st.length + (arrowStep ks md us stn c p).2.length := by
      unfold arrowStep
      split
      · rename_i hc
        obtain ⟨d, ws⟩ := c
        obtain ⟨s, h1⟩ := look_mem (l := d.st) (n := p.1.one) (by rw [hc.1]; exact hs)
        obtain ⟨run, h2, _⟩ := h.tr.ent _ _ h1
        have h2 : d.ru.lookup p.1.one = some run := h2
        obtain ⟨f1, f2, f3⟩ := follow_in a h.tr hz hc.2.2 hc.2.1 h1 h2
        dsimp only
        rw [h1, h2]
        dsimp only [Option.getD_some]
        have fk := follow_keys (ks := ks) (md := md) (r := p.1) (i := p.2) (s := s) (run := run) (d := d)
        refine ⟨⟨f1, fun z hz => ?_, fun hu z hz hw r hr e1 e2 e3 => ?_⟩, f2, ?_⟩
        · have hz : z ∈ (if (d.st.lookup p.1.other).isNone = true then ws ++ [p.1.other] else ws) := hz
          show z ∈ (followD ks md p.1 p.2 s run d).st.map (·.1)
          rw [fk]
          split at hz
          · rename_i q
            rw [if_pos q]
            rcases List.mem_append.mp hz with y | y
            · exact List.mem_append.mpr (.inl (h.ws z y))
            · exact List.mem_append.mpr (.inr y)
          · rename_i q
            rw [if_neg q]
            exact h.ws z hz
        · have hu : (followD ks md p.1 p.2 s run d).un = none := hu
          obtain ⟨g1, g2⟩ := f3 hu
          have hz : z ∈ (followD ks md p.1 p.2 s run d).st.map (·.1) := hz
          have hw : z ∉ (if (d.st.lookup p.1.other).isNone = true then ws ++ [p.1.other] else ws) := hw
          by_cases er : p.1 = r
          · exact .inr (er ▸ g2)
          · rw [fk] at hz
            have hz' : z ∈ d.st.map (·.1) ∧ z ∉ ws := by
              split at hz
              · rename_i q
                rw [if_pos q] at hw
                rcases List.mem_append.mp hz with y | y
                · exact ⟨y, fun m => hw (List.mem_append.mpr (.inl m))⟩
                · exact absurd (List.mem_append.mpr (.inr y)) hw
              · rename_i q
                rw [if_neg q] at hw
                exact ⟨hz, hw⟩
            rcases h.dn g1 z hz'.1 hz'.2 r hr e1 e2 e3 with ⟨q1, y, hy, q2⟩ | q
            · rcases List.mem_cons.mp hy with m | m
              · subst m; exact absurd q2 er
              · exact .inl ⟨q1, y, m, q2⟩
            · exact .inr (q.more f2)
        · show (followD ks md p.1 p.2 s run d).st.length + ws.length = d.st.length + (if (d.st.lookup p.1.other).isNone = true then ws ++ [p.1.other] else ws).length
          have := congrArg List.length fk
          rw [List.length_map] at this
          rw [this]
          split <;> simp <;> omega
      · rename_i hc
        refine ⟨⟨h.tr, h.ws, fun hu z hz hw r hr e1 e2 e3 => ?_⟩, TrMore.refl _, rfl⟩
        rcases h.dn hu z hz hw r hr e1 e2 e3 with ⟨q1, y, hy, q2⟩ | q
        · rcases List.mem_cons.mp hy with m | m
          · subst m
            subst q2
            exact absurd ⟨e1.trans q1, e2, e3⟩ hc
          · exact .inl ⟨q1, y, m, q2⟩
        · exact .inr q
    obtain ⟨k1, k2, k3⟩ := key
    obtain ⟨j1, j2, j3⟩ := arrow_go a (ps := ps) (fun q hq => hp q (List.mem_cons_of_mem _ hq)) k1 (more_keys k2 hs)
    exact ⟨j1, k2.trans j2, by omega⟩
theorem go_ok {ks : Kinds} {md : MapD} {ds : List ArrD} {b : Str} {us st : List Str} {st0 : StD} (a : Asks ks md ds b st0) (hus : ∀ z ∈ us, z ∈ st) : ∀ (n : Nat) (c : RunC), TrGo ks md ds b us st0 (fun _ _ => False) c → n + c.1.st.length = st.length + c.2.length →
    TrIn ks md ds b us st0 (runGo ks md ds us n c).1 ∧ TrMore c.1 (runGo ks md ds us n c).1 ∧ ((runGo ks md ds us n c).1.un = none → ∀ r ∈ ds, r.one ∈ (runGo ks md ds us n c).1.st.map (·.1) → r.other ∈ us → neB r.num = true → Done ks md r (runGo ks md ds us n c).1)
  | 0, c, h, e => by
    refine ⟨h.tr, TrMore.refl _, fun hu r hr hk ho hn => ?_⟩
    have hl : (c.1.st.map (·.1)).length ≤ st.length := List.Subset.length_le_of_nodup' h.tr.nd fun z hz => by
      obtain ⟨s, hs⟩ := look_mem hz
      obtain ⟨_, _, _, _, hu⟩ := h.tr.ent _ _ hs
      exact hus z hu
    rw [List.length_map] at hl
    have hw : c.2 = [] := List.length_eq_zero_iff.mp (by omega)
    have hu : c.1.un = none := hu
    have hk : r.one ∈ c.1.st.map (·.1) := hk
    rcases h.dn hu _ hk (by rw [hw]; intro q; cases q) r hr rfl ho hn with q | q
    · exact q.elim
    · exact q
  | n + 1, c, h, e => by
    obtain ⟨d, ws⟩ := c
    cases ws with
    | nil =>
      have e1 : runGo ks md ds us (n + 1) (d, []) = (d, []) := rfl
      rw [e1]
      refine ⟨h.tr, TrMore.refl _, fun hu r hr hk ho hn => ?_⟩
      rcases h.dn hu _ hk (by intro q; cases q) r hr rfl ho hn with q | q
      · exact q.elim
      · exact q
    | cons s r =>
      have e1 : runGo ks md ds us (n + 1) (d, s :: r) = if d.un = none then runGo ks md ds us n (stationStep ks md ds us s (d, r)) else (d, s :: r) := rfl
      rw [e1]
      split
      · rename_i hu
        have hs := h.ws s List.mem_cons_self
        have g : TrGo ks md ds b us st0 (fun z r => z = s ∧ ∃ p ∈ ds.zipIdx, p.1 = r) (d, r) := by
          refine ⟨h.tr, fun z hz => h.ws z (List.mem_cons_of_mem _ hz), fun hu z hz hw q hq e1 e2 e3 => ?_⟩
          by_cases c : z = s
          · obtain ⟨i, hi⟩ := List.getElem?_of_mem hq
            exact .inl ⟨c, (q, i), List.mk_mem_zipIdx_iff_getElem?.mpr hi, rfl⟩
          · rcases h.dn hu z hz (fun m => by rcases List.mem_cons.mp m with y | y; exact c y; exact hw y) q hq e1 e2 e3 with y | y
            · exact y.elim
            · exact .inr y
        obtain ⟨j1, j2, j3⟩ := arrow_go a (ps := ds.zipIdx) (fun _ hp => hp) g hs
        have j3 : (stationStep ks md ds us s (d, r)).1.st.length + r.length = d.st.length + (stationStep ks md ds us s (d, r)).2.length := j3
        have e : n + 1 + d.st.length = st.length + (r.length + 1) := e
        obtain ⟨k1, k2, k3⟩ := go_ok a hus n (stationStep ks md ds us s (d, r)) j1 (by omega)
        exact ⟨k1, j2.trans k2, k3⟩
      · rename_i hu
        exact ⟨h.tr, TrMore.refl _, fun q => absurd q hu⟩
/-- what all runs tell -/
structure RunsTold (ks : Kinds) (md : MapD) (pd : PlanD) (st0 : StD) (d : TrD) : Prop where
  tr : TrIn ks md pd.ds pd.b (usefulL pd) st0 d
  b0 : d.st.lookup pd.b = some st0
  dn : d.un = none → ∀ r ∈ pd.ds, r.one ∈ usefulL pd → r.other ∈ usefulL pd → neB r.num = true → Done ks md r d
  all : d.un = none → ∀ z ∈ usefulL pd, z ∈ d.st.map (·.1)
theorem run_told {ks : Kinds} {md : MapD} {pd : PlanD} {st0 : StD} (hb : pd.b ∈ pd.st) (he : pd.e ∈ pd.st) (g : ∀ r ∈ pd.ds, r.one ∈ pd.st ∧ r.other ∈ pd.st) (a : Asks ks md pd.ds pd.b st0) (hu : Rch pd.ds pd.b pd.e) : RunsTold ks md pd st0 (runAllM ks md pd st0) := by
  have bu : pd.b ∈ usefulL pd := (useful_iff hb he g).mpr ⟨.refl, hu⟩
  have hne : usefulL pd ≠ [] := fun q => by rw [q] at bu; cases bu
  have e0 : arriveD ⟨[], [], none⟩ pd.b st0 [] = ⟨[(pd.b, st0)], [(pd.b, [])], none⟩ := rfl
  have t0 : TrIn ks md pd.ds pd.b (usefulL pd) st0 ⟨[], [], none⟩ := ⟨rfl, List.nodup_nil, (fun z s h => by cases h), (fun z r1 r2 h => by cases h), (fun z s h => by cases h), (fun z r1 r2 h => by cases h)⟩
  have t1 := t0.arrive (z := pd.b) (s := st0) (r := []) .nil rfl bu (Nat.zero_le _)
  rw [e0] at t1
  have sub : ∀ z ∈ usefulL pd, z ∈ pd.st := fun z hz => by
    obtain ⟨h1, _⟩ := (useful_iff hb he g).mp hz
    clear hz
    induction h1 with
    | refl => exact hb
    | tail _ q _ =>
      obtain ⟨r, hr, _, _, rfl⟩ := q
      exact (g r hr).2
  have g0 : TrGo ks md pd.ds pd.b (usefulL pd) st0 (fun _ _ => False) (⟨[(pd.b, st0)], [(pd.b, [])], none⟩, [pd.b]) :=
    ⟨t1, (fun z hz => by rw [List.mem_singleton.mp hz]; exact List.mem_singleton.mpr rfl), fun _ z hz hw => absurd (show z ∈ [pd.b] by simpa using hz) hw⟩
  obtain ⟨h1, h2, h3⟩ := go_ok a sub pd.st.length _ g0 rfl
  have e1 : runAllM ks md pd st0 = (runGo ks md pd.ds (usefulL pd) pd.st.length (⟨[(pd.b, st0)], [(pd.b, [])], none⟩, [pd.b])).1 := by
    unfold runAllM
    rw [if_neg hne, e0]
  rw [e1]
  have b0 := h2.st pd.b st0 (by rw [List.lookup_cons]; simp)
  have al : (runGo ks md pd.ds (usefulL pd) pd.st.length (⟨[(pd.b, st0)], [(pd.b, [])], none⟩, [pd.b])).1.un = none → ∀ z ∈ usefulL pd, z ∈ (runGo ks md pd.ds (usefulL pd) pd.st.length (⟨[(pd.b, st0)], [(pd.b, [])], none⟩, [pd.b])).1.st.map (·.1) := fun hn z hz => by
    obtain ⟨q1, q2⟩ := (useful_iff hb he g).mp hz
    clear hz
    induction q1 with
    | refl => exact List.mem_map.mpr ⟨_, mem_of_look b0, rfl⟩
    | tail p q ih =>
      have q' := q
      obtain ⟨r, hr, rfl, hne, rfl⟩ := q
      have k := ih (Rch.head q' q2)
      obtain ⟨s, _, k2, _⟩ := (h3 hn r hr k ((useful_iff hb he g).mpr ⟨.tail p q', q2⟩) hne).ex
      exact List.mem_map.mpr ⟨_, mem_of_look k2, rfl⟩
  exact ⟨h1, b0, fun hn r hr h1 h2 h4 => h3 hn r hr (al hn _ h1) h2 h4, al⟩
end TR

/-! part P4 -/
/-! The plain law: plans over a book of one place without facts. -/
namespace TR
open PySem PySem.Spec PyProof.Rows L2 G
/-- what a plan has -/
structure PlanG (pd : PlanD) : Prop where
  ok : KOk pd.ks
  b : pd.b ∈ pd.st
  e : pd.e ∈ pd.st
  g : ∀ r ∈ pd.ds, r.one ∈ pd.st ∧ r.other ∈ pd.st
  nm : ∀ r ∈ pd.ds, r.name ∈ pd.ks.map (·.1)
  pos : ∀ r ∈ pd.ds, Pos r.num.cs
  nb : ∀ r ∈ pd.ds, NumB r.num
  rch : Rch pd.ds pd.b pd.e
  ln : pd.st.length ≤ 400
abbrev bk1 (ks : Kinds) (n : Str) : BookD := ⟨ks, [n], mapOf ks [n]⟩
theorem Path.names {ds : List ArrD} {s z : Str} {run : RunL} (h : Path ds s run z) : ∀ c ∈ rowR ds run, ∃ r ∈ ds, c.1 = r.name := by
  induction h with
  | nil => intro c hc; cases hc
  | cons h o m _ ih =>
    intro c hc
    rw [rowR_cons h] at hc
    rcases List.mem_cons.mp hc with e | e
    · exact ⟨_, List.mem_of_getElem? h, by rw [e]⟩
    · exact ih c e
theorem stF_one {ks : Kinds} {md : MapD} (h : OneM ks md) : ∀ {ss t : Steps}, (∀ c ∈ ss, c.1 ∈ ks.map (·.1)) → stF ks md (0, t) ss = (0, ss.foldl (nstep ks) t)
  | [], _, _ => rfl
  | c :: ss, t, hn => by
    obtain ⟨p, hp⟩ := look_mem (hn c List.mem_cons_self)
    show stF ks md (beyondM ks md (0, t) c) ss = _
    rw [beyond_one h hp, stF_one h (fun q hq => hn q (List.mem_cons_of_mem _ hq))]
    rfl
theorem PlanG.rn {pd : PlanD} (h : PlanG pd) {s z : Str} {run : RunL} (p : Path pd.ds s run z) : ∀ c ∈ rowR pd.ds run, c.1 ∈ pd.ks.map (·.1) := fun c hc => by
  obtain ⟨r, hr, e⟩ := p.names c hc
  rw [e]
  exact h.nm r hr
theorem PlanG.st1 {pd : PlanD} (h : PlanG pd) {n s z : Str} {run : RunL} (p : Path pd.ds s run z) : stF pd.ks (mapOf pd.ks [n]) (0, []) (rowR pd.ds run) = (0, normal pd.ks (rowR pd.ds run)) := stF_one (one_map h.ok.nd).1 (h.rn p)
theorem bad_red {p a b : Int} (hp : 0 ≤ p) : badFar p (a - b) = true ↔ redE p a ≠ redE p b := by
  unfold badFar
  rw [Ne, redE_dec]
  by_cases c : p = 0
  · rw [if_pos c, if_neg (by omega)]
    simp
    omega
  · rw [if_neg c, if_pos (by omega)]
    simp only [Bool.not_eq_true', decide_eq_false_iff_not]
    exact not_congr (Int.dvd_iff_emod_eq_zero ..).symm
theorem perOf_look {ks : Kinds} {z : Str} {p : Int} (h : ks.lookup z = some p) : perOf ks z = p := by
  unfold perOf
  rw [h]
  rfl
theorem one_asks {pd : PlanD} (h : PlanG pd) (n : Str) : Asks pd.ks (mapOf pd.ks [n]) pd.ds pd.b (0, []) where
  pos := h.pos
  sm := fun r hr => (sample_ok (h.pos r hr) (h.nb r hr)).mem
  df := fun run r e e' hr hp hb => by
    have o := (one_map (n := n) h.ok.nd).1
    obtain ⟨p, hl⟩ := look_mem (h.nm r hr)
    rw [h.st1 hp] at hb ⊢
    rw [mod_one o hl] at hb
    rw [beyond_one o hl, beyond_one o hl]
    intro q
    have q := (Prod.mk.inj q).2
    rw [nstep_eq (normal_norm _ _), perOf_look hl] at q
    exact (bad_red (h.ok.pe _ (mem_of_look hl)).1).mp hb q.symm
theorem one_told {pd : PlanD} (h : PlanG pd) (n : Str) : RunsTold pd.ks (mapOf pd.ks [n]) pd (0, []) (traceM (bk1 pd.ks n) pd n) := by
  have := run_told h.b h.e h.g (one_asks h n) h.rch
  unfold traceM
  rw [spot_one h.ok.nd]
  exact this
theorem ru_len {ks : Kinds} {md : MapD} {pd : PlanD} {st0 : StD} {d : TrD} (h : PlanG pd) (t : TrIn ks md pd.ds pd.b (usefulL pd) st0 d) : d.ru.length ≤ pd.st.length := by
  have e := congrArg List.length t.kk
  rw [List.length_map, List.length_map] at e
  have := List.Subset.length_le_of_nodup' t.nd fun z hz => by
    obtain ⟨s, hs⟩ := look_mem hz
    obtain ⟨_, _, _, _, hu⟩ := t.ent _ _ hs
    have := (useful_iff h.b h.e h.g).mp hu
    have hr := this.1
    show z ∈ pd.st
    clear hz hs hu this
    induction hr with
    | refl => exact h.b
    | tail _ q _ =>
      obtain ⟨r, hr, _, _, rfl⟩ := q
      exact (h.g r hr).2
  rw [List.length_map] at this
  omega
/-- the runs that are looked at -/
theorem runs_path {pd : PlanD} (h : PlanG pd) {n : Str} {run : RunL} (hr : run ∈ runsM (bk1 pd.ks n) pd n) : Path pd.ds pd.b run pd.e ∧ run.length ≤ 801 := by
  have t := one_told h n
  have lr := ru_len h t.tr
  have ln := h.ln
  unfold runsM at hr
  split at hr
  · rename_i s a b hu
    obtain ⟨p1, p2, hus, _⟩ := t.tr.unl _ _ _ hu
    obtain ⟨l1, l2⟩ := t.tr.lu _ _ _ hu
    obtain ⟨w, hw, pw, lw⟩ := way_ok h.e h.g h.pos ((useful_iff h.b h.e h.g).mp hus).2
    have ht : tailAt (wayL pd) s = w := by unfold tailAt; rw [hw]; rfl
    rw [ht] at hr
    rcases List.mem_cons.mp hr with e | e
    · subst e
      exact ⟨p1.app pw, by rw [List.length_append]; omega⟩
    · rw [List.mem_singleton.mp e]
      exact ⟨p2.app pw, by rw [List.length_append]; omega⟩
  · rename_i hu
    split at hr
    · rename_i r hrl
      rw [List.mem_singleton.mp hr]
      have hk : pd.e ∈ (traceM (bk1 pd.ks n) pd n).st.map (·.1) := by rw [t.tr.kk]; exact List.mem_map.mpr ⟨_, mem_of_look hrl, rfl⟩
      obtain ⟨s, hs⟩ := look_mem hk
      obtain ⟨run', h1, h2, _⟩ := t.tr.ent _ _ hs
      rw [hrl] at h1
      cases h1
      have := t.tr.ln _ _ hrl
      exact ⟨h2, by omega⟩
    · cases hr
theorem un_way {pd : PlanD} (h : PlanG pd) {n : Str} : ∀ u, (traceM (bk1 pd.ks n) pd n).un = some u → ∃ t, (wayL pd).lookup u.1 = some t := fun u hu => by
  obtain ⟨z, r1, r2⟩ := u
  obtain ⟨_, _, hus, _⟩ := (one_told h n).tr.unl _ _ _ hu
  obtain ⟨w, hw, _⟩ := way_ok h.e h.g h.pos ((useful_iff h.b h.e h.g).mp hus).2
  exact ⟨w, hw⟩
theorem in_run {pd : PlanD} (h : PlanG pd) {n : Str} {run : RunL} (p : Path pd.ds pd.b run pd.e) : inBook (bk1 pd.ks n) (claimM (bk1 pd.ks n) pd n n run) = decide (normal pd.ks (rowR pd.ds run) = []) :=
  in_one h.ok (normal_redd _ _) fun c hc => by
    obtain ⟨d0, hd, e⟩ := normal_sub hc
    rw [e]
    exact h.rn p d0 hd
theorem bad_some {pd : PlanD} (h : PlanG pd) {n : Str} {run : RunL} (hb : badRunM (bk1 pd.ks n) pd n n = some run) : Path pd.ds pd.b run pd.e ∧ normal pd.ks (rowR pd.ds run) ≠ [] := by
  unfold badRunM at hb
  have p := (runs_path h (List.mem_of_find?_eq_some hb)).1
  have := List.find?_some hb
  rw [in_run h p] at this
  exact ⟨p, by simpa using this⟩
theorem bad_none {pd : PlanD} (h : PlanG pd) {n : Str} (hb : badRunM (bk1 pd.ks n) pd n n = none) : (traceM (bk1 pd.ks n) pd n).un = none ∧ ∀ run ∈ runsM (bk1 pd.ks n) pd n, normal pd.ks (rowR pd.ds run) = [] := by
  have t := one_told h n
  have al : ∀ run ∈ runsM (bk1 pd.ks n) pd n, normal pd.ks (rowR pd.ds run) = [] := fun run hr => by
    have := List.find?_eq_none.mp hb run hr
    rw [in_run h (runs_path h hr).1] at this
    simpa using this
  refine ⟨?_, al⟩
  cases hu : (traceM (bk1 pd.ks n) pd n).un with
  | none => rfl
  | some u =>
    exfalso
    obtain ⟨s, a, b⟩ := u
    obtain ⟨p1, p2, hus, ne⟩ := t.tr.unl _ _ _ hu
    rw [h.st1 p1, h.st1 p2] at ne
    have e : runsM (bk1 pd.ks n) pd n = [a ++ tailAt (wayL pd) s, b ++ tailAt (wayL pd) s] := by unfold runsM; rw [hu]
    have h1 := al (a ++ tailAt (wayL pd) s) (by rw [e]; simp)
    have h2 := al (b ++ tailAt (wayL pd) s) (by rw [e]; simp)
    rw [rowR_app] at h1 h2
    exact ne (by rw [normal_can (h1.trans h2.symm)])
/-- stations that are useful have states that all runs agree with -/
theorem told_path {pd : PlanD} (h : PlanG pd) {n : Str} (hu : (traceM (bk1 pd.ks n) pd n).un = none) {a z : Str} {run : RunL} (p : Path pd.ds a run z) : Rch pd.ds pd.b a → Rch pd.ds z pd.e → ∀ s, (traceM (bk1 pd.ks n) pd n).st.lookup a = some (0, s) → Norm pd.ks s → (traceM (bk1 pd.ks n) pd n).st.lookup z = some (0, (rowR pd.ds run).foldl (nstep pd.ks) s) := by
  have t := one_told h n
  have o := (one_map (n := n) h.ok.nd).1
  induction p with
  | nil => exact fun _ _ s hs _ => hs
  | @cons a z i e r run hi ho m p ih =>
    intro q1 q2 s hs ns
    subst ho
    have hm := List.mem_of_getElem? hi
    have hne : neB r.num = true := (neB_iff (h.pos r hm)).mpr ⟨e, m⟩
    have aw : Arw pd.ds r.one r.other := ⟨r, hm, rfl, hne, rfl⟩
    have q3 : Rch pd.ds r.other pd.e := (p.rch (fun r hr k hk => (neB_iff (h.pos r hr)).mpr ⟨k, hk⟩)).trans q2
    obtain ⟨s', h1, h2, h3⟩ := (t.dn hu r hm ((useful_iff h.b h.e h.g).mpr ⟨q1, Rch.head aw q3⟩) ((useful_iff h.b h.e h.g).mpr ⟨.tail q1 aw, q3⟩) hne).ex
    rw [hs] at h1
    cases h1
    obtain ⟨per, hl⟩ := look_mem (h.nm r hm)
    have hper := (h.ok.pe _ (mem_of_look hl)).1
    rw [beyond_one o hl] at h2
    have so := sample_ok (h.pos r hm) (h.nb r hm)
    have al : ∀ y, memD y r.num = true → redE per y = redE per (nr0 r.num) := fun y hy => by
      have hz : ∀ z ∈ sampL r.num, (if 0 < per then per else 0) ∣ z - nr0 r.num := fun z hz => by
        have := h3 z hz
        rw [mod_one o hl] at this
        have : redE per z = redE per (nr0 r.num) := by
          by_cases c : redE per z = redE per (nr0 r.num)
          · exact c
          · rw [(bad_red hper).mpr c] at this; cases this
        rw [redE_dec] at this
        split
        · rename_i c; rw [if_pos c] at this; exact this
        · rename_i c; rw [if_neg c] at this; rw [this, Int.sub_self]; exact Int.dvd_zero _
      have := so.gcd _ _ hz y hy
      rw [redE_dec]
      split
      · rename_i c; rw [if_pos c] at this; exact this
      · rename_i c; rw [if_neg c] at this; have := Int.zero_dvd.mp this; omega
    have e1 : nstep pd.ks s (r.name, e) = nstep pd.ks s (r.name, nr0 r.num) := (nstep_eq ns).mpr (by rw [perOf_look hl]; exact al e m)
    rw [rowR_cons hi, List.foldl_cons, e1]
    exact ih (.tail q1 aw) q2 _ h2 (nstep_norm ns)
/-- sure exactly if all runs have the row without steps -/
theorem bad_iff {pd : PlanD} (h : PlanG pd) {n : Str} : badRunM (bk1 pd.ks n) pd n n = none ↔ ∀ run, Path pd.ds pd.b run pd.e → normal pd.ks (rowR pd.ds run) = [] := by
  constructor
  · intro hb run hp
    obtain ⟨hu, al⟩ := bad_none h hb
    have t := one_told h n
    have h1 := told_path h hu hp .refl .refl [] t.b0 .nil
    obtain ⟨r, h2, h3, h4, _⟩ := t.tr.ent _ _ h1
    have e : runsM (bk1 pd.ks n) pd n = [r] := by
      unfold runsM
      rw [hu]
      dsimp only
      rw [h2]
    have h5 := al r (by rw [e]; simp)
    rw [h.st1 h3, h5] at h4
    exact (Prod.mk.inj h4).2.symm
  · intro al
    unfold badRunM
    refine List.find?_eq_none.mpr fun run hr => ?_
    have p := (runs_path h hr).1
    rw [in_run h p, al run p]
    simp
end TR

/-! part M26 -/
/-! The table of a plan. -/
namespace G
open PySem PySem.Spec PyProof.Rows L2
section
variable {J : It} {n : Nat} {G : Hp → Prop} {Y : Nat → Hp → V → Hp → Prop} {β : Type}
/-- a dict comprehension over a walk -/
theorem dc_it (w : Walk J n G Y) {g : TG} {tt : TT} {tk tv : TE} {vs : List Nat} {σ : L2.St} {H1 : Hp} {D : Addr} {Qd : Hp → Prop} (Pv : Nat → Hp → Prop) (h0 : Pv 0 (upd H1 D (.dK []))) (hG : ∀ i H, i ≤ n → Pv i H → G H)
    (hs : ∀ i x H H', i < n → Pv i H → Y i H x H' → g x (wipe σ vs) H' fun σ2 H2 => wipe σ2 vs = wipe σ vs ∧ tt σ2 H2 fun b H3 =>
      if b = true then tk σ2 H3 fun y H4 => tv σ2 H4 fun z H5 => ∃ kvs k, y = kV k ∧ H5 D = some (.dK kvs) ∧ kvs.length < sizeLine ∧ Pv (i + 1) (upd H5 D (.dK (putK kvs k z))) else Pv (i + 1) H3) (hd : ∀ H, Pv n H → Qd H) :
    ∃ W : Nat → Nat → Hp → Prop, (∃ m, W 0 m (upd H1 D (.dK []))) ∧ ∀ i m H, W i m H →
      (J.stop i H ∧ Qd H) ∨ (J.go i H ∧ ∃ Nx : Hp → Prop, (∀ H', Nx H' → ∃ m', m' < m ∧ W (i + 1) m' H') ∧ ∀ x H', J.yld i H x H' → g x (wipe σ vs) H' fun σ2 H2 => wipe σ2 vs = wipe σ vs ∧ tt σ2 H2 fun b H3 =>
        if b = true then tk σ2 H3 fun y H4 => tv σ2 H4 fun z H5 => ∃ kvs k, y = kV k ∧ H5 D = some (.dK kvs) ∧ kvs.length < sizeLine ∧ Nx (upd H5 D (.dK (putK kvs k z))) else Nx H3) := by
  refine ⟨fun i m H => m = n - i ∧ i ≤ n ∧ Pv i H, ⟨n, by simp, Nat.zero_le _, h0⟩, ?_⟩
  rintro i m H ⟨rfl, hi, p⟩
  have q := hG i H hi p
  by_cases hlt : i < n
  · refine .inr ⟨w.goes i H hlt q, Pv (i + 1), fun H' p' => ⟨n - (i + 1), by omega, rfl, hlt, p'⟩, fun x H' y => hs i x H H' hlt p (w.yields i H x H' hlt q y)⟩
  · have e : i = n := by omega
    subst e
    exact .inl ⟨w.stops H q, hd H p⟩
/-- .. by names, whose elements only make new things -/
theorem go_dc (w : Walk J n G Y) {g : TG} {tt : TT} {tk tv : TE} {vs : List Nat} {σ : L2.St} {F1 H1 : Hp} {D : Addr} {Qd : Hp → Prop} (A : Rp β) (acc : Nat → List (Str × β)) (hn : n ≤ 100000)
    (sF : Same F1 H1) (nD : H1 D = none) (h0 : acc 0 = []) (hG : ∀ F H, Pu F1 H1 F H → G H)
    (hs : ∀ i x F H l H' (N : Hp → Prop), i < n → Pu F1 H1 F H → F D = none → H D = some (.dK l) → Y i H x H' →
      (∀ y z H5 F5 d, Pu F H F5 H5 → A.rel d z F5 → acc (i + 1) = acc i ++ [(y, d)] → y ∉ (acc i).map (·.1) → ∃ kvs k, V.str y = kV k ∧ H5 D = some (.dK kvs) ∧ kvs.length < sizeLine ∧ N (upd H5 D (.dK (putK kvs k z)))) →
      g x (wipe σ vs) H' fun σ2 H2 => wipe σ2 vs = wipe σ vs ∧ tt σ2 H2 fun b H3 =>
      if b = true then tk σ2 H3 fun y H4 => tv σ2 H4 fun z H5 => ∃ kvs k, y = kV k ∧ H5 D = some (.dK kvs) ∧ kvs.length < sizeLine ∧ N (upd H5 D (.dK (putK kvs k z))) else N H3)
    (hd : ∀ F H ys, Pu F1 H1 F H → F D = none → H D = some (.dK ys) → TR.KdP A F (acc n) ys → Qd H) :
    ∃ W : Nat → Nat → Hp → Prop, (∃ m, W 0 m (upd H1 D (.dK []))) ∧ ∀ i m H, W i m H →
      (J.stop i H ∧ Qd H) ∨ (J.go i H ∧ ∃ Nx : Hp → Prop, (∀ H', Nx H' → ∃ m', m' < m ∧ W (i + 1) m' H') ∧ ∀ x H', J.yld i H x H' → g x (wipe σ vs) H' fun σ2 H2 => wipe σ2 vs = wipe σ vs ∧ tt σ2 H2 fun b H3 =>
        if b = true then tk σ2 H3 fun y H4 => tv σ2 H4 fun z H5 => ∃ kvs k, y = kV k ∧ H5 D = some (.dK kvs) ∧ kvs.length < sizeLine ∧ Nx (upd H5 D (.dK (putK kvs k z))) else Nx H3) := by
  have line : ∀ i, i ≤ 100000 → i < sizeLine := fun i h => Nat.lt_of_le_of_lt h (by rw [sizeLine_eq]; decide)
  refine dc_it w (fun i H => ∃ F ys, Pu F1 H1 F H ∧ F D = none ∧ H D = some (.dK ys) ∧ ys.length ≤ i ∧ TR.KdP A F (acc i) ys) ?_ (fun i H hi ⟨F, ys, p, _⟩ => hG F H p) (fun i x H H' hi ⟨F, ys, p, fD, hH, hl, pd⟩ y => ?_) (fun H ⟨F, ys, p, fD, hH, hl, pd⟩ => hd F H ys p fD hH pd)
  · exact ⟨F1, [], (Pu.refl sF).tmp nD, sF.free nD, upd_same, Nat.le_refl 0, by rw [h0]; exact .nil⟩
  · refine hs i x F H ys H' _ hi p fD hH y (fun y z H5 F5 d q r e nm => ?_)
    have fD5 := q.none fD (ne_none hH)
    have h5 := q.same _ _ hH
    have pt := (pd.mono q.ff).put nm r
    refine ⟨ys, Sum.inr y, rfl, h5, line _ (by omega), F5, ys ++ [(Sum.inr y, z)], ?_, fD5, ?_, by simp; omega, ?_⟩
    · exact (p.trans q).mut nD fD5
    · rw [upd_same, pt.1]
    · rw [e]
      exact pt.2
/-- behind a lock -/
theorem Pu.unlock {G H F2 H2 : Hp} {d : Addr} {od : Obj} {u : HO} (hG : G d = some u) (hs : Same G H) (q : Pu (del G d) (upd H d (.frz od u)) F2 H2) : Pu G H (upd F2 d u) (upd H2 d u) := by
  have f2 : F2 d = Option.none := q.none del_same (by rw [upd_same]; intro z; cases z)
  refine ⟨fun a o e => ?_, ⟨fun a o e => ?_, fun a o e => ?_, fun a o e => ?_⟩⟩
  · by_cases c : a = d
    · subst c
      rw [hs _ _ hG] at e
      cases e
      exact upd_same
    · rw [upd_ne c]
      exact q.same a o (by rw [upd_ne c]; exact e)
  · by_cases c : a = d
    · subst c
      rw [hG] at e
      cases e
      exact upd_same
    · rw [upd_ne c]
      exact q.ff a o (by rw [del_ne c]; exact e)
  · by_cases c : a = d
    · subst c
      rw [upd_same] at e ⊢
      exact e
    · rw [upd_ne c] at e ⊢
      exact q.sub a o e
  · by_cases c : a = d
    · subst c
      rw [upd_same] at e
      cases e
      exact .inl hG
    · rw [upd_ne c] at e
      rcases q.grow.fresh a o e with z | z
      · exact .inl (by rw [del_ne c] at z; exact z)
      · exact .inr (by rw [upd_ne c] at z; exact z)
theorem Same.lock {G H : Hp} {d : Addr} {o : HO} (hs : Same G H) : Same (del G d) (upd H d o) := fun a u e => by
  have n := del_at e
  rw [upd_ne n]
  rw [del_ne n] at e
  exact hs a u e
end
end G
namespace TR
open PySem PySem.Spec PyProof.Rows L2 G
theorem rls_del {run : RunL} {v : V} {F : Hp} {d : Addr} {kvs : List (L2.Key × V)} (h : RLs.rel run v F) (hd : F d = some (.dK kvs)) : RLs.rel run v (del F d) := by
  obtain ⟨a, xs, rfl, ha, pd⟩ := h
  refine ⟨a, xs, rfl, by rw [del_ne (fun z => by subst z; rw [hd] at ha; cases ha)]; exact ha, pd_mono (fun p x h => ?_) pd⟩
  obtain ⟨b, y, z, rfl, hb, r1, r2⟩ := h
  exact ⟨b, y, z, rfl, by rw [del_ne (fun z => by subst z; rw [hd] at hb; cases hb)]; exact hb, r1, r2⟩
section
variable {P : Program} {w : World} {K : PySem.W.Frag} {mg : Str → Option Value} {base : Heap} {CT CG CM CR CB CC CN CP : Addr}
theorem look_at {β : Type} {q : Str × β} : ∀ {l : List (Str × β)} {i : Nat}, (l.map (·.1)).Nodup → l[i]? = some q → l.lookup q.1 = some q.2
  | [], i, _, h => by simp at h
  | p :: l, 0, nd, h => by
    simp at h
    subst h
    obtain ⟨a, b⟩ := p
    rw [List.lookup_cons]
    simp
  | p :: l, i + 1, nd, h => by
    rw [List.map_cons, List.nodup_cons] at nd
    obtain ⟨a, b⟩ := p
    have h : l[i]? = some q := by simpa using h
    have hm : q.1 ∈ l.map (·.1) := List.mem_map_of_mem (List.mem_of_getElem? h)
    rw [List.lookup_cons, show (q.1 == a) = false by
      rw [beq_eq_false_iff_ne]
      intro e
      exact nd.1 (e ▸ hm)]
    exact look_at nd.2 h
theorem nd_take {β : Type} {q : Str × β} {l : List (Str × β)} {i : Nat} (nd : (l.map (·.1)).Nodup) (h : l[i]? = some q) : q.1 ∉ (l.take i).map (·.1) := fun m => by
  obtain ⟨p, hp, e⟩ := List.mem_map.mp m
  obtain ⟨j, hj⟩ := List.getElem?_of_mem hp
  have hji : j < i := by
    by_cases z : j < i
    · exact z
    · rw [List.getElem?_eq_none (by simp; omega)] at hj; cases hj
  rw [List.getElem?_take_of_lt hji] at hj
  have a1 : (l.map (·.1))[j]? = some q.1 := by rw [List.getElem?_map, hj]; simp [e]
  have a2 : (l.map (·.1))[i]? = some q.1 := by rw [List.getElem?_map, h]; rfl
  have := (List.getElem?_inj (List.getElem?_eq_some_iff.mp a1).1 nd).mp (a1.trans a2.symm)
  omega
abbrev s_table : Stmt := top 76
abbrev N_table : List Str := ["book", "plan", "place", "other", "trace", "steps", "index", "exponent", "name"]
abbrev P_table : List Str := ["book", "plan", "place", "other"]
theorem sc_table : FnScope N_table P_table (defScope s_table) := ⟨rfl, rfl, rfl, by decide +kernel, rfl, by decide +kernel, by decide +kernel⟩
theorem bn_table : BindsNo "table" "table" s_table P_table := fun _ _ _ _ _ _ us hl => match us, hl with | [_, _, _, _], _ => rfl
def tabM (bd : BookD) (pd : PlanD) (z1 : Str) : List (Str × RowD) := (traceM bd pd z1).ru.map fun q => (q.1, ⟨pd.ks, normal pd.ks (rowR pd.ds q.2)⟩)
def sp_table (CM CG CT CN CP CB CR : Addr) : Sp := fun vs H Q _ => ∃ (F : Hp) (ba : Addr) (pw : V) (bd : BookD) (pd : PlanD) (z1 z2 : Str), vs = [.ref ba, pw, .str z1, .str z2] ∧ Same F H ∧ Askd CM CG CT CN CP CB F ba pw bd pd z1 z2 ∧
  ((traceM bd pd z1).ru.map (·.1)).Nodup ∧ (traceM bd pd z1).ru.length ≤ 1000 ∧ (∀ q ∈ (traceM bd pd z1).ru, (∀ p ∈ q.2, ∃ a, arrAt pd.ds p.1 = some a) ∧ q.2.length ≤ 1000) ∧
  ∀ G H' v, Pu F H G H' → (match badRunM bd pd z1 z2 with
    | some _ => v = .non
    | none => ∃ a kvs, v = .ref a ∧ G a = some (.dK kvs) ∧ KdP (RRow CT CR) G (tabM bd pd z1) kvs) → Q v H'
theorem ok_table (B : Bt mg) (PL : KlF K mg "Plan" CP ["turns", "stations", "arrows", "begin", "end"]) (TC : KlF K mg "Trace" CC trNames) (c_checked_trace : Cal P w K mg base 7 "checked_trace" (sp_checked_trace CM CG CT CN CP CB CC)) (c_bad_run : Cal P w K mg base 8 "bad_run" (sp_bad_run CM CG CT CN CP CB CC))
    (k_Row : Mak P w K mg base 5 "Row" CR (sp_Row_init K CT CR)) (F : FnF K mg "table" s_table []) : Cal P w K mg base 9 "table" (sp_table CM CG CT CN CP CB CR) := by
  refine F.cal sc_table bn_table (fun vs H Q E h => ?_) (fun f cdv A outer s H vs Q E hr h => ?_)
  · obtain ⟨_, _, _, _, _, _, _, rfl, _⟩ := h
    rfl
  · obtain ⟨F, ba, pw, bd, pd, z1, z2, rfl, sF, ask, knd, klen, kix, k⟩ := h
    obtain ⟨bdx, ts, tw, fv, rv, ad, hb⟩ := ask.at_
    obtain ⟨a, pdx, pts, ta, tv, hp⟩ := id ask.rp
    obtain ⟨tb, as, etb, hta, pda⟩ := hp.ar
    cases etb
    refine ⟨_, (pss_cons (ps_if (pt_cmpR op_notN (pe_c c_bad_run hr (by decide) (pa_cons (pv 0) (pa_cons (pv 1) (pa_cons (pv 2) (pa_cons (pv 3) pa_nil)))) passL) pe_non (nomark _)) (pss_one (ps_ret pe_non)) pss_nil)
    (pss_cons (ps_set (i := 4) sc_table.nd rfl (Or.inr rfl) (pe_c c_checked_trace hr (by decide) (pa_cons (pv 0) (pa_cons (pv 1) (pa_cons (pv 2) (pa_cons (pv 3) pa_nil)))) passL))
    (pss_cons (ps_set (i := 5) sc_table.nd rfl (Or.inr rfl) (pe_lock (pe_dc (own := [("name", 8)]) rfl sc_table.nd (pi_keys (k_fld (pv 4) (K := K))) (blkOk_by (N := N_table) (sc := defScope s_table) (by decide +kernel)) (fun _ _ _ _ _ => (pg_name (i := 8) sc_table.nd rfl (Or.inl rfl))) (fun _ _ _ _ _ => pts_nil) (fun _ _ _ _ _ => (pv 8)) (fun _ _ _ _ _ => (pe_lc (own := [("index", 6), ("exponent", 7)]) rfl sc_table.nd (k_il (pe_dget (hu_of hr) (k_fld (pv 4) (K := K)) (pv 8) (fun _ _ => rfl)) (K := K)) (blkOk_by (by rfl)) (fun _ _ _ _ _ => (k_tup (n := 2) rfl (pgs_cons (pg_name (i := 6) sc_table.nd rfl (Or.inl rfl)) (pgs_cons (pg_name (i := 7) sc_table.nd rfl (Or.inl rfl)) pgs_nil)) (K := K))) (fun _ _ _ _ _ => pts_nil) (fun _ _ _ _ _ => (pe_tup (pa_cons (pe_ix (k_ix (K := K)) (pe_ix (k_ix (K := K)) (k_fld (pv 1) (K := K)) (pv 6) (fun _ _ => rfl)) pe_int (fun _ _ => rfl)) (pa_cons (pv 7) pa_nil)))))))))
    (pss_one (ps_ret (pe_lock (pe_dc (own := [("name", 8)]) rfl sc_table.nd (pi_keys (pv 5)) (blkOk_by (N := N_table) (sc := defScope s_table) (by decide +kernel)) (fun _ _ _ _ _ => (pg_name (i := 8) sc_table.nd rfl (Or.inl rfl))) (fun _ _ _ _ _ => pts_nil) (fun _ _ _ _ _ => (pv 8)) (fun _ _ _ _ _ => (pe_k k_Row hr (by decide) (pa_cons (k_fld (pv 1) (K := K)) (pa_cons (pe_dget (hu_of hr) (pv 5) (pv 8) (fun _ _ => rfl)) pa_nil)) passL))))))))), ?_⟩
    refine stp [some (.ref ba), some pw, some (.str z1), some (.str z2), none, none, none, none, none] rfl fun N hN => ?_
    refine ⟨_, rfl, _, rfl, _, rfl, _, rfl, F, ba, bdx, ts, tw, fv, rv, pw, ad, bd, pd, z1, z2, rfl, sF, hb, ask.bo, ask.rp, ask.ks, ask.m1, ask.m2, ask.b, ask.e, ask.ln, ask.nb, ask.md, ask.rn, ask.wy, fun G0 H1 v0 pu0 hv => ?_⟩
    refine ⟨rfl, ?_⟩
    cases hbr : badRunM bd pd z1 z2 with
    | some run =>
      rw [hbr] at hv k
      obtain ⟨x, xs, rfl, _⟩ := hv
      rw [decide_eq_false (by intro z; cases z)]
      refine ⟨_, rfl, iteT ?_⟩
      exact k F H1 .non ⟨pu0.same, Grow.tmp sF pu0.same⟩ rfl
    | none =>
      rw [hbr] at hv k
      have hv : v0 = .non := hv
      rw [decide_eq_true hv]
      refine ⟨_, rfl, iteF (hN _ _ ?_)⟩
      clear hN
      have q0 : Pu F H F H1 := ⟨pu0.same, Grow.tmp sF pu0.same⟩
      refine stp [some (.ref ba), some pw, some (.str z1), some (.str z2), none, none, none, none, none] rfl fun N hN => ?_
      refine ⟨_, rfl, _, rfl, _, rfl, _, rfl, F, ba, bdx, ts, tw, fv, rv, pw, ad, bd, pd, z1, z2, rfl, q0.sub, hb, ask.bo, ask.rp, ask.ks, ask.m1, ask.m2, ask.b, ask.e, ask.ln, ask.nb, ask.md, fun G1 H2 p pu1 tr hpv hfr => ?_⟩
      refine hN _ _ ?_
      clear hN
      have q1 := q0.trans pu1
      refine stp [some (.ref ba), some pw, some (.str z1), some (.str z2), some (.ref p.x), none, none, none, none] rfl fun N hN => ?_
      obtain ⟨dx, uv, h0, hu⟩ := tr.ob
      obtain ⟨kr, h2, kd2⟩ := tr.ru
      have hH2 := pu1.sub _ _ h2
      have nx : p.x ≠ p.er := fun z => by rw [z, h2] at h0; cases h0
      have fFL : Same F (del G1 p.er) := fun x o e => by rw [del_ne (fun z => by subst z; rw [hfr] at e; cases e)]; exact pu1.ff _ _ e
      have hlk := kd2.len
      have ekl : kr.length = (traceM bd pd z1).ru.length := hlk
      refine ⟨p.er, .dK kr, hH2, trivial, fun od => ?_⟩
      have sL : Same (del G1 p.er) (upd H2 p.er (.frz od (.dK kr))) := Same.lock pu1.sub
      have xL : (del G1 p.er) p.x = some (.ins CC dx (trFs p uv)) := by rw [del_ne nx]; exact h0
      refine ⟨_, rfl, p.x, CC, dx, _, _, rfl, sL _ _ xL, TC.cl, TC.no _ (by decide), rfl, p.er, od, rfl, .inl ⟨kr, upd_same, fun D hD => ?_⟩⟩
      refine go_dc (F1 := del G1 p.er) walk_keys (Rp.lst RStep) (fun i => ((traceM bd pd z1).ru.map fun q => (q.1, rowR pd.ds q.2)).take i) (by omega) sL hD (by simp) (fun F H pu => pu.same _ _ upd_same) (fun i x F3 H3 l H' N3 hi pu fD hl hy kt => ?_) (fun F3 H3 ys pu fD hl pd1 => ?_)
      · obtain ⟨e1, kk, vv, hk, rfl⟩ := hy
        subst e1
        obtain ⟨q, hq, ek, _⟩ := pd_get kd2 hk
        have ek : kk = Sum.inr q.1 := ek
        subst ek
        have hq : (traceM bd pd z1).ru[i]? = some q := hq
        obtain ⟨vx, hvx, rl⟩ := kd2.get (n := q.1) (b := q.2) (look_at knd hq)
        obtain ⟨hix, hln⟩ := kix q (List.mem_of_getElem? hq)
        have rl3 := RLs.mono pu.ff (rls_del rl h2)
        obtain ⟨lr, rxs, rfl, hlr, prx⟩ := rl3
        have hxl : rxs.length = q.2.length := pd_len prx
        have sF3 := (fFL.trans pu.ff).trans pu.sub
        refine ⟨rfl, _, rfl, ?_⟩
        refine ⟨_, rfl, p.x, CC, dx, _, _, rfl, pu.sub _ _ (pu.ff _ _ xL), TC.cl, TC.no _ (by decide), rfl, _, rfl, p.er, .ref lr, rfl, .inl ⟨kr, Sum.inr q.1, .inr ⟨od, pu.same _ _ upd_same⟩, rfl, hvx.symm⟩, lr, rfl, ⟨_, SqL.of (pu.sub _ _ hlr)⟩, fun D2 hD2 => ?_⟩
        refine go_lc (F1 := F3) (walk_list (xs := rxs)) RStep (fun j => (rowR pd.ds q.2).take j) (by omega) pu.sub hD2 (by simp) (fun F5 H5 pu5 => SqL.of (pu5.sub _ _ (pu5.ff _ _ hlr))) (fun j y F5 H5 l5 H6 N5 hj pu5 fD5 hl5 hy kt5 kf5 => ?_) (fun F5 H5 ys pu5 fD5 hl5 pd5 => ?_)
        · obtain ⟨e1, hy⟩ := hy
          subst e1
          obtain ⟨pr, hpr, b2, u1, u2, rfl, hb2, e2, e3⟩ := pd_get prx hy
          have e2 : u1 = .int pr.1 := e2
          have e3 : u2 = .int pr.2 := e3
          subst e2 e3
          obtain ⟨ar, har⟩ := hix pr (List.mem_of_getElem? hpr)
          obtain ⟨hj0, hjx⟩ := arrAt_int har
          obtain ⟨y2, hy2, b3, nv, ha⟩ := pd_get' pda hjx
          have sF5 := ((fFL.trans pu.ff).trans pu5.ff).trans pu5.sub
          refine ⟨b2, _, rfl, SqT.of (pu5.sub _ _ (pu5.ff _ _ hb2)), rfl, _, _, rfl, _, _, rfl, rfl, rfl, ?_⟩
          refine ⟨_, rfl, a, CP, pdx, _, _, hp.ev, sF5 _ _ hp.ob, PL.cl, PL.no _ (by decide), rfl, _, rfl, .inr (.inl ⟨ta, as, pr.1, y2, rfl, rfl, SqT.of (sF5 _ _ hta), atI_int hj0 hy2, ?_⟩)⟩
          refine .inr (.inl ⟨b3, _, 1, _, ha.ev, rfl, SqT.of (sF5 _ _ ha.ob), atI_nat rfl, ?_⟩)
          refine ⟨_, rfl, sz (n := 2) (by decide), fun z hz => ?_⟩
          refine kt5 (.ref z) _ (upd F5 z (.tup [.str ar.name, .int pr.2])) (ar.name, pr.2) ((Pu.refl pu5.sub).add hz) ⟨z, _, _, rfl, upd_same, rfl, rfl⟩ (take_snoc ?_)
          unfold rowR
          rw [List.getElem?_map, List.getElem?_map, hpr]
          show some (((arrAt pd.ds pr.1).map (·.name)).getD ("" : Str), pr.2) = _
          rw [har]
          rfl
        · have erl : (rowR pd.ds q.2).length = rxs.length := by unfold rowR; simp [hxl]
          rw [← erl, take_all] at pd5
          have w1 := (Own.nil (Pu.refl pu.sub)).lc hD2 pu5 fD5 hl5
          have w2 := w1.fix 0
          refine kt q.1 (.ref D2) H5 _ (rowR pd.ds q.2) w2.pu ⟨D2, ys, rfl, upd_same, pd_mono (fun _ _ => RStep.mono (w1.ext 0)) pd5⟩ (take_snoc (by rw [List.getElem?_map, hq]; rfl)) ?_
          rw [← List.map_take, List.map_map]
          exact nd_take knd hq
      · refine ⟨pu.same _ _ upd_same, ?_⟩
        have nDp : D ≠ p.er := fun z => by rw [z, upd_same] at hD; cases hD
        have hD2 : H2 D = none := by rw [upd_ne nDp] at hD; exact hD
        have pul := Pu.unlock h2 pu1.sub pu
        have f3 : F3 p.er = none := pu.none del_same (by rw [upd_same]; intro z; cases z)
        have w1 := (Own.nil q1).lc hD2 pul (o := .dK ys) (by rw [upd_ne nDp]; exact fD) (by rw [upd_ne nDp]; exact hl)
        have w2 := w1.fix 0
        generalize hG3 : upd (upd F3 p.er (.dK kr)) D (.dK ys) = G3 at w2
        have g3D : G3 D = some (.dK ys) := by rw [← hG3]; exact upd_same
        have q2 : Pu F H G3 (upd H3 p.er (.dK kr)) := w2.pu
        have sD : Same F3 (del G3 D) := fun x o e => by
          have n1 : x ≠ D := fun z => by subst z; rw [fD] at e; cases e
          have n2 : x ≠ p.er := fun z => by subst z; rw [f3] at e; cases e
          rw [del_ne n1, ← hG3, upd_ne n1, upd_ne n2]
          exact e
        have fD3 : Same F (del G3 D) := (fFL.trans pu.ff).trans sD
        have kd3 : KdP (Rp.lst RStep) (del G3 D) ((traceM bd pd z1).ru.map fun q => (q.1, rowR pd.ds q.2)) ys := by
          have e : ((traceM bd pd z1).ru.map fun q => (q.1, rowR pd.ds q.2)).take kr.length = (traceM bd pd z1).ru.map fun q => (q.1, rowR pd.ds q.2) := by
            rw [ekl, show (traceM bd pd z1).ru.length = ((traceM bd pd z1).ru.map fun q => (q.1, rowR pd.ds q.2)).length by simp, take_all]
          rw [e] at pd1
          exact pd1.mono sD
        have eyl : ys.length = (traceM bd pd z1).ru.length := by rw [kd3.len, List.length_map]
        clear kd2 pd1
        generalize hH4 : upd H3 p.er (.dK kr) = H4 at q2
        refine hN _ _ ?_
        clear hN
        refine stq [some (.ref ba), some pw, some (.str z1), some (.str z2), some (.ref p.x), some (.ref D), none, none, none] rfl ?_
        refine ⟨D, .dK ys, q2.sub _ _ g3D, trivial, fun od2 => ?_⟩
        have sL2 : Same (del G3 D) (upd H4 D (.frz od2 (.dK ys))) := Same.lock q2.sub
        refine ⟨_, rfl, D, od2, rfl, .inl ⟨ys, upd_same, fun D3 hD3 => ?_⟩⟩
        refine go_dc (F1 := del G3 D) walk_keys (RRow CT CR) (fun i => (tabM bd pd z1).take i) (by omega) sL2 hD3 (by simp) (fun F H pu => pu.same _ _ upd_same) (fun i x F4 H5 l4 H6 N4 hi pu4 fD4 hl4 hy kt => ?_) (fun F5 H5 zs pu5 fD5 hl5 pd5 => ?_)
        · obtain ⟨e1, kk, vv, hk, rfl⟩ := hy
          subst e1
          obtain ⟨q, hq, ek, _⟩ := pd_get kd3 hk
          have ek : kk = Sum.inr q.1 := ek
          subst ek
          obtain ⟨q', hq', eq⟩ := Option.map_eq_some_iff.mp (by rw [List.getElem?_map] at hq; exact hq)
          subst eq
          obtain ⟨vx, hvx, rl⟩ := kd3.get (n := q'.1) (b := rowR pd.ds q'.2) (look_at (q := (q'.1, rowR pd.ds q'.2)) (by rw [List.map_map]; exact knd) hq)
          obtain ⟨hix, hln⟩ := kix q' (List.mem_of_getElem? hq')
          obtain ⟨lr, rxs, rfl, hlr, prx⟩ := rl
          have sF4 := (fD3.trans pu4.ff).trans pu4.sub
          refine ⟨rfl, _, rfl, _, rfl, a, CP, pdx, _, _, hp.ev, sF4 _ _ hp.ob, PL.cl, PL.no _ (by decide), rfl, _, rfl, _, rfl, D, .ref lr, rfl, .inl ⟨ys, Sum.inr q'.1, .inr ⟨od2, pu4.same _ _ upd_same⟩, rfl, hvx.symm⟩, fun x dx2 hx hdx ne => ?_⟩
          refine ⟨F4, H6, x, dx2, tv, .ref lr, pd.ks, rowR pd.ds q'.2, rfl, ⟨pu4.sub, hx, hdx, ne, rfl⟩, (RTurns CT).mono (fD3.trans pu4.ff) hp.tu, ⟨lr, rxs, rfl, .inl (.inl (pu4.ff _ _ hlr)), pd_mono (fun _ _ => RStep.mono pu4.ff) prx⟩, fun c hc => ?_, by unfold rowR; simp; omega, fun F' H' pu' rr => ⟨rfl, ?_⟩⟩
          · obtain ⟨o, ho, rfl⟩ := List.mem_map.mp hc
            obtain ⟨pr, hpr, rfl⟩ := List.mem_map.mp ho
            obtain ⟨ar, har⟩ := hix pr hpr
            have := (hp.gd ar (List.mem_of_getElem? (arrAt_int har).2)).2.1
            show ∃ p, pd.ks.lookup (((arrAt pd.ds pr.1).map (·.name)).getD ("" : Str)) = some p
            rw [har]
            exact Option.isSome_iff_exists.mp this
          · refine kt q'.1 (.ref x) H' F' ⟨pd.ks, normal pd.ks (rowR pd.ds q'.2)⟩ pu' rr (take_snoc (by unfold tabM; rw [List.getElem?_map, hq']; rfl)) ?_
            unfold tabM
            rw [← List.map_take, List.map_map]
            exact nd_take knd hq'
        · refine ⟨pu5.same _ _ upd_same, ?_⟩
          have nD3 : D3 ≠ D := fun z => by rw [z, upd_same] at hD3; cases hD3
          have hD4 : H4 D3 = none := by rw [upd_ne nD3] at hD3; exact hD3
          have pul2 := Pu.unlock g3D q2.sub pu5
          have w3 := (Own.nil q2).lc hD4 pul2 (o := .dK zs) (by rw [upd_ne nD3]; exact fD5) (by rw [upd_ne nD3]; exact hl5)
          have w4 := w3.fix 0
          refine k _ _ (.ref D3) w4.pu ⟨D3, zs, rfl, upd_same, ?_⟩
          have e : (tabM bd pd z1).take ys.length = tabM bd pd z1 := by
            rw [eyl, show (traceM bd pd z1).ru.length = (tabM bd pd z1).length by unfold tabM; simp, take_all]
          rw [e] at pd5
          have f5 : F5 D = none := pu5.none del_same (by rw [upd_same]; intro z; cases z)
          refine pd5.mono fun x o e => ?_
          have n1 : x ≠ D3 := fun z => by subst z; rw [fD5] at e; cases e
          have n2 : x ≠ D := fun z => by subst z; rw [f5] at e; cases e
          rw [upd_ne n1, upd_ne n2]
          exact e
end
end TR

/-! part B13 -/
/-! Steps drawn; steps taken back. -/
namespace TR
open PySem PySem.Spec PyProof.Rows L2 G
section
variable {P : Program} {w : World} {K : PySem.W.Frag} {mg : Str → Option Value} {base : Heap}
abbrev s_w_taken_back : Stmt := top 84
abbrev N_w_taken_back : List Str := ["_law_steps_here", "_law_name", "_law_exponent"]
abbrev P_w_taken_back : List Str := ["_law_steps_here"]
theorem sc_w_taken_back : FnScope N_w_taken_back P_w_taken_back (defScope s_w_taken_back) := ⟨rfl, rfl, rfl, by decide +kernel, rfl, by decide +kernel, by decide +kernel⟩
theorem bn_w_taken_back : BindsNo "_law_taken_back" "_law_taken_back" s_w_taken_back P_w_taken_back := fun _ _ _ _ _ _ us hl => match us, hl with | [_], _ => rfl
def backS (ss : Steps) : Steps := ss.reverse.map fun c => (c.1, -c.2)
def sp_wback : Sp := fun vs H Q _ => ∃ (F : Hp) (u : V) (ss : Steps), vs = [u] ∧ Same F H ∧ RPairs.rel ss u F ∧ ss.length ≤ 10000 ∧ ∀ D xs F' H', Pu F H F' H' → H D = none → F' D = none → H' D = some (.lst xs) → Paired (fun d x => RStep.rel d x F') (backS ss) xs → Q (.ref D) H'
theorem pd_rev {α β : Type} {r : α → β → Prop} {xs : List α} {ys : List β} (h : Paired r xs ys) : Paired r xs.reverse ys.reverse := by
  induction h with
  | nil => exact .nil
  | cons a _ ih =>
    rw [List.reverse_cons, List.reverse_cons]
    exact pd_snoc ih a
theorem ok_wback (B : Bt mg) (F : FnF K mg "_law_taken_back" s_w_taken_back []) : Cal P w K mg base 1 "_law_taken_back" sp_wback := by
  refine F.cal sc_w_taken_back bn_w_taken_back (fun vs H Q E h => ?_) (fun f cdv A outer s H vs Q E hr h => ?_)
  · obtain ⟨_, _, _, rfl, _⟩ := h
    rfl
  · obtain ⟨F, u, ss, rfl, sF, ⟨a, xs, rfl, ha, pd⟩, hl, k⟩ := h
    refine ⟨_, (pss_one (ps_ret (pe_lc (own := [("_law_name", 1), ("_law_exponent", 2)]) rfl sc_w_taken_back.nd (k_il (pe_revL (pv 0)) (K := K)) (blkOk_by (N := N_w_taken_back) (sc := defScope s_w_taken_back) (by decide +kernel)) (fun _ _ _ _ _ => (k_tup (n := 2) rfl (pgs_cons (pg_name (i := 1) sc_w_taken_back.nd rfl (Or.inl rfl)) (pgs_cons (pg_name (i := 2) sc_w_taken_back.nd rfl (Or.inl rfl)) pgs_nil)) (K := K))) (fun _ _ _ _ _ => pts_nil) (fun _ _ _ _ _ => (pe_tup (pa_cons (pv 1) (pa_cons (pe_un un_neg (pv 2)) pa_nil))))))), ?_⟩
    have hxl : xs.length = ss.length := pd_len pd
    refine ⟨_, rfl, a, xs, rfl, SqL.of (sF _ _ ha), fun R hR => ⟨R, rfl, ⟨_, SqL.of upd_same⟩, fun D hD => ?_⟩⟩
    have w0 := (Own.nil (Pu.refl sF)).add (o := .lst xs.reverse) hR
    have s0 := Same.new (o := .lst xs.reverse) (sF.free hR)
    have pdr := pd_rev (pd_mono (fun _ _ => RStep.mono s0) pd)
    refine go_lc (F1 := upd F R (.lst xs.reverse)) (walk_list (xs := xs.reverse)) RStep (fun i => (backS ss).take i) (by rw [List.length_reverse]; omega) w0.sub hD (by simp) (fun F1 H1 pu => SqL.of (pu.sub _ _ (pu.ff _ _ upd_same))) (fun i y F1 H1 l H' N hi pu fD hl1 hy kt kf => ?_) (fun F1 H1 ys pu fD hl1 pd1 => ?_)
    · obtain ⟨e1, hy⟩ := hy
      subst e1
      obtain ⟨c, t, z, v, hc, rfl, ht, rfl, rfl⟩ := pair_at pdr hy
      refine ⟨t, _, rfl, SqT.of (pu.sub _ _ (pu.ff _ _ ht)), rfl, _, _, rfl, _, _, rfl, rfl, rfl, ?_⟩
      refine ⟨_, rfl, _, rfl, _, rfl, ?_⟩
      refine ⟨sz (n := 2) (by decide), fun q hq => ?_⟩
      exact kt (.ref q) _ _ (c.1, -c.2) ((Pu.refl pu.sub).add hq) ⟨q, _, _, rfl, upd_same, rfl, rfl⟩ (take_snoc (by unfold backS; rw [List.getElem?_map, hc]; rfl))
    · have el : xs.reverse.length = (backS ss).length := by unfold backS; rw [List.length_map, List.length_reverse, List.length_reverse, hxl]
      rw [el, take_all] at pd1
      have w1 := w0.lc hD pu fD hl1
      exact k D ys _ _ w1.pu ((w1.al 0 _ _ rfl).1) (w1.nf 0) (w1.at 0) pd1
end
end TR

/-! part B14 -/
/-! Steps drawn. -/
namespace TR
open PySem PySem.Spec PyProof.Rows L2 G
section
variable {P : Program} {w : World} {K : PySem.W.Frag} {mg : Str → Option Value} {base : Heap}
abbrev s_w_steps : Stmt := top 82
abbrev N_w_steps : List Str := ["_law_bag_here", "_law_kinds_here", "_law_most", "_law_far", "_law_found", "_law_k", "_law_name"]
abbrev P_w_steps : List Str := ["_law_bag_here", "_law_kinds_here", "_law_most", "_law_far"]
theorem sc_w_steps : FnScope N_w_steps P_w_steps (defScope s_w_steps) := ⟨rfl, rfl, rfl, by decide +kernel, rfl, by decide +kernel, by decide +kernel⟩
theorem bn_w_steps : BindsNo "_law_steps" "_law_steps" s_w_steps P_w_steps := fun _ _ _ _ _ _ us hl => match us, hl with | [_, _, _, _], _ => rfl
structure StepsP (ks : Kinds) (far : Int) (ss : Steps) : Prop where
  nm : ∀ c ∈ ss, c.1 ∈ ks.map (·.1)
  bd : ∀ c ∈ ss, -far ≤ c.2 ∧ c.2 ≤ far
theorem StepsP.snoc {ks : Kinds} {far : Int} {ss : Steps} {c : Str × Int} (h : StepsP ks far ss) (h1 : c.1 ∈ ks.map (·.1)) (h2 : -far ≤ c.2 ∧ c.2 ≤ far) : StepsP ks far (ss ++ [c]) :=
  ⟨fun q hq => by
    rcases List.mem_append.mp hq with y | y
    · exact h.nm q y
    · rw [List.mem_singleton.mp y]; exact h1, fun q hq => by
    rcases List.mem_append.mp hq with y | y
    · exact h.bd q y
    · rw [List.mem_singleton.mp y]; exact h2⟩
def sp_wsteps : Sp := fun vs H Q _ => ∃ (F : Hp) (b : Addr) (n : Nat) (kv : V) (ks : Kinds) (most far : Int), vs = [.ref b, kv, .int most, .int far] ∧ Same F H ∧ F b = none ∧ BagIn F b n H ∧ RPairs.rel ks kv F ∧ 0 < ks.length ∧ ks.length ≤ 8 ∧ 0 ≤ most ∧ most ≤ 100 ∧ 0 ≤ far ∧ far ≤ 10000 ∧ n < 10000000 ∧
  ∀ r F' H' ss, Pb b F H F' H' → BagIn F' b (n + 1 + 2 * most.toNat) H' → RPairs.rel ss r F' → (ss.length : Int) ≤ most → StepsP ks far ss → Q r H'
theorem ok_wsteps (B : Bt mg) (c_w_draw : Cal P w K mg base 1 "_law_draw" sp_draw) (F : FnF K mg "_law_steps" s_w_steps []) : Cal P w K mg base 3 "_law_steps" sp_wsteps := by
  refine F.cal sc_w_steps bn_w_steps (fun vs H Q E h => ?_) (fun f cdv A outer s H vs Q E hr h => ?_)
  · obtain ⟨_, _, _, _, _, _, _, rfl, _⟩ := h
    rfl
  · obtain ⟨F, b, n, kv, ks, most, far, rfl, sF, fb, g, ⟨ka, kxs, rfl, hka, pdk⟩, hk0, hk8, hm0, hm1, hf0, hf1, hn, kk⟩ := h
    generalize hkv : V.ref ka = kv at *
    refine ⟨_, (pss_cons (ps_set (i := 4) sc_w_steps.nd rfl (Or.inl rfl) (pe_lst pa_nil))
    (pss_cons (ps_for (passes_of rfl) rfl (pi_range1 (by rfl) B.range (pa_cons (pe_c c_w_draw hr (by decide) (pa_cons (pv 0) (pa_cons (pe_op op_addU (pv 2) pe_int) pa_nil)) passL) pa_nil)) (pg_name (i := 5) sc_w_steps.nd rfl (Or.inl rfl))
    (pss_cons (ps_set (i := 6) sc_w_steps.nd rfl (Or.inl rfl) (pe_ix (k_ix (K := K)) (pe_ix (k_ix (K := K)) (pv 1) (pe_c c_w_draw hr (by decide) (pa_cons (pv 0) (pa_cons (pe_callB (call_lenU (K := K)) (by rfl) B.len (by decide +kernel) (pa_cons (pv 1) pa_nil)) pa_nil)) passL) (fun _ _ => rfl)) pe_int (fun _ _ => rfl)))
    (pss_one (ps_expr (pe_bm PySem.F.plainAttrs_list PySem.F.slot_list_append PySem.F.type_list_append mt_append (pv 4) (pa_cons (pe_tup (pa_cons (pv 6) (pa_cons (pe_op op_sub (pe_c c_w_draw hr (by decide) (pa_cons (pv 0) (pa_cons (pe_op op_addU (pe_op op_mulU pe_int (pv 3)) pe_int) pa_nil)) passL) (pv 3)) pa_nil))) pa_nil))))))
    (pss_one (ps_ret (pv 4))))), ?_⟩
    have w0 : Bw b F H F H n [] := Bw.nil sF fb g
    have hkl : kxs.length = ks.length := pd_len pdk
    refine stp [some (.ref b), some kv, some (.int most), some (.int far), none, none, none] rfl fun N hN => ?_
    refine ⟨sz (n := 0) (by decide), fun D hD => hN _ _ ?_⟩
    clear hN
    have w1 := w0.new (o := .lst []) hD
    refine stp [some (.ref b), some kv, some (.int most), some (.int far), some (.ref D), none, none] rfl fun N hN => ?_
    refine ⟨_, rfl, _, rfl, .inl ⟨_, _, rfl, rfl, F, b, n, most + 1, rfl, w1.sub, w1.fb, w1.bg, by omega, by omega, by omega, fun m H2 m0 m1 q2 g2 => ?_⟩⟩
    have w2 := w1.call q2 g2
    refine ⟨m, rfl, by omega, by omega, ?_⟩
    refine for_it (walk_range (lo := 0) (n := m.toNat)) (fun i σ H' => ∃ (F' : Hp) (ss : Steps) (ys : List V) (x5 x6 : Option V), Bw b F H F' H' (n + 1 + 2 * i) [(D, .lst ys)] ∧ Paired (fun d x => RStep.rel d x F') ss ys ∧ ss.length = i ∧ StepsP ks far ss ∧ σ = [some (.ref b), some kv, some (.int most), some (.int far), some (.ref D), x5, x6])
      ⟨F, [], [], none, none, w2, .nil, rfl, ⟨fun c hc => by (cases hc), fun c hc => by (cases hc)⟩, rfl⟩ (fun _ _ _ _ _ => trivial) ?_ ?_
    · rintro i y σ H3 H4 hi ⟨F3, ss, ys, x5, x6, w3, pds, hsl, hsp, rfl⟩ ⟨e1, hy⟩
      subst e1
      refine stp [some (.ref b), some kv, some (.int most), some (.int far), some (.ref D), some y, x6] rfl fun N3 hN3 => ?_
      subst hkv
      have hk3 := w3.sub _ _ (w3.ff _ _ hka)
      refine ⟨_, rfl, _, rfl, _, rfl, .inl ⟨ka, kxs, rfl, .inl (SqL.of hk3), F3, b, _, (kxs.length : Nat), rfl, w3.sub, w3.fb, w3.bg, by omega, by omega, by omega, fun d H5 d0 d1 q5 g5 => ?_⟩⟩
      have w5 := w3.call q5 g5
      obtain ⟨kd, hkd⟩ : ∃ kd, ks[d.toNat]? = some kd := ⟨_, List.getElem?_eq_getElem (by omega)⟩
      obtain ⟨u, hu, t0, z1, z2, rfl, ht0, rfl, rfl⟩ := pd_get' pdk hkd
      refine .inl ⟨ka, kxs, d, _, rfl, rfl, SqL.of (w5.sub _ _ (w5.ff _ _ hka)), atI_int d0 hu, .inr (.inl ⟨t0, _, 0, _, rfl, rfl, SqT.of (w5.sub _ _ (w5.ff _ _ ht0)), atI_nat rfl, ?_⟩)⟩
      refine hN3 _ _ ?_
      clear hN3
      refine stq [some (.ref b), some (.ref ka), some (.int most), some (.int far), some (.ref D), some y, some (.str kd.1)] rfl ?_
      refine ⟨_, rfl, .inl ⟨rfl, _, SqL.of (w5.at 0)⟩, ?_⟩
      refine ⟨_, rfl, _, rfl, _, rfl, .inl ⟨_, _, rfl, rfl, .inl ⟨by decide, by decide⟩, .inl ⟨_, _, rfl, rfl, _, b, _, 2 * far + 1, rfl, w5.sub, w5.fb, w5.bg, by omega, by omega, by omega, fun e H6 e0 e1 q6 g6 => ?_⟩⟩⟩
      have w6 := w5.call q6 g6
      refine ⟨_, rfl, _, _, rfl, rfl, sz (n := 2) (by decide), fun q hq => ?_⟩
      have w7 := w6.add (o := .tup [.str kd.1, .int (e - far)]) hq
      have s7 := Same.new (o := .tup [.str kd.1, .int (e - far)]) (w6.sub.free hq)
      refine ⟨D, ys, _, rfl, rfl, w7.at 0, szl (by have := pd_len pds; omega), ?_⟩
      have w8 := w7.mut (o' := .lst (ys ++ [.ref q])) 0
      exact ⟨_, ss ++ [(kd.1, e - far)], ys ++ [.ref q], _, _, w8.le (by omega), pd_snoc (pd_mono (fun _ _ => RStep.mono ((q5.ff.trans q6.ff).trans s7)) pds) ⟨q, _, _, rfl, upd_same, rfl, rfl⟩, by rw [List.length_append, hsl]; rfl, hsp.snoc (show kd.1 ∈ ks.map (·.1) from List.mem_map.mpr ⟨kd, List.mem_of_getElem? hkd, rfl⟩) (by constructor <;> show _ ≤ _ <;> omega), rfl⟩
    · rintro σ H3 ⟨F3, ss, ys, x5, x6, w3, pds, hsl, hsp, rfl⟩
      refine hN _ _ ?_
      clear hN
      have w4 := w3.fix 0
      refine ⟨_, rfl, kk (.ref D) _ _ ss w4.pb (w4.le (by omega)).bg ⟨D, ys, rfl, upd_same, pd_mono (fun _ _ => RStep.mono (w3.ext 0)) pds⟩ (by omega) hsp⟩
end
end TR

/-! part P5 -/
/-! The plain law: a line of stations with one loop. -/
namespace TR
open PySem PySem.Spec PyProof.Rows L2 G
/-- an arrow of a line -/
structure LineA (stn : List Str) (rows : Steps) (k : Nat) (r : ArrD) : Prop where
  one : stn[k]? = some r.one
  other : stn[k + 1]? = some r.other
  nm : ∃ e, rows[k]? = some (r.name, e) ∧ NumOk r.num [(e, 0)]
  pos : Pos r.num.cs
structure LineP (pd : PlanD) (rows : Steps) (line : List ArrD) (loop : ArrD) (j at_ : Nat) (step per : Int) : Prop where
  ok : KOk pd.ks
  nd : pd.st.Nodup
  ln : pd.st.length = rows.length + 1
  le : rows.length ≤ 300
  rn : ∀ c ∈ rows, c.1 ∈ pd.ks.map (·.1)
  rb : ∀ c ∈ rows, c.2.natAbs < bigN
  ll : line.length = rows.length
  la : ∀ k r, line[k]? = some r → LineA pd.st rows k r
  ds : pd.ds = line.take j ++ loop :: line.drop j
  jl : j ≤ line.length
  b : pd.st[0]? = some pd.b
  e : pd.st[rows.length]? = some pd.e
  lo : pd.st[at_]? = some loop.one
  lo2 : loop.other = loop.one
  lp : pd.ks.lookup loop.name = some per
  lm : NumOk loop.num [(0, step)]
  ls : 0 ≤ step
  lb : step.natAbs < bigN
  lc : Pos loop.num.cs
section
variable {pd : PlanD} {rows : Steps} {line : List ArrD} {loop : ArrD} {j at_ : Nat} {step per : Int}
theorem LineP.mem (h : LineP pd rows line loop j at_ step per) {r : ArrD} (hr : r ∈ pd.ds) : r = loop ∨ ∃ k : Nat, line[k]? = some r := by
  rw [h.ds] at hr
  rcases List.mem_append.mp hr with q | q
  · exact .inr (List.getElem?_of_mem (List.mem_of_mem_take q))
  · rcases List.mem_cons.mp q with q | q
    · exact .inl q
    · exact .inr (List.getElem?_of_mem (List.mem_of_mem_drop q))
theorem LineP.at (h : LineP pd rows line loop j at_ step per) {r : ArrD} {k : Nat} (hr : line[k]? = some r) : ∃ i : Nat, pd.ds[i]? = some r := by
  have hm : r ∈ pd.ds := by
    rw [h.ds]
    have : r ∈ line.take j ++ line.drop j := by rw [List.take_append_drop]; exact List.mem_of_getElem? hr
    rcases List.mem_append.mp this with q | q
    · exact List.mem_append.mpr (.inl q)
    · exact List.mem_append.mpr (.inr (List.mem_cons_of_mem _ q))
  exact List.getElem?_of_mem hm
theorem LineP.atL (h : LineP pd rows line loop j at_ step per) : ∃ i : Nat, pd.ds[i]? = some loop := List.getElem?_of_mem (by rw [h.ds]; exact List.mem_append.mpr (.inr List.mem_cons_self))
theorem loop_mem {d : NumD} {s m : Int} (h : NumOk d [(0, s)]) (hs : 0 ≤ s) : memD m d = true ↔ if s = 0 then m = 0 else s ∣ m := by
  rw [h.mem]
  unfold memP
  simp only [List.any_cons, List.any_nil, Bool.or_false]
  split
  · rename_i c
    rw [decide_eq_true_eq]
  · unfold inCl
    rw [decide_eq_true_eq, Int.sub_zero]
    exact (Int.dvd_iff_emod_eq_zero ..).symm
/-- a way along the line -/
theorem LineP.way (h : LineP pd rows line loop j at_ step per) : ∀ (n i : Nat) (s z : Str), pd.st[i]? = some s → pd.st[i + n]? = some z → ∃ run, Path pd.ds s run z ∧ rowR pd.ds run = (rows.drop i).take n
  | 0, i, s, z, hs, hz => by
    rw [Nat.add_zero, hs] at hz
    cases hz
    exact ⟨[], .nil, by simp [rowR]⟩
  | n + 1, i, s, z, hs, hz => by
    have hl := (List.getElem?_eq_some_iff.mp hz).1
    have hl2 := h.ln
    have hl3 := h.ll
    have hk : i + n < line.length := by omega
    have la := h.la (i + n) line[i + n] (List.getElem?_eq_getElem hk)
    obtain ⟨run, p1, p2⟩ := h.way n i s _ hs la.one
    obtain ⟨x, hx⟩ := h.at (List.getElem?_eq_getElem hk)
    obtain ⟨e, he, ne⟩ := la.nm
    have ho := la.other
    rw [show i + n + 1 = i + (n + 1) by omega, hz] at ho
    have ho := Option.some.inj ho
    refine ⟨run ++ [((x : Int), e)], ?_, ?_⟩
    · rw [ho]
      exact p1.app (Path.one hx ((single_mem ne).mpr rfl))
    · rw [rowR_app, p2, rowR_one hx, List.take_add_one, List.getElem?_drop, he]
      rfl
theorem LineP.g (h : LineP pd rows line loop j at_ step per) : PlanG pd where
  ok := h.ok
  b := List.mem_of_getElem? h.b
  e := List.mem_of_getElem? h.e
  g := fun r hr => by
    rcases h.mem hr with rfl | ⟨k, hk⟩
    · rw [h.lo2]
      exact ⟨List.mem_of_getElem? h.lo, List.mem_of_getElem? h.lo⟩
    · have la := h.la k r hk
      exact ⟨List.mem_of_getElem? la.one, List.mem_of_getElem? la.other⟩
  nm := fun r hr => by
    rcases h.mem hr with rfl | ⟨k, hk⟩
    · exact List.mem_map.mpr ⟨_, mem_of_look h.lp, rfl⟩
    · obtain ⟨e, he, _⟩ := (h.la k r hk).nm
      exact h.rn _ (List.mem_of_getElem? he)
  pos := fun r hr => by
    rcases h.mem hr with rfl | ⟨k, hk⟩
    · exact h.lc
    · exact (h.la k r hk).pos
  nb := fun r hr => by
    rcases h.mem hr with rfl | ⟨k, hk⟩
    · refine numB_of h.lm fun p hp => ?_
      rw [List.mem_singleton.mp hp]
      exact ⟨big0, h.lb⟩
    · obtain ⟨e, he, ne⟩ := (h.la k r hk).nm
      refine numB_of ne fun p hp => ?_
      rw [List.mem_singleton.mp hp]
      exact ⟨h.rb _ (List.mem_of_getElem? he), big0⟩
  rch := by
    obtain ⟨run, p, _⟩ := h.way rows.length 0 _ _ h.b (by rw [Nat.zero_add]; exact h.e)
    refine p.rch fun r hr k hk => ?_
    have hp : Pos r.num.cs := by
      rcases h.mem hr with rfl | ⟨k, hk⟩
      · exact h.lc
      · exact (h.la k r hk).pos
    exact (neB_iff hp).mpr ⟨k, hk⟩
  ln := by have := h.ln; have := h.le; omega
/-- the row up to a station -/
def phi (ks : Kinds) (rows : Steps) : List Str → Nat → Str → Steps
  | [], _, _ => []
  | s :: r, k, z => if s = z then normal ks (rows.take k) else phi ks rows r (k + 1) z
theorem phi_at {ks : Kinds} {rows : Steps} {z : Str} : ∀ {stn : List Str} {k i : Nat}, stn.Nodup → stn[i]? = some z → phi ks rows stn k z = normal ks (rows.take (k + i))
  | [], _, _, _, h => by simp at h
  | s :: r, k, 0, _, h => by
    simp at h
    unfold phi
    rw [if_pos h]
    rfl
  | s :: r, k, i + 1, nd, h => by
    rw [List.nodup_cons] at nd
    have h : r[i]? = some z := by simpa using h
    have ne : ¬ s = z := fun e => nd.1 (by rw [e]; exact List.mem_of_getElem? h)
    show (if s = z then normal ks (rows.take k) else phi ks rows r (k + 1) z) = _
    rw [if_neg ne, phi_at nd.2 h]
    congr 2
    omega
theorem pot {ks : Kinds} {ds : List ArrD} {φ : Str → Steps} (hp : ∀ r ∈ ds, ∀ e, memD e r.num = true → nstep ks (φ r.one) (r.name, e) = φ r.other) {a z : Str} {run : RunL} (p : Path ds a run z) : (rowR ds run).foldl (nstep ks) (φ a) = φ z := by
  induction p with
  | nil => rfl
  | cons hi ho m _ ih =>
    subst ho
    rw [rowR_cons hi, List.foldl_cons, hp _ (List.mem_of_getElem? hi) _ m]
    exact ih
def dueM (ks : Kinds) (rows : Steps) (step per : Int) : Prop := normal ks rows = [] ∧ (step = 0 ∨ 0 < per ∧ step % per = 0)
instance {ks : Kinds} {rows : Steps} {step per : Int} : Decidable (dueM ks rows step per) := by unfold dueM; infer_instance
theorem LineP.pot (h : LineP pd rows line loop j at_ step per) (hs : step = 0 ∨ 0 < per ∧ step % per = 0) {a z : Str} {run : RunL} (p : Path pd.ds a run z) : (rowR pd.ds run).foldl (nstep pd.ks) (phi pd.ks rows pd.st 0 a) = phi pd.ks rows pd.st 0 z := by
  refine TR.pot (fun r hr e he => ?_) p
  rcases h.mem hr with rfl | ⟨k, hk⟩
  · rw [h.lo2, phi_at h.nd h.lo]
    have nn := normal_norm pd.ks (rows.take (0 + at_))
    have e0 : redE (perOf pd.ks r.name) e = redE (perOf pd.ks r.name) 0 := by
      rw [perOf_look h.lp, redE_dec, Int.sub_zero]
      rw [loop_mem h.lm h.ls] at he
      rcases hs with q | ⟨q1, q2⟩
      · rw [if_pos q] at he
        subst he
        split
        · exact Int.dvd_zero _
        · rfl
      · rw [if_pos q1]
        have hd : per ∣ step := Int.dvd_of_emod_eq_zero q2
        split at he
        · subst he; exact Int.dvd_zero _
        · exact Int.dvd_trans hd he
    rw [(nstep_eq nn).mpr e0, nstep_zero nn]
  · have la := h.la k r hk
    obtain ⟨e', he', ne⟩ := la.nm
    rw [phi_at h.nd la.one, phi_at h.nd la.other]
    have := (single_mem ne).mp he
    subst this
    rw [Nat.zero_add, Nat.zero_add, take_snoc he', normal_snoc]
theorem LineP.bad (h : LineP pd rows line loop j at_ step per) {n : Str} : badRunM (bk1 pd.ks n) pd n n = none ↔ dueM pd.ks rows step per := by
  rw [bad_iff h.g]
  have hz : at_ ≤ rows.length := by have := (List.getElem?_eq_some_iff.mp h.lo).1; have := h.ln; omega
  constructor
  · intro al
    obtain ⟨run, p1, p2⟩ := h.way rows.length 0 _ _ h.b (by rw [Nat.zero_add]; exact h.e)
    have h1 := al run p1
    rw [p2, List.drop_zero, List.take_length] at h1
    obtain ⟨ra, q1, q2⟩ := h.way at_ 0 _ _ h.b (by rw [Nat.zero_add]; exact h.lo)
    obtain ⟨rb, q3, q4⟩ := h.way (rows.length - at_) at_ _ _ h.lo (by rw [show at_ + (rows.length - at_) = rows.length by omega]; exact h.e)
    obtain ⟨x, hx⟩ := h.atL
    have ms : memD step loop.num = true := by
      rw [loop_mem h.lm h.ls]
      split
      · assumption
      · exact Int.dvd_refl _
    have pl := Path.one hx ms
    rw [h.lo2] at pl
    have h2 := al _ ((q1.app pl).app q3)
    rw [rowR_app, rowR_app, q2, rowR_one hx, q4, List.drop_zero] at h2
    have e3 : (rows.drop at_).take (rows.length - at_) = rows.drop at_ := by
      rw [show rows.length - at_ = (rows.drop at_).length by rw [List.length_drop], List.take_length]
    rw [e3] at h2
    have h3 : normal pd.ks (rows.take at_ ++ rows.drop at_) = [] := by rw [List.take_append_drop]; exact h1
    have h4 := normal_can (h2.trans h3.symm)
    rw [normal_snoc] at h4
    have nn := normal_norm pd.ks (rows.take at_)
    have h5 : nstep pd.ks (normal pd.ks (rows.take at_)) (loop.name, step) = nstep pd.ks (normal pd.ks (rows.take at_)) (loop.name, 0) := by rw [h4, nstep_zero nn]
    rw [nstep_eq nn, perOf_look h.lp, redE_dec, Int.sub_zero] at h5
    refine ⟨h1, ?_⟩
    split at h5
    · rename_i c
      exact .inr ⟨c, Int.emod_eq_zero_of_dvd h5⟩
    · exact .inl h5
  · rintro ⟨h1, h2⟩ run p
    have q := h.pot h2 p
    rw [phi_at h.nd h.b, phi_at h.nd h.e, Nat.zero_add, Nat.zero_add, List.take_length, List.take_zero, h1] at q
    exact q
/-- the table -/
theorem LineP.tab (h : LineP pd rows line loop j at_ step per) {n : Str} (hd : dueM pd.ks rows step per) : (∀ k z, pd.st[k]? = some z → ∃ run, (traceM (bk1 pd.ks n) pd n).ru.lookup z = some run ∧ normal pd.ks (rowR pd.ds run) = normal pd.ks (rows.take k)) ∧ (traceM (bk1 pd.ks n) pd n).ru.length = pd.st.length := by
  have g := h.g
  have t := one_told g n
  obtain ⟨hu, _⟩ := bad_none g (h.bad.mpr hd)
  have us : ∀ k z, pd.st[k]? = some z → z ∈ usefulL pd := fun k z hz => by
    have hk : k ≤ rows.length := by have := (List.getElem?_eq_some_iff.mp hz).1; have := h.ln; omega
    obtain ⟨r1, p1, _⟩ := h.way k 0 _ _ h.b (by rw [Nat.zero_add]; exact hz)
    obtain ⟨r2, p2, _⟩ := h.way (rows.length - k) k _ _ hz (by rw [show k + (rows.length - k) = rows.length by omega]; exact h.e)
    have hn : ∀ r ∈ pd.ds, ∀ k, memD k r.num = true → neB r.num = true := fun r hr k hk => (neB_iff (g.pos r hr)).mpr ⟨k, hk⟩
    exact (useful_iff g.b g.e g.g).mpr ⟨p1.rch hn, p2.rch hn⟩
  refine ⟨fun k z hz => ?_, ?_⟩
  · obtain ⟨s, hs⟩ := look_mem (t.all hu z (us k z hz))
    obtain ⟨run, h1, h2, _⟩ := t.tr.ent _ _ hs
    refine ⟨run, h1, ?_⟩
    have q := h.pot hd.2 h2
    rw [phi_at h.nd h.b, phi_at h.nd hz, Nat.zero_add, Nat.zero_add, List.take_zero] at q
    exact q
  · have l1 := ru_len g t.tr
    have e := congrArg List.length t.tr.kk
    rw [List.length_map, List.length_map] at e
    have l2 := List.Subset.length_le_of_nodup' (l' := (traceM (bk1 pd.ks n) pd n).st.map (·.1)) h.nd fun z hz => by
      obtain ⟨k, hk⟩ := List.getElem?_of_mem hz
      exact t.all hu z (us k z hk)
    rw [List.length_map] at l2
    omega
/-- what `table` asks -/
theorem tab_asks (g : PlanG pd) {n : Str} : ((traceM (bk1 pd.ks n) pd n).ru.map (·.1)).Nodup ∧ (traceM (bk1 pd.ks n) pd n).ru.length ≤ 1000 ∧ ∀ q ∈ (traceM (bk1 pd.ks n) pd n).ru, (∀ p ∈ q.2, ∃ a, arrAt pd.ds p.1 = some a) ∧ q.2.length ≤ 1000 := by
  have t := one_told g n
  have l1 := ru_len g t.tr
  have l2 := g.ln
  have nd : ((traceM (bk1 pd.ks n) pd n).ru.map (·.1)).Nodup := by rw [← t.tr.kk]; exact t.tr.nd
  refine ⟨nd, by omega, fun q hq => ?_⟩
  obtain ⟨i, hi⟩ := List.getElem?_of_mem hq
  have hl := look_at nd hi
  obtain ⟨s, hs⟩ := look_mem (l := (traceM (bk1 pd.ks n) pd n).st) (n := q.1) (by rw [t.tr.kk]; exact List.mem_map_of_mem hq)
  obtain ⟨run, h1, h2, _⟩ := t.tr.ent _ _ hs
  rw [hl] at h1
  cases h1
  have l3 := t.tr.ln _ _ hl
  refine ⟨fun p hp => ?_, by omega⟩
  have f := h2.fault 0
  obtain ⟨i, n, a, e1, e2⟩ := fault_all f (some p) (List.mem_map_of_mem hp)
  cases e1
  exact ⟨a, e2⟩
end
end TR

/-! part B15 -/
/-! The law. -/
namespace TR
open PySem PySem.Spec PyProof.Rows L2 G
section
variable {P : Program} {w : World} {K : PySem.W.Frag} {mg : Str → Option Value} {base : Heap} {CT CG CM CR CB CC CN CP EN ET EA ES : Addr}
theorem per_le {ks : Kinds} {m : Nat} (kp : KindP ks m) (z : Str) : 0 ≤ perOf ks z ∧ perOf ks z ≤ 6 := by
  unfold perOf
  cases h : ks.lookup z with
  | none => exact ⟨Int.le_refl 0, by decide⟩
  | some p =>
    obtain ⟨i, hi⟩ := List.getElem?_of_mem (mem_of_look h)
    obtain ⟨_, h1, _, h2⟩ := kp.2 i _ hi
    exact ⟨h1, h2⟩
theorem red_bd {p e : Int} {n : Nat} (hp : 0 ≤ p ∧ p ≤ 6) (he : e.natAbs ≤ n) : (redE p e).natAbs ≤ n + 6 := by
  unfold redE
  split
  · rename_i c
    have l1 := Int.emod_nonneg e (show p ≠ 0 by omega)
    have l2 := Int.emod_lt_of_pos e c
    omega
  · omega
theorem red_bd2 {p e : Int} {n : Nat} (hp : 0 ≤ p ∧ p ≤ 6) (he : e.natAbs ≤ n) (hn : 6 ≤ n) : (redE p e).natAbs ≤ n := by
  unfold redE
  split
  · rename_i c
    have l1 := Int.emod_nonneg e (show p ≠ 0 by omega)
    have l2 := Int.emod_lt_of_pos e c
    omega
  · exact he
theorem nput_bd {ks : Kinds} {t : Steps} {z : Str} {e : Int} {n : Nat} (hp : ∀ z, 0 ≤ perOf ks z ∧ perOf ks z ≤ 6) (h : ∀ c ∈ t, c.2.natAbs ≤ n) (he : e.natAbs ≤ n) (hn : 6 ≤ n) : ∀ c ∈ nput ks t z e, c.2.natAbs ≤ n := by
  unfold nput
  split
  · exact h
  · intro c hc
    rcases List.mem_append.mp hc with y | y
    · exact h c y
    · rw [List.mem_singleton.mp y]
      exact red_bd2 (hp z) he hn
theorem fold_bd {ks : Kinds} (hp : ∀ z, 0 ≤ perOf ks z ∧ perOf ks z ≤ 6) : ∀ (ds kept : Steps) (n : Nat), (∀ c ∈ ds, c.2.natAbs ≤ 9) → (∀ c ∈ kept, c.2.natAbs ≤ 9 * n + 6) → ∀ c ∈ ds.foldl (nstep ks) kept, c.2.natAbs ≤ 9 * (n + ds.length) + 6
  | [], kept, n, _, h, c, hc => by have := h c hc; simp; omega
  | d :: ds, kept, n, hd, h, c, hc => by
    have d9 := hd d List.mem_cons_self
    have step : ∀ c ∈ nstep ks kept d, c.2.natAbs ≤ 9 * (n + 1) + 6 := by
      have h' : ∀ c ∈ kept, c.2.natAbs ≤ 9 * (n + 1) + 6 := fun c hc => by have := h c hc; omega
      unfold nstep
      split
      · exact nput_bd hp h' (by omega) (by omega)
      · rename_i m hm
        split
        · have := h m (List.mem_of_getLast? hm)
          exact nput_bd hp (fun c hc => h' c (List.dropLast_subset _ hc)) (by omega) (by omega)
        · exact nput_bd hp h' (by omega) (by omega)
    have := fold_bd hp ds (nstep ks kept d) (n + 1) (fun c hc => hd c (List.mem_cons_of_mem _ hc)) step c hc
    rw [List.length_cons]
    omega
theorem normal_bd {ks : Kinds} {ds : Steps} (hp : ∀ z, 0 ≤ perOf ks z ∧ perOf ks z ≤ 6) (hd : ∀ c ∈ ds, c.2.natAbs ≤ 9) : ∀ c ∈ normal ks ds, c.2.natAbs ≤ 9 * ds.length + 6 := fun c hc => by
  have := fold_bd hp ds [] 0 hd (fun c hc => by cases hc) c hc
  omega
theorem ixN_int {n : Nat} {i : Int} (h0 : 0 ≤ i) (h : i.toNat < n) : ixN n i = some i.toNat := by
  unfold ixN
  rw [if_pos (by omega), if_pos (by omega)]
theorem pd_set {α β : Type} {r : α → β → Prop} : ∀ {xs : List α} {ys : List β} {i : Nat} {x : α} {y : β}, Paired r xs ys → r x y → Paired r (xs.set i x) (ys.set i y)
  | _, _, _, _, _, .nil, _ => .nil
  | _, _, 0, _, _, .cons _ t, h => .cons h t
  | _, _, _ + 1, _, _, .cons g t, h => .cons g (pd_set t h)
theorem pd_take {α β : Type} {r : α → β → Prop} : ∀ {xs : List α} {ys : List β} (n : Nat), Paired r xs ys → Paired r (xs.take n) (ys.take n)
  | _, _, 0, _ => .nil
  | _, _, n + 1, .nil => .nil
  | _, _, n + 1, .cons h t => .cons h (pd_take n t)
theorem look_map {β γ : Type} {f : β → γ} {z : Str} : ∀ {l : List (Str × β)}, (l.map fun q => (q.1, f q.2)).lookup z = (l.lookup z).map f
  | [] => rfl
  | (a, b) :: l => by
    rw [List.map_cons, List.lookup_cons, List.lookup_cons]
    cases z == a with
    | true => rfl
    | false => exact look_map
theorem steps_lay {ds : Steps} (h : ∀ d ∈ ds, nameOk d.1 = true) : (stepsD ds).canLay0 = true := by
  unfold stepsD
  show PyData.canLayAll0 _ = true
  exact lay_all fun d hd => step_lay (h d hd)
theorem eqv_stl (ds : Steps) : PyData.eqv (stepsD ds) (.list []) = ds.isEmpty := by
  cases ds with
  | nil => exact eqv_nil
  | cons _ _ => exact eqv_cons
def stS (k : Nat) : Str := ("s" : Str) ++ numS k
theorem stS_len : ∀ i : Fin 11, ("s" : Str).length + (numS i.val).length ≤ 20 := by decide +kernel
theorem stS_all : ∀ i : Fin 11, nameOk (stS i.val) = true ∧ (stS i.val).length ≤ 1000 := by decide +kernel
theorem stS_nd : ((List.range 11).map stS).Nodup := by decide +kernel
theorem stS_ok {m : Nat} (h : m ≤ 11) : (∀ z ∈ (List.range m).map stS, nameOk z = true ∧ z.length ≤ 1000) ∧ ((List.range m).map stS).Nodup ∧ True := by
  refine ⟨fun z hz => ?_, ?_, trivial⟩
  · obtain ⟨i, hi, rfl⟩ := List.mem_map.mp hz
    have := List.mem_range.mp hi
    exact stS_all ⟨i, by omega⟩
  · have e : (List.range m).map stS = ((List.range 11).map stS).take m := by
      rw [← List.map_take, List.take_range]
      congr 2
      omega
    rw [e]
    exact List.Nodup.sublist (List.take_sublist _ _) stS_nd
abbrev s_law : Stmt := top 85
abbrev N_law : List Str := ["_law_script", "_law_bag_here", "_law_kinds_here", "_law_turns", "_law_periods", "_law_out", "_law_back", "_law_at", "_law_spin", "_law_period", "_law_step", "_law_rows", "_law_stations", "_law_k", "_law_arrows", "_law_among", "_law_book", "_law_plan", "_law_due", "_law_found", "_law_steps_here", "_law_n", "_law_told"]
abbrev P_law : List Str := ["_law_script"]
theorem sc_law : FnScope N_law P_law (defScope s_law) := ⟨rfl, rfl, rfl, by decide +kernel, rfl, by decide +kernel, by decide +kernel⟩
theorem bn_law : BindsNo "law" "law" s_law P_law := fun _ _ _ _ _ _ us hl => match us, hl with | [_], _ => rfl
def sp_law (K : PySem.W.Frag) : Sp := fun vs H Q _ => ∃ (a : Addr) (ns : List Int), vs = [.ref a] ∧ SqL K H a (ns.map V.int) ∧ (∀ H', Same H H' → SqL K H' a (ns.map V.int)) ∧ ns.length ≤ 1000 ∧ ∀ H', Same H H' → Q (.bl true) H'
theorem ok_law (B : Bt mg) (g_Numbers : mg "Numbers" = some (.ref CN)) (c_w_bag : Cal P w K mg base 1 "_law_bag" (sp_bag K)) (c_w_draw : Cal P w K mg base 1 "_law_draw" sp_draw) (c_w_kinds : Cal P w K mg base 3 "_law_kinds" sp_kinds) (c_w_steps : Cal P w K mg base 3 "_law_steps" sp_wsteps)
    (c_w_normal : Cal P w K mg base 1 "_law_normal" sp_wnormal) (c_w_taken_back : Cal P w K mg base 1 "_law_taken_back" sp_wback)
    (RC : KlF K mg "Row" CR ["turns", "steps", "key"]) {df : Addr}
    (k_Turns : Mak P w K mg base 2 "Turns" CT (sp_Turns_init CT)) (k_Plan : Mak P w K mg base 3 "Plan" CP (sp_Plan_init K CT CN CP EN ET EA ES)) (k_Numbers : Mak P w K mg base 3 "Numbers" CN (sp_Numbers_init CN)) (st_single : Sta P w K mg base 5 CN "single" (sp_single CN))
    (k2_Book : MakD P w K mg base 7 "Book" CB [.ref df] (sp_Book_init0 CB CM CG CT df)) (c_bad_run : Cal P w K mg base 8 "bad_run" (sp_bad_run CM CG CT CN CP CB CC)) (c_sure : Cal P w K mg base 9 "sure" (sp_sure CM CG CT CN CP CB)) (c_table : Cal P w K mg base 9 "table" (sp_table CM CG CT CN CP CB CR))
    (m_is_run : Met P w K mg base 5 CP "is_run" (sp_is_run K CT CN CP)) (k_Row : Mak P w K mg base 5 "Row" CR (sp_Row_init K CT CR)) (p_still : Prp P w K mg base 7 CT "still" (sp_still CT CR)) (m_Row_eq : Met P w K mg base 1 CR "__eq__" (sp_Row_eq CT CR))
    {fL : Addr} {fdL : FuncData} (F : FunD K "law" "law" (defArgs s_law) (defBody s_law) (defScope s_law) [] [] fL fdL) : FnOk P w K mg base (L2.CX P w) 11 fL fdL P_law (sp_law K) := by
  refine F.ok sc_law (fun vs H Q E h => ?_) (fun cdv A outer s H vs Q E hr h => ?_)
  · obtain ⟨_, _, rfl, _⟩ := h
    rfl
  · obtain ⟨a, ns, rfl, hl, hl', hn, k⟩ := h
    refine ⟨_, (pss_cons (ps_set (i := 1) sc_law.nd rfl (Or.inl rfl) (pe_c c_w_bag hr (by decide) (pa_cons (pv 0) pa_nil) passL))
    (pss_cons (ps_set (i := 2) sc_law.nd rfl (Or.inl rfl) (pe_c c_w_kinds hr (by decide) (pa_cons (pv 1) (pa_cons (pe_op op_addU pe_int (pe_c c_w_draw hr (by decide) (pa_cons (pv 1) (pa_cons pe_int pa_nil)) passL)) pa_nil)) passL))
    (pss_cons (ps_set (i := 3) sc_law.nd rfl (Or.inl rfl) (pe_k k_Turns hr (by decide) (pa_cons (pv 2) pa_nil) passL))
    (pss_cons (ps_set (i := 4) sc_law.nd rfl (Or.inl rfl) (pe_callTy (k_dictP (K := K)) (by rfl) B.dict (by decide +kernel) (pa_cons (pv 2) pa_nil)))
    (pss_cons (ps_set (i := 5) sc_law.nd rfl (Or.inl rfl) (pe_c c_w_normal hr (by decide) (pa_cons (pv 2) (pa_cons (pe_c c_w_steps hr (by decide) (pa_cons (pv 1) (pa_cons (pv 2) (pa_cons pe_int (pa_cons pe_int pa_nil)))) passL) pa_nil)) passL))
    (pss_cons (ps_set (i := 6) sc_law.nd rfl (Or.inl rfl) (pe_c c_w_taken_back hr (by decide) (pa_cons (pv 5) pa_nil) passL))
    (pss_cons (ps_if (PW.pt (pw_and (pt_cmpR (op_neU hr (K := K)) (pv 6) (pe_lst pa_nil) (nomark _)) (pw_and1 (pt_cmpR (op_eqU hr (K := K)) (pe_c c_w_draw hr (by decide) (pa_cons (pv 1) (pa_cons pe_int pa_nil)) passL) pe_int (nomark _))))) (pss_cons (ps_set (i := 7) sc_law.nd rfl (Or.inl rfl) (pe_c c_w_draw hr (by decide) (pa_cons (pv 1) (pa_cons (pe_callB (call_lenU (K := K)) (by rfl) B.len (by decide +kernel) (pa_cons (pv 6) pa_nil)) pa_nil)) passL))
    (pss_one (ps_asg (pe_tup (pa_cons (pe_ix (k_ix (K := K)) (pe_ix (k_ix (K := K)) (pv 6) (pv 7) (fun _ _ => rfl)) pe_int (fun _ _ => rfl)) (pa_cons (pe_op op_addU (pe_ix (k_ix (K := K)) (pe_ix (k_ix (K := K)) (pv 6) (pv 7) (fun _ _ => rfl)) pe_int (fun _ _ => rfl)) (pe_ix (k_ix (K := K)) (pe_lst (pa_cons pe_int (pa_cons (pe_un un_neg pe_int) (pa_cons (pe_dget (hu_of hr) (pv 4) (pe_ix (k_ix (K := K)) (pe_ix (k_ix (K := K)) (pv 6) (pv 7) (fun _ _ => rfl)) pe_int (fun _ _ => rfl)) (fun _ _ => rfl)) pa_nil)))) (pe_c c_w_draw hr (by decide) (pa_cons (pv 1) (pa_cons pe_int pa_nil)) passL) (fun _ _ => rfl))) pa_nil))) (pg_sub (pv 6) (pv 7) set_list)))) pss_nil)
    (pss_cons (ps_asg (pe_ix (k_ix (K := K)) (pv 2) (pe_c c_w_draw hr (by decide) (pa_cons (pv 1) (pa_cons (pe_callB (call_lenU (K := K)) (by rfl) B.len (by decide +kernel) (pa_cons (pv 2) pa_nil)) pa_nil)) passL) (fun _ _ => rfl)) (k_tup (n := 2) rfl (pgs_cons (pg_name (i := 8) sc_law.nd rfl (Or.inl rfl)) (pgs_cons (pg_name (i := 9) sc_law.nd rfl (Or.inl rfl)) pgs_nil)) (K := K)))
    (pss_cons (ps_set (i := 10) sc_law.nd rfl (Or.inl rfl) (pe_ix (k_ix (K := K)) (pe_lst (pa_cons pe_int (pa_cons (pv 9) (pa_cons (pe_op op_mulU pe_int (pv 9)) (pa_cons pe_int pa_nil))))) (pe_c c_w_draw hr (by decide) (pa_cons (pv 1) (pa_cons pe_int pa_nil)) passL) (fun _ _ => rfl)))
    (pss_cons (ps_set (i := 11) sc_law.nd rfl (Or.inl rfl) (pe_op op_addU (pv 5) (pv 6)))
    (pss_cons (ps_setLc (i := 12) (own := [("_law_k", 13)]) rfl sc_law.nd rfl rfl (sw_true rfl rfl rfl (by decide +kernel)) (pi_range1 (by rfl) B.range (pa_cons (pe_op op_addU (pe_callB (call_lenU (K := K)) (by rfl) B.len (by decide +kernel) (pa_cons (pv 11) pa_nil)) pe_int) pa_nil)) (blkOk_by (N := N_law) (sc := defScope s_law) (by decide +kernel)) (fun _ _ _ _ _ => (pg_name (i := 13) sc_law.nd rfl (Or.inl rfl))) (fun _ _ _ _ _ => pts_nil) (fun _ _ _ _ _ => (pe_op op_addU pe_str (pe_callTy call_str_int (by rfl) B.str (by decide +kernel) (pa_cons (pv 13) pa_nil)))))
    (pss_cons (ps_set (i := 14) sc_law.nd rfl (Or.inr rfl) (pe_lst pa_nil))
    (pss_cons (ps_for (passes_of rfl) rfl (pi_range1 (by rfl) B.range (pa_cons (pe_callB (call_lenU (K := K)) (by rfl) B.len (by decide +kernel) (pa_cons (pv 11) pa_nil)) pa_nil)) (pg_name (i := 13) sc_law.nd rfl (Or.inl rfl))
    (pss_one (ps_expr (pe_bm PySem.F.plainAttrs_list PySem.F.slot_list_append PySem.F.type_list_append mt_append (pv 14) (pa_cons (pe_tup (pa_cons (pe_ix (k_ix (K := K)) (pv 12) (pv 13) (fun _ _ => rfl)) (pa_cons (pe_ix (k_ix (K := K)) (pe_ix (k_ix (K := K)) (pv 11) (pv 13) (fun _ _ => rfl)) pe_int (fun _ _ => rfl)) (pa_cons (pe_st st_single hr (by decide) (pe_gr g_Numbers) (pa_cons (pe_ix (k_ix (K := K)) (pe_ix (k_ix (K := K)) (pv 11) (pv 13) (fun _ _ => rfl)) pe_int (fun _ _ => rfl)) pa_nil) passL) (pa_cons (pe_ix (k_ix (K := K)) (pv 12) (pe_op op_addU (pv 13) pe_int) (fun _ _ => rfl)) pa_nil))))) pa_nil)))))
    (pss_cons (ps_set (i := 15) sc_law.nd rfl (Or.inl rfl) (pe_ifExp (pt_cmpR op_gt (pv 10) pe_int (nomark _)) (pe_k k_Numbers hr (by decide) (pa_cons (pe_lst (pa_cons (pe_tup (pa_cons pe_int (pa_cons (pv 10) pa_nil))) pa_nil)) pa_nil) passL) (pe_st st_single hr (by decide) (pe_gr g_Numbers) (pa_cons pe_int pa_nil) passL)))
    (pss_cons (ps_set (i := 7) sc_law.nd rfl (Or.inl rfl) (pe_c c_w_draw hr (by decide) (pa_cons (pv 1) (pa_cons (pe_callB (call_lenU (K := K)) (by rfl) B.len (by decide +kernel) (pa_cons (pv 12) pa_nil)) pa_nil)) passL))
    (pss_cons (ps_expr (pe_bm PySem.F.plainAttrs_list PySem.F.slot_list_insert PySem.F.type_list_insert mt_insert (pv 14) (pa_cons (pe_c c_w_draw hr (by decide) (pa_cons (pv 1) (pa_cons (pe_op op_addU (pe_callB (call_lenU (K := K)) (by rfl) B.len (by decide +kernel) (pa_cons (pv 14) pa_nil)) pe_int) pa_nil)) passL) (pa_cons (pe_tup (pa_cons (pe_ix (k_ix (K := K)) (pv 12) (pv 7) (fun _ _ => rfl)) (pa_cons (pv 8) (pa_cons (pv 15) (pa_cons (pe_ix (k_ix (K := K)) (pv 12) (pv 7) (fun _ _ => rfl)) pa_nil))))) pa_nil))))
    (pss_cons (ps_set (i := 16) sc_law.nd rfl (Or.inl rfl) (pe_kD k2_Book hr (by decide) (pa_cons (pv 3) (pa_cons (pe_lst (pa_cons pe_str pa_nil)) pa_nil)) passL))
    (pss_cons (ps_set (i := 17) sc_law.nd rfl (Or.inl rfl) (pe_k k_Plan hr (by decide) (pa_cons (pv 3) (pa_cons (pv 12) (pa_cons (pv 14) (pa_cons (pe_ix (k_ix (K := K)) (pv 12) pe_int (fun _ _ => rfl)) (pa_cons (pe_ix (k_ix (K := K)) (pv 12) (pe_un un_neg pe_int) (fun _ _ => rfl)) pa_nil))))) passL))
    (pss_cons (ps_set (i := 18) sc_law.nd rfl (Or.inl rfl) (pe_and (pe_cmpR (op_eqU hr (K := K)) (pe_c c_w_normal hr (by decide) (pa_cons (pv 2) (pa_cons (pv 11) pa_nil)) passL) (pe_lst pa_nil) (nomark _)) (pe_one (pe_or (pe_cmpR (op_eqU hr (K := K)) (pv 10) pe_int (nomark _)) (pe_one (pe_and (pe_cmpR op_gt (pv 9) pe_int (nomark _)) (pe_one (pe_cmpR (op_eqU hr (K := K)) (pe_op op_mod (pe_callTy call_int1 (by rfl) B.int (by decide +kernel) (pa_cons (pv 10) pa_nil)) (pv 9)) pe_int (nomark _)))))))))
    (pss_cons (ps_set (i := 19) sc_law.nd rfl (Or.inl rfl) (pe_c c_bad_run hr (by decide) (pa_cons (pv 16) (pa_cons (pv 17) (pa_cons pe_str (pa_cons pe_str pa_nil)))) passL))
    (pss_cons (ps_if (PW.pt (pw_or (pt_cmpR (op_neU hr (K := K)) (pe_c c_sure hr (by decide) (pa_cons (pv 16) (pa_cons (pv 17) (pa_cons pe_str (pa_cons pe_str pa_nil)))) passL) (pv 18) (nomark _)) (pw_or1 (pt_cmpR (op_neU hr (K := K)) (pe_cmpR op_isN (pv 19) pe_non (nomark _)) (pv 18) (nomark _))))) (pss_one (ps_ret pe_bl)) pss_nil)
    (pss_cons (ps_if (pt_not (pt_truth (pv 18) (by intro _; rfl))) (pss_cons (ps_setLc (i := 20) (own := [("_law_k", 13), ("_law_n", 21)]) rfl sc_law.nd rfl rfl (sw_true rfl rfl rfl (by decide +kernel)) (k_il (pv 19) (K := K)) (blkOk_by (N := N_law) (sc := defScope s_law) (by decide +kernel)) (fun _ _ _ _ _ => (k_tup (n := 2) rfl (pgs_cons (pg_name (i := 13) sc_law.nd rfl (Or.inl rfl)) (pgs_cons (pg_name (i := 21) sc_law.nd rfl (Or.inl rfl)) pgs_nil)) (K := K))) (fun _ _ _ _ _ => pts_nil) (fun _ _ _ _ _ => (pe_tup (pa_cons (pe_ix (k_ix (K := K)) (pe_ix (k_ix (K := K)) (pv 14) (pv 13) (fun _ _ => rfl)) pe_int (fun _ _ => rfl)) (pa_cons (pv 21) pa_nil)))))
    (pss_one (ps_ret (pe_and (pe_m m_is_run hr (by decide) (pv 17) (pa_cons (pv 19) pa_nil) passL) (pe_and (pe_cmpR (op_neU hr (K := K)) (pe_c c_w_normal hr (by decide) (pa_cons (pv 2) (pa_cons (pv 20) pa_nil)) passL) (pe_lst pa_nil) (nomark _)) (pe_one (pe_cmpR op_isN (pe_c c_table hr (by decide) (pa_cons (pv 16) (pa_cons (pv 17) (pa_cons pe_str (pa_cons pe_str pa_nil)))) passL) pe_non (nomark _)))))))) pss_nil)
    (pss_cons (ps_set (i := 22) sc_law.nd rfl (Or.inl rfl) (pe_c c_table hr (by decide) (pa_cons (pv 16) (pa_cons (pv 17) (pa_cons pe_str (pa_cons pe_str pa_nil)))) passL))
    (pss_cons (ps_for (passes_of rfl) rfl (pi_range1 (by rfl) B.range (pa_cons (pe_callB (call_lenU (K := K)) (by rfl) B.len (by decide +kernel) (pa_cons (pv 12) pa_nil)) pa_nil)) (pg_name (i := 13) sc_law.nd rfl (Or.inl rfl))
    (pss_one (ps_if (pt_cmpR (op_neU hr (K := K)) (pe_callTy (k_list (K := K)) (by rfl) B.list (by decide +kernel) (pa_cons (k_fld (pe_dget (hu_of hr) (pv 22) (pe_ix (k_ix (K := K)) (pv 12) (pv 13) (fun _ _ => rfl)) (fun _ _ => rfl)) (K := K)) pa_nil)) (pe_c c_w_normal hr (by decide) (pa_cons (pv 2) (pa_cons (pe_slice (k_sl_list (K := K)) (pv 11) po_none (po_some (pv 13))) pa_nil)) passL) (nomark _)) (pss_one (ps_ret pe_bl)) pss_nil)))
    (pss_one (ps_ret (pe_and (pe_cmpR (op_eqU hr (K := K)) (pe_callB (call_lenU (K := K)) (by rfl) B.len (by decide +kernel) (pa_cons (pv 22) pa_nil)) (pe_callB (call_lenU (K := K)) (by rfl) B.len (by decide +kernel) (pa_cons (pv 12) pa_nil)) (nomark _)) (pe_one (pe_cmpR (op_eqO m_Row_eq hr (by decide) passL) (pe_k k_Row hr (by decide) (pa_cons (pv 3) (pa_cons (pv 11) pa_nil)) passL) (pe_p p_still hr (by decide) (pv 3) passL) (nomark _)))))))))))))))))))))))))))))), ?_⟩
    refine stp [some (.ref a), none, none, none, none, none, none, none, none, none, none, none, none, none, none, none, none, none, none, none, none, none, none] rfl fun N hN => ?_
    refine ⟨_, rfl, H, a, ns, rfl, Same.refl _, hl, hl', hn, fun b F1 H1 pu0 hb0 hb g => hN _ _ ?_⟩
    clear hN
    have w1 : Bw b F1 H1 F1 H1 0 [] := Bw.nil pu0.sub hb g
    -- the kinds
    refine stp [some (.ref a), some (.ref b), none, none, none, none, none, none, none, none, none, none, none, none, none, none, none, none, none, none, none, none, none] rfl fun N hN => ?_
    refine ⟨_, rfl, _, rfl, F1, b, 0, 2, rfl, w1.sub, w1.fb, w1.bg, by decide, by decide, by decide, fun d1 H2 d10 d11 q2 g2 => ?_⟩
    have w2 := w1.call q2 g2
    refine .inl ⟨_, _, rfl, rfl, ?_⟩
    obtain ⟨m1, rfl⟩ : ∃ m : Nat, d1 = (m : Int) := ⟨d1.toNat, by omega⟩
    refine ⟨F1, b, 1, 2 + m1, by rw [show (2 : Int) + (m1 : Int) = ((2 + m1 : Nat) : Int) by omega]; rfl, w2.sub, w2.fb, w2.bg, by omega, by omega, fun kv F3 H3 ks q3 g3 rk kp => hN _ _ ?_⟩
    clear hN
    have w3 := (w2.call q3 g3).le (m := 100) (by omega)
    have ok : KOk ks := kp.ok (by omega) (by omega)
    have kl : ks.length = 2 + m1 := kp.1
    -- the turns
    refine stp [some (.ref a), some (.ref b), some (kv), none, none, none, none, none, none, none, none, none, none, none, none, none, none, none, none, none, none, none, none] rfl fun N hN => ?_
    refine ⟨_, rfl, fun x dx hx hdx ne => ?_⟩
    refine ⟨F3, H3, x, dx, kv, ks, rfl, ⟨w3.sub, hx, hdx, ne, rfl⟩, rk, ok, fun F4 H4 pu4 rt => ⟨rfl, hN _ _ ?_⟩⟩
    clear hN
    have w4 := w3.step pu4
    have rk4 := RPairs.mono pu4.ff rk
    obtain ⟨ka, kps, rfl, hka, kpd⟩ := id rk4
    have kln : kps.length = ks.length := pd_len kpd
    -- the periods
    refine stp [some (.ref a), some (.ref b), some (.ref ka), some (.ref x), none, none, none, none, none, none, none, none, none, none, none, none, none, none, none, none, none, none, none] rfl fun N hN => ?_
    obtain ⟨pp, rfl, ppd⟩ := pairs_ps kpd
    refine ⟨_, rfl, ka, pp, kper ks, rfl, SqL.of (w4.sub _ _ hka), pd_mono (fun _ _ h => SqT.of (w4.sub _ _ h)) ppd, fun dd hdd => hN _ _ ?_⟩
    clear hN
    have em : mergeK [] (kper ks) = kper ks := merge_kper ks [] (by simpa using ok.nd)
    rw [em]
    obtain ⟨F5, w5, s5, h5⟩ := w4.add' (o := .dK (kper ks)) hdd
    have rk5 := RPairs.mono s5 rk4
    have rt5 := (RTurns CT).mono s5 rt
    -- out
    refine stp [some (.ref a), some (.ref b), some (.ref ka), some (.ref x), some (.ref dd), none, none, none, none, none, none, none, none, none, none, none, none, none, none, none, none, none, none] rfl fun N hN => ?_
    refine ⟨_, rfl, _, rfl, _, rfl, F5, b, 100, .ref ka, ks, 5, 9, rfl, w5.sub, w5.fb, w5.bg, rk5, by omega, by omega, by decide, by decide, by decide, by decide, by decide, fun r F6 H6 ss0 q6 g6 rs0 sl0 sp0 => ?_⟩
    have w6 := w5.call q6 g6
    have nm0 : ∀ d ∈ ss0, ∃ p, ks.lookup d.1 = some p := fun d hd => look_mem (sp0.nm d hd)
    have nk : ∀ z ∈ ks.map (·.1), nameOk z = true := fun z hz => by
      obtain ⟨p, hp, rfl⟩ := List.mem_map.mp hz
      exact (ok.nm p hp).1
    refine ⟨F6, .ref ka, r, ks, ss0, rfl, w6.sub, RPairs.mono q6.ff rk5, rs0, ok, nm0, fun d hd => nk _ (sp0.nm d hd), by omega, fun ro F7 H7 pu7 rout => hN _ _ ?_⟩
    clear hN
    have w7 := (w6.step pu7).le (m := 200) (by show 100 + 1 + 2 * (5 : Int).toNat ≤ 200; decide)
    generalize hout : normal ks ss0 = out at rout
    have outN : ∀ c ∈ out, c.1 ∈ ks.map (·.1) := fun c hc => by
      rw [← hout] at hc
      obtain ⟨d0, hd0, e⟩ := normal_sub hc
      rw [e]
      exact sp0.nm d0 hd0
    have outL : out.length ≤ 5 := by rw [← hout]; exact Nat.le_trans normal_len (by omega)
    have per6 : ∀ z, 0 ≤ perOf ks z ∧ perOf ks z ≤ 6 := fun z => per_le kp z
    have outB : ∀ c ∈ out, c.2.natAbs ≤ 51 := fun c hc => by
      rw [← hout] at hc
      have := normal_bd per6 (fun c hc => by have := sp0.bd c hc; omega) c hc
      omega
    clear hout
    -- back
    refine stp [some (.ref a), some (.ref b), some (.ref ka), some (.ref x), some (.ref dd), some (ro), none, none, none, none, none, none, none, none, none, none, none, none, none, none, none, none, none] rfl fun N hN => ?_
    refine ⟨_, rfl, F7, ro, out, rfl, w7.sub, rout, by omega, fun D0 xs0 F8 H8 pu8 hD0 fD0 hD0' pdb => hN _ _ ?_⟩
    clear hN
    have w8 := w7.lc hD0 pu8 fD0 hD0'
    have rk8 := RPairs.mono (q6.ff.trans (pu7.ff.trans pu8.ff)) rk5
    have rt8 := (RTurns CT).mono (q6.ff.trans (pu7.ff.trans pu8.ff)) rt5
    have rout8 := RPairs.mono pu8.ff rout
    have h8 := (q6.ff.trans (pu7.ff.trans pu8.ff)) _ _ h5
    clear rk4 rk5 rt rt5 rk rout hka kpd ppd
    have bkL : (backS out).length = out.length := by unfold backS; rw [List.length_map, List.length_reverse]
    have bkN : ∀ c ∈ backS out, c.1 ∈ ks.map (·.1) ∧ c.2.natAbs ≤ 51 := fun c hc => by
      obtain ⟨c0, h0, rfl⟩ := List.mem_map.mp hc
      have := List.mem_reverse.mp h0
      exact ⟨outN c0 this, by have := outB c0 this; show (-c0.2).natAbs ≤ 51; omega⟩
    have hx0l : xs0.length = out.length := by rw [pd_len pdb, bkL]
    refine stp [some (.ref a), some (.ref b), some (.ref ka), some (.ref x), some (.ref dd), some (ro), some (.ref D0), none, none, none, none, none, none, none, none, none, none, none, none, none, none, none, none] rfl fun N hN => ?_
    have jn : ∀ (F9 H9 : Hp) (xs : List V) (back : Steps) (x7 : Option V), Bw b F1 H1 F9 H9 210 [(D0, .lst xs)] → Same F8 F9 → Paired (fun d x => RStep.rel d x F9) back xs → back.length = out.length → (∀ c ∈ back, c.1 ∈ ks.map (·.1) ∧ c.2.natAbs ≤ 57) → N [some (.ref a), some (.ref b), some (.ref ka), some (.ref x), some (.ref dd), some (ro), some (.ref D0), x7, none, none, none, none, none, none, none, none, none, none, none, none, none, none, none] H9 := by
      intro F9 H9 xs back x7 w9 s9 pdb9 bl bn
      refine hN _ _ ?_
      clear hN
      have nk' := nk
      have rk9 := RPairs.mono s9 rk8
      have rt9 := (RTurns CT).mono s9 rt8
      have rout9 := RPairs.mono s9 rout8
      obtain ⟨ka', kps', eka, hka, kpd⟩ := id rk9
      cases eka
      have kln' : kps'.length = ks.length := pd_len kpd
      -- spin, period
      refine stp [some (.ref a), some (.ref b), some (.ref ka), some (.ref x), some (.ref dd), some (ro), some (.ref D0), x7, none, none, none, none, none, none, none, none, none, none, none, none, none, none, none] rfl fun N hN => ?_
      refine ⟨_, rfl, _, rfl, _, rfl, .inl ⟨ka, _, rfl, .inl (SqL.of (w9.sub _ _ hka)), ?_⟩⟩
      refine ⟨F9, b, 210, (kps'.length : Nat), rfl, w9.sub, w9.fb, w9.bg, by omega, by omega, by omega, fun d5 H10 d50 d51 q10 g10 => ?_⟩
      have w10 := w9.call q10 g10
      have hi5 : d5.toNat < kps'.length := by omega
      obtain ⟨kd, hkd, tk, u1, u2, hyk, htk, e1, e2⟩ := pd_get kpd (List.getElem?_eq_getElem hi5)
      have e1 : u1 = .str kd.1 := e1
      have e2 : u2 = .int kd.2 := e2
      subst e1 e2
      have hix5 : kps'[d5.toNat]? = some (.ref tk) := by rw [List.getElem?_eq_getElem hi5, hyk]
      obtain ⟨spin, per⟩ := kd
      refine .inl ⟨ka, _, d5, _, rfl, rfl, SqL.of (w10.sub _ _ hka), atI_int d50 hix5, ?_⟩
      refine ⟨tk, _, rfl, SqT.of (w10.sub _ _ htk), rfl, _, _, rfl, _, _, rfl, rfl, hN _ _ ?_⟩
      clear hN
      have hlp : ks.lookup spin = some per := look_at ok.nd hkd
      obtain ⟨per0, per1⟩ : 0 ≤ per ∧ per ≤ 6 := by have := per6 spin; unfold perOf at this; rw [hlp] at this; exact this
      -- step
      refine stp [some (.ref a), some (.ref b), some (.ref ka), some (.ref x), some (.ref dd), some (ro), some (.ref D0), x7, some (.str spin), some (.int per), none, none, none, none, none, none, none, none, none, none, none, none, none] rfl fun N hN => ?_
      refine ⟨_, rfl, _, rfl, .inl ⟨_, _, rfl, rfl, .inl ⟨by decide, by decide⟩, sz (n := 4) (by decide), fun L1 hL1 => ?_⟩⟩
      have w11 := w10.new (o := .lst [.int 0, .int per, .int (2 * per), .int 3]) hL1
      refine ⟨_, rfl, F9, b, 211, 4, rfl, w11.sub, w11.fb, w11.bg, by decide, by decide, by decide, fun d6 H12 d60 d61 q12 g12 => ?_⟩
      have w12 := w11.call q12 g12
      obtain ⟨step, hst, st0, st1⟩ : ∃ v, [V.int 0, V.int per, V.int (2 * per), V.int 3][d6.toNat]? = some (.int v) ∧ 0 ≤ v ∧ v ≤ 12 := by
        rcases (show d6 = 0 ∨ d6 = 1 ∨ d6 = 2 ∨ d6 = 3 by omega) with q | q | q | q <;> subst q
        · exact ⟨0, rfl, by omega⟩
        · exact ⟨per, rfl, by omega⟩
        · exact ⟨2 * per, rfl, by omega⟩
        · exact ⟨3, rfl, by omega⟩
      refine .inl ⟨L1, _, d6, _, rfl, rfl, SqL.of (w12.at 0), atI_int d60 hst, hN _ _ ?_⟩
      clear hN
      have w13 := w12.drop
      -- rows
      refine stp [some (.ref a), some (.ref b), some (.ref ka), some (.ref x), some (.ref dd), some (ro), some (.ref D0), x7, some (.str spin), some (.int per), some (.int step), none, none, none, none, none, none, none, none, none, none, none, none] rfl fun N hN => ?_
      obtain ⟨lo, oxs, elo, hlo, pdo⟩ := id rout9
      have hol : oxs.length = out.length := pd_len pdo
      have hxl : xs.length = out.length := by rw [pd_len pdb9, bl]
      refine ⟨_, rfl, _, rfl, .inr (.inr ⟨lo, D0, oxs, xs, elo, rfl, w13.sub _ _ hlo, w13.at 0, sz (by omega), fun lr hlr => hN _ _ ?_⟩)⟩
      clear hN
      have w14 := (w13.add (o := .lst (oxs ++ xs)) hlr).drop
      have s14 := Same.new (o := .lst (oxs ++ xs)) (w13.sub.free hlr)
      have prow : Paired (fun d x => RStep.rel d x (upd F9 lr (.lst (oxs ++ xs)))) (out ++ back) (oxs ++ xs) := pd_app (pd_mono (fun _ _ => RStep.mono s14) pdo) (pd_mono (fun _ _ => RStep.mono s14) pdb9)
      have hlr14 : upd F9 lr (.lst (oxs ++ xs)) lr = some (.lst (oxs ++ xs)) := upd_same
      have rk14 := RPairs.mono s14 rk9
      have rt14 := (RTurns CT).mono s14 rt9
      have rowN : ∀ c ∈ out ++ back, c.1 ∈ ks.map (·.1) ∧ c.2.natAbs ≤ 57 := fun c hc => by
        rcases List.mem_append.mp hc with y | y
        · exact ⟨outN c y, by have := outB c y; omega⟩
        · exact bn c y
      have rowL : (out ++ back).length ≤ 10 := by rw [List.length_append]; omega
      generalize out ++ back = rows at prow rowN rowL
      generalize oxs ++ xs = rxs at prow hlr14 w14 rk14 rt14 s14
      generalize upd F9 lr (.lst rxs) = F14 at prow hlr14 w14 rk14 rt14 s14
      generalize upd H12 lr (.lst rxs) = H14 at w14
      clear rk8 rk9 rt8 rt9 rout8 rout9 pdb9 pdo hka kpd
      have hrl : rxs.length = rows.length := pd_len prow
      -- stations
      refine stp [some (.ref a), some (.ref b), some (.ref ka), some (.ref x), some (.ref dd), some (ro), some (.ref D0), x7, some (.str spin), some (.int per), some (.int step), some (.ref lr), none, none, none, none, none, none, none, none, none, none, none] rfl fun N hN => ?_
      refine ⟨_, rfl, .inl ⟨lr, _, rfl, .inl (SqL.of (w14.sub _ _ hlr14)), .inl ⟨_, _, rfl, rfl, ((rxs.length : Nat) : Int) + 1, rfl, by omega, by omega, fun D hD => ?_⟩⟩⟩
      refine go_lc (F1 := F14) (walk_range (lo := 0) (n := (((rxs.length : Nat) : Int) + 1).toNat)) Rp.str (fun i => (List.range i).map stS) (by omega) w14.sub hD rfl (fun _ _ _ => trivial) (fun i y F3 H3 l H' N' hi pu fD hl1 hy kt kf => ?_) (fun F15 H15 ys pu fD hl1 pd1 => ?_)
      · obtain ⟨rfl, hy⟩ := hy
        replace hy : y = .int (i : Nat) := by
          rw [hy]
          show V.int (0 + (i : Int)) = _
          rw [Int.zero_add]
        subst hy
        have hi : i < 11 := by omega
        refine ⟨rfl, _, rfl, _, rfl, ?_, .inr (.inl ⟨_, _, rfl, rfl, ?_, kt (.str (stS i)) _ _ (stS i) (Pu.refl pu.sub) rfl (by rw [List.range_succ, List.map_append]; rfl)⟩)⟩
        · have : (i : Int).natAbs.log2 ≤ (i : Int).natAbs := Nat.log2_le_self _
          omega
        · exact sz (Nat.le_trans (stS_len ⟨i, hi⟩) (by decide))
      rw [show (((rxs.length : Nat) : Int) + 1).toNat = rows.length + 1 by omega] at pd1
      have eys := pd_eq (f := V.str) (by exact pd1)
      subst eys
      have w15 := w14.lc hD pu fD hl1
      have w16 := w15.fix 0
      have s16 := pu.ff.trans (w15.ext 0)
      have hst16 : upd F15 D (.lst (((List.range (rows.length + 1)).map stS).map V.str)) D = some (.lst (((List.range (rows.length + 1)).map stS).map V.str)) := upd_same
      generalize upd F15 D (.lst (((List.range (rows.length + 1)).map stS).map V.str)) = F16 at w16 s16 hst16
      obtain ⟨sn1, sn2, sn3⟩ := stS_ok (m := rows.length + 1) (by omega)
      have stl : ((List.range (rows.length + 1)).map stS).length = rows.length + 1 := by simp
      generalize hstn : (List.range (rows.length + 1)).map stS = stn at hst16 sn1 sn2 stl
      clear pd1 w15
      have prow16 := pd_mono (fun _ _ => RStep.mono s16) prow
      have hlr16 := s16 _ _ hlr14
      have rk16 := RPairs.mono s16 rk14
      have rt16 := (RTurns CT).mono s16 rt14
      refine hN _ _ ?_
      clear hN
      -- arrows
      refine stp [some (.ref a), some (.ref b), some (.ref ka), some (.ref x), some (.ref dd), some (ro), some (.ref D0), x7, some (.str spin), some (.int per), some (.int step), some (.ref lr), some (.ref D), none, none, none, none, none, none, none, none, none, none] rfl fun N hN => ?_
      refine ⟨sz (n := 0) (by decide), fun La hLa => hN _ _ ?_⟩
      clear hN
      have w17 := w16.new (o := .lst []) hLa
      refine stp [some (.ref a), some (.ref b), some (.ref ka), some (.ref x), some (.ref dd), some (ro), some (.ref D0), x7, some (.str spin), some (.int per), some (.int step), some (.ref lr), some (.ref D), none, some (.ref La), none, none, none, none, none, none, none, none] rfl fun N hN => ?_
      refine ⟨_, rfl, .inl ⟨lr, _, rfl, .inl (SqL.of (w17.sub _ _ hlr16)), ((rxs.length : Nat) : Int), rfl, by omega, by omega, ?_⟩⟩
      refine for_it (walk_range (lo := 0) (n := ((rxs.length : Nat) : Int).toNat)) (fun i σ H' => ∃ (F' : Hp) (ys : List V) (ds : List ArrD) (x13 : Option V), Bw b F1 H1 F' H' 212 [(La, .lst ys)] ∧ Same F16 F' ∧ Paired (fun d x => (RArr CN).rel d x F') ds ys ∧ ds.length = i ∧ (∀ (k : Nat) r, ds[k]? = some r → LineA stn rows k r) ∧ σ = [some (.ref a), some (.ref b), some (.ref ka), some (.ref x), some (.ref dd), some (ro), some (.ref D0), x7, some (.str spin), some (.int per), some (.int step), some (.ref lr), some (.ref D), x13, some (.ref La), none, none, none, none, none, none, none, none])
        ⟨F16, [], [], none, w17.le (by omega), Same.refl _, .nil, rfl, fun k r h => by simp at h, rfl⟩ (fun _ _ _ _ _ => trivial) ?_ ?_
      · rintro i y σ H3 H4 hi ⟨F3, ys, ds, x13, w3, s3, pds, dsl, la, rfl⟩ ⟨e1, hy⟩
        subst e1
        replace hy : y = .int (i : Nat) := by
          rw [hy]
          show V.int (0 + (i : Int)) = _
          rw [Int.zero_add]
        subst hy
        have hi : i < rows.length := by omega
        have hst3 := s3 _ _ hst16
        obtain ⟨yr, hyr, tr, u1, u2, rfl, htr, e1, e2⟩ := pd_get' prow16 (List.getElem?_eq_getElem hi)
        have e1 : u1 = .str rows[i].1 := e1
        have e2 : u2 = .int rows[i].2 := e2
        subst e1 e2
        obtain ⟨s0, hs0⟩ : ∃ z, stn[i]? = some z := ⟨_, List.getElem?_eq_getElem (by omega)⟩
        obtain ⟨s1, hs1⟩ : ∃ z, stn[i + 1]? = some z := ⟨_, List.getElem?_eq_getElem (by omega)⟩
        have hs0' : (stn.map V.str)[i]? = some (.str s0) := by rw [List.getElem?_map, hs0]; rfl
        have hs1' : (stn.map V.str)[i + 1]? = some (.str s1) := by rw [List.getElem?_map, hs1]; rfl
        refine (show tDrop _ _ _ _ from ?_)
        refine stq [some (.ref a), some (.ref b), some (.ref ka), some (.ref x), some (.ref dd), some (ro), some (.ref D0), x7, some (.str spin), some (.int per), some (.int step), some (.ref lr), some (.ref D), some (.int (i : Nat)), some (.ref La), none, none, none, none, none, none, none, none] rfl ?_
        refine ⟨_, rfl, .inl ⟨rfl, _, SqL.of (w3.at 0)⟩, ?_⟩
        refine ⟨_, rfl, _, rfl, .inl ⟨D, _, (i : Nat), _, rfl, rfl, SqL.of (w3.sub _ _ hst3), atI_nat hs0', ?_⟩⟩
        refine ⟨_, rfl, _, rfl, .inl ⟨lr, _, (i : Nat), _, rfl, rfl, SqL.of (w3.sub _ _ (s3 _ _ hlr16)), atI_nat hyr, ?_⟩⟩
        refine .inr (.inl ⟨tr, _, 0, _, rfl, rfl, SqT.of (w3.sub _ _ (s3 _ _ htr)), rfl, ?_⟩)
        refine ⟨rfl, _, rfl, _, rfl, .inl ⟨lr, _, (i : Nat), _, rfl, rfl, SqL.of (w3.sub _ _ (s3 _ _ hlr16)), atI_nat hyr, ?_⟩⟩
        refine .inr (.inl ⟨tr, _, 1, _, rfl, rfl, SqT.of (w3.sub _ _ (s3 _ _ htr)), rfl, ?_⟩)
        refine ⟨F3, rows[i].2, rfl, w3.sub, fun r F5 H5 nd pu5 rn nk => ?_⟩
        have w5 := w3.step pu5
        refine ⟨_, rfl, _, rfl, .inl ⟨_, _, rfl, rfl, .inl ⟨D, _, ((i + 1 : Nat) : Int), _, rfl, rfl, SqL.of (w5.sub _ _ (pu5.ff _ _ hst3)), atI_nat hs1', ?_⟩⟩⟩
        refine ⟨sz (n := 4) (by decide), fun q hq => ?_⟩
        have w6 := w5.add (o := .tup [.str s0, .str rows[i].1, r, .str s1]) hq
        have s6 := Same.new (o := .tup [.str s0, .str rows[i].1, r, .str s1]) (w5.sub.free hq)
        refine ⟨La, ys, _, rfl, rfl, w6.at 0, szl (by have := pd_len pds; omega), ?_⟩
        have w7 := w6.mut (o' := .lst (ys ++ [.ref q])) 0
        refine ⟨_, ys ++ [.ref q], ds ++ [⟨s0, rows[i].1, nd, s1⟩], _, w7, s3.trans (pu5.ff.trans s6), pd_snoc (pd_mono (fun _ _ => (RArr CN).mono (pu5.ff.trans s6)) pds) ⟨q, r, ⟨rfl, upd_same, (RNum CN).mono s6 rn⟩⟩, by rw [List.length_append, dsl]; rfl, fun k ar hk => ?_, rfl⟩
        by_cases c : k < ds.length
        · rw [List.getElem?_append_left c] at hk
          exact la k ar hk
        · have hlt := (List.getElem?_eq_some_iff.mp hk).1
          rw [List.length_append, List.length_singleton] at hlt
          have ek : k = ds.length := by omega
          subst ek
          rw [List.getElem?_append_right (Nat.le_refl _), Nat.sub_self] at hk
          cases hk
          subst dsl
          obtain ⟨_, _, _, _, hat⟩ := rn
          exact ⟨hs0, hs1, ⟨rows[ds.length].2, List.getElem?_eq_getElem hi, nk⟩, hat.pos⟩
      rintro σ H18 ⟨F18, ays, line, x13, w18, s18, pds, dsl, la, rfl⟩
      refine hN _ _ ?_
      clear hN
      -- among
      refine stp [some (.ref a), some (.ref b), some (.ref ka), some (.ref x), some (.ref dd), some (ro), some (.ref D0), x7, some (.str spin), some (.int per), some (.int step), some (.ref lr), some (.ref D), x13, some (.ref La), none, none, none, none, none, none, none, none] rfl fun N hN => ?_
      have jn2 : ∀ (F19 H19 : Hp) (am : V) (nd : NumD), Bw b F1 H1 F19 H19 212 [(La, .lst ays)] → Same F18 F19 → (RNum CN).rel nd am F19 → NumOk nd [(0, step)] → N [some (.ref a), some (.ref b), some (.ref ka), some (.ref x), some (.ref dd), some (ro), some (.ref D0), x7, some (.str spin), some (.int per), some (.int step), some (.ref lr), some (.ref D), x13, some (.ref La), some (am), none, none, none, none, none, none, none] H19 := by
        intro F19 H19 am nd w19 s19 rn nk
        refine hN _ _ ?_
        clear hN
        have hst19 := (s18.trans s19) _ _ hst16
        -- at
        refine stp [some (.ref a), some (.ref b), some (.ref ka), some (.ref x), some (.ref dd), some (ro), some (.ref D0), x7, some (.str spin), some (.int per), some (.int step), some (.ref lr), some (.ref D), x13, some (.ref La), some (am), none, none, none, none, none, none, none] rfl fun N hN => ?_
        refine ⟨_, rfl, _, rfl, .inl ⟨D, _, rfl, .inl (SqL.of (w19.sub _ _ hst19)), ?_⟩⟩
        refine ⟨F19, b, 212, ((stn.map V.str).length : Nat), rfl, w19.sub, w19.fb, w19.bg, by rw [List.length_map]; omega, by rw [List.length_map]; omega, by omega, fun d7 H20 d70 d71 q20 g20 => hN _ _ ?_⟩
        clear hN
        have w20 := w19.call q20 g20
        rw [List.length_map] at d71
        obtain ⟨sa, hsa⟩ : ∃ z, stn[d7.toNat]? = some z := ⟨_, List.getElem?_eq_getElem (by omega)⟩
        have hsa' : (stn.map V.str)[d7.toNat]? = some (.str sa) := by rw [List.getElem?_map, hsa]; rfl
        -- the loop
        refine stp [some (.ref a), some (.ref b), some (.ref ka), some (.ref x), some (.ref dd), some (ro), some (.ref D0), some (.int d7), some (.str spin), some (.int per), some (.int step), some (.ref lr), some (.ref D), x13, some (.ref La), some (am), none, none, none, none, none, none, none] rfl fun N hN => ?_
        have ayl : ays.length = line.length := pd_len pds
        refine ⟨_, rfl, .inl ⟨rfl, _, SqL.of (w20.at 0)⟩, ?_⟩
        refine ⟨_, rfl, _, rfl, .inl ⟨La, _, rfl, .inl (SqL.of (w20.at 0)), .inl ⟨_, _, rfl, rfl, ?_⟩⟩⟩
        refine ⟨F19, b, 213, ((ays.length : Nat) : Int) + 1, rfl, w20.sub, w20.fb, w20.bg, by omega, by omega, by omega, fun d8 H21 d80 d81 q21 g21 => ?_⟩
        have w21 := w20.call q21 g21
        refine ⟨_, rfl, _, rfl, .inl ⟨D, _, d7, _, rfl, rfl, SqL.of (w21.sub _ _ hst19), atI_int d70 hsa', ?_⟩⟩
        refine ⟨_, rfl, _, rfl, _, rfl, _, rfl, .inl ⟨D, _, d7, _, rfl, rfl, SqL.of (w21.sub _ _ hst19), atI_int d70 hsa', ?_⟩⟩
        refine ⟨sz (n := 4) (by decide), fun q hq => ?_⟩
        have w22 := w21.add (o := .tup [.str sa, .str spin, am, .str sa]) hq
        have s22 := Same.new (o := .tup [.str sa, .str spin, am, .str sa]) (w21.sub.free hq)
        refine ⟨La, ays, d8, _, rfl, rfl, w22.at 0, szl (by omega), d80, by omega, hN _ _ ?_⟩
        clear hN
        have w23 := w22.mut (o' := .lst (ays.take d8.toNat ++ [.ref q] ++ ays.drop d8.toNat)) 0
        have hq22 : upd F19 q (.tup [.str sa, .str spin, am, .str sa]) q = some (.tup [.str sa, .str spin, am, .str sa]) := upd_same
        have pdA : Paired (fun d x => (RArr CN).rel d x (upd F19 q (.tup [.str sa, .str spin, am, .str sa]))) (line.take d8.toNat ++ [⟨sa, spin, nd, sa⟩] ++ line.drop d8.toNat) (ays.take d8.toNat ++ [.ref q] ++ ays.drop d8.toNat) :=
          pd_app (pd_app (pd_take _ (pd_mono (fun _ _ => (RArr CN).mono (s19.trans s22)) pds)) (.cons ⟨q, am, ⟨rfl, hq22, (RNum CN).mono s22 rn⟩⟩ .nil)) (pd_drop _ (pd_mono (fun _ _ => (RArr CN).mono (s19.trans s22)) pds))
        have s1622 := s18.trans (s19.trans s22)
        generalize upd F19 q (.tup [.str sa, .str spin, am, .str sa]) = F22 at w23 s22 pdA s1622
        have bsl : (ays.take d8.toNat ++ [V.ref q] ++ ays.drop d8.toNat).length = line.length + 1 := by
          rw [List.length_append, List.length_append, List.length_take, List.length_drop, List.length_singleton]
          omega
        generalize ays.take d8.toNat ++ [V.ref q] ++ ays.drop d8.toNat = bys at w23 pdA bsl
        generalize upd (upd H21 q (.tup [.str sa, .str spin, am, .str sa])) La (.lst bys) = H23 at w23
        have w24 := w23.fix 0
        have sLa := w23.ext 0
        have hLa : upd F22 La (.lst bys) La = some (.lst bys) := upd_same
        generalize upd F22 La (.lst bys) = F24 at w24 sLa hLa
        have s24 := s1622.trans sLa
        -- the book
        refine stp [some (.ref a), some (.ref b), some (.ref ka), some (.ref x), some (.ref dd), some (ro), some (.ref D0), some (.int d7), some (.str spin), some (.int per), some (.int step), some (.ref lr), some (.ref D), x13, some (.ref La), some (am), none, none, none, none, none, none, none] rfl fun N hN => ?_
        refine ⟨_, rfl, sz (n := 1) (by decide), fun lp hlb => ?_⟩
        have w25 := w24.add (o := .lst [.str "p"]) hlb
        have s25 := Same.new (o := .lst [.str "p"]) (w24.sub.free hlb)
        have rt24 := (RTurns CT).mono (s24.trans s25) rt16
        refine fun xb dxb hxb hdxb neb => ?_
        refine ⟨_, _, xb, dxb, lp, .ref x, ks, ["p"], rfl, ⟨w25.sub, hxb, hdxb, neb, rfl⟩, rt24, ok, upd_same, fun z hz => by rw [List.mem_singleton.mp hz]; decide +kernel, by simp, by decide, fun F26 H26 pu26 rb => ⟨rfl, hN _ _ ?_⟩⟩
        clear hN
        have w26 := w25.step pu26
        have s26 := s24.trans (s25.trans pu26.ff)
        have s2426 := s25.trans pu26.ff
        -- the plan
        refine stp [some (.ref a), some (.ref b), some (.ref ka), some (.ref x), some (.ref dd), some (ro), some (.ref D0), some (.int d7), some (.str spin), some (.int per), some (.int step), some (.ref lr), some (.ref D), x13, some (.ref La), some (am), some (.ref xb), none, none, none, none, none, none] rfl fun N hN => ?_
        obtain ⟨sb, hsb⟩ : ∃ z, stn[0]? = some z := ⟨_, List.getElem?_eq_getElem (by omega)⟩
        obtain ⟨se, hse⟩ : ∃ z, stn[rows.length]? = some z := ⟨_, List.getElem?_eq_getElem (by omega)⟩
        have hsb' : (stn.map V.str)[0]? = some (.str sb) := by rw [List.getElem?_map, hsb]; rfl
        have hse' : (stn.map V.str).getLast? = some (.str se) := by
          rw [List.getLast?_eq_getElem?, List.length_map, stl, Nat.add_sub_cancel, List.getElem?_map, hse]
          rfl
        have hst26 := s26 _ _ hst16
        refine ⟨_, rfl, _, rfl, _, rfl, _, rfl, .inl ⟨D, _, 0, _, rfl, rfl, SqL.of (w26.sub _ _ hst26), atI_nat hsb', ?_⟩⟩
        refine ⟨_, rfl, _, rfl, .inl ⟨D, _, -1, _, rfl, rfl, SqL.of (w26.sub _ _ hst26), atI_last hse', ?_⟩⟩
        refine fun xp dxp hxp hdxp nep => ?_
        have gd : ∀ d ∈ line.take d8.toNat ++ [⟨sa, spin, nd, sa⟩] ++ line.drop d8.toNat, arrGood ks stn d := fun d hd => by
          have hd' : d = ⟨sa, spin, nd, sa⟩ ∨ d ∈ line := by
            rcases List.mem_append.mp hd with y | y
            · rcases List.mem_append.mp y with y | y
              · exact .inr (List.mem_of_mem_take y)
              · exact .inl (List.mem_singleton.mp y)
            · exact .inr (List.mem_of_mem_drop y)
          rcases hd' with rfl | hd'
          · exact ⟨List.mem_of_getElem? hsa, by show (ks.lookup spin).isSome = true; rw [hlp]; rfl, List.mem_of_getElem? hsa⟩
          · obtain ⟨k, hk⟩ := List.getElem?_of_mem hd'
            have l := la k d hk
            obtain ⟨e, he, _⟩ := l.nm
            obtain ⟨p, hp⟩ := look_mem (rowN _ (List.mem_of_getElem? he)).1
            have hp : ks.lookup d.name = some p := hp
            exact ⟨List.mem_of_getElem? l.one, by rw [hp]; rfl, List.mem_of_getElem? l.other⟩
        have pdG : Paired (fun d v => (RArr CN).rel d v F26 ∧ arrGood ks stn d) (line.take d8.toNat ++ [⟨sa, spin, nd, sa⟩] ++ line.drop d8.toNat) bys := pd_and (pd_mono (fun _ _ => (RArr CN).mono (sLa.trans s2426)) pdA) gd
        have dln : (line.take d8.toNat ++ [(⟨sa, spin, nd, sa⟩ : ArrD)] ++ line.drop d8.toNat).length = line.length + 1 := by rw [← bsl, pd_len pdA]
        generalize hds : line.take d8.toNat ++ [(⟨sa, spin, nd, sa⟩ : ArrD)] ++ line.drop d8.toNat = ds at pdA gd pdG dln
        have rt26 := (RTurns CT).mono s26 rt16
        have hLa26 := s2426 _ _ hLa
        have stk : StOk (stn.map V.str) stn := ⟨by rw [List.take_of_length_le (by simp)], by simp, sn1, sn2⟩
        refine ⟨F26, H26, xp, dxp, D, La, .ref x, .str sb, .str se, ks, stn.map V.str, bys, stn, ds, rfl, ⟨w26.sub, hxp, hdxp, nep, rfl⟩, rt26, hst26, hLa26, by rw [List.length_map]; omega, by omega, stk, by rw [show ds.length = bys.length by omega, List.take_of_length_le (Nat.le_refl _)]; exact pdG, by omega, ?_⟩
        refine .inr (.inr (.inr (.inr (.inr ⟨by simp, by omega, ⟨sb, rfl, List.mem_of_getElem? hsb⟩, ⟨se, rfl, List.mem_of_getElem? hse⟩, fun F27 H27 dx' ts ta pu27 hx27 hts hta => ⟨rfl, hN _ _ ?_⟩⟩))))
        clear hN
        have w27 := w26.step pu27
        have rp : (RPlan CT CN CP).rel ⟨ks, stn, ds, sb, se⟩ (.ref xp) F27 := ⟨xp, dx', ts, ta, .ref x, rfl, hx27, (RTurns CT).mono pu27.ff rt26, hts, ⟨ta, bys, rfl, hta, pd_mono (fun _ _ => (RArr CN).mono (sLa.trans (s2426.trans pu27.ff))) pdA⟩, gd, by show ds.length ≤ 100; omega⟩
        have rb27 := (RBook CB CM CG CT).mono pu27.ff rb
        have s27 := s26.trans pu27.ff
        have lineP : LineP ⟨ks, stn, ds, sb, se⟩ rows line ⟨sa, spin, nd, sa⟩ d8.toNat d7.toNat step per := by
          have lnl : line.length = rows.length := by omega
          have b57 : ∀ n, n ≤ 57 → n < bigN := fun n h => Nat.lt_of_le_of_lt h (Nat.lt_of_lt_of_le (show 57 < 2 ^ 6 by decide) (Nat.pow_le_pow_right (by decide) (by decide : 6 ≤ 8000)))
          obtain ⟨_, _, _, _, hat⟩ := id rn
          exact { ok := ok, nd := sn2, ln := stl, le := by omega, rn := fun c hc => (rowN c hc).1, rb := fun c hc => b57 _ (rowN c hc).2, ll := lnl, la := la, ds := by show ds = _; rw [← hds, List.append_assoc]; rfl, jl := by omega, b := hsb, e := hse, lo := hsa, lo2 := rfl, lp := hlp, lm := nk, ls := st0, lb := b57 _ (by omega), lc := hat.pos }
        have pg := lineP.g
        have ask : Askd CM CG CT CN CP CB F27 xb (.ref xp) (bk1 ks "p") ⟨ks, stn, ds, sb, se⟩ "p" "p" := by
          obtain ⟨a', bdx, ts', tv', fv', rv', ad', hb'⟩ := id rb27
          have := hb'.ev
          cases this
          refine { at_ := ⟨bdx, ts', tv', fv', rv', ad', hb'⟩, bo := one_book ok, rp := rp, ks := rfl, m1 := List.mem_singleton.mpr rfl, m2 := List.mem_singleton.mpr rfl, b := pg.b, e := pg.e, ln := by show stn.length ≤ 1000; omega, nb := pg.nb, md := fun s n hs hn => mod_pos (one_map ok.nd).1 ok s n hs hn, rn := fun run hr => ?_, wy := un_way pg }
          have p := runs_path pg hr
          refine ⟨p.1.fault 0, by omega, fun c hc => ?_, Nat.le_trans normal_len ?_⟩
          · obtain ⟨d0, hd0, e⟩ := normal_sub hc
            rw [e]
            exact pg.rn p.1 d0 hd0
          · show (rowR ds run).length ≤ 10000
            unfold rowR
            simp
            omega
        have rk27 := RPairs.mono (s27) rk16
        have prow27 := pd_mono (fun _ _ => RStep.mono s27) prow16
        have hlr27 := s27 _ _ hlr16
        have hst27 := s27 _ _ hst16
        have rt27 := (RTurns CT).mono s27 rt16
        have hLa27 := (s2426.trans pu27.ff) _ _ hLa
        have pdA27 := pd_mono (fun _ _ => (RArr CN).mono (sLa.trans (s2426.trans pu27.ff))) pdA
        have w27 := w27.le (m := 214) (by omega)
        clear pds w19 w20 w21 w22 w23 w24 w25 w26 w18 w17 w16 w14 rk16 rk14 rt16 rt14 rt24 rt26 prow prow16 hlr14 hlr16 hst16 hst19 hst26 hLa pdA pdG hLa26 rb rb27 rn
        have rnm : ∀ c ∈ rows, nameOk c.1 = true := fun c hc => nk' _ (rowN c hc).1
        -- due
        refine stp [some (.ref a), some (.ref b), some (.ref ka), some (.ref x), some (.ref dd), some (ro), some (.ref D0), some (.int d7), some (.str spin), some (.int per), some (.int step), some (.ref lr), some (.ref D), x13, some (.ref La), some (am), some (.ref xb), some (.ref xp), none, none, none, none, none] rfl fun N hN => ?_
        have jn3 : ∀ F28 H28, Bw b F1 H1 F28 H28 214 [] → Same F27 F28 → N [some (.ref a), some (.ref b), some (.ref ka), some (.ref x), some (.ref dd), some (ro), some (.ref D0), some (.int d7), some (.str spin), some (.int per), some (.int step), some (.ref lr), some (.ref D), x13, some (.ref La), some (am), some (.ref xb), some (.ref xp), some (.bl (decide (dueM ks rows step per))), none, none, none, none] H28 := by
          intro F28 H28 w28 s28
          refine hN _ _ ?_
          clear hN
          have ask28 := ask.mono s28
          obtain ⟨bdx, ts', tv', fv', rv', ad', hb'⟩ := ask28.at_
          have fin : ∀ {F9 H9 : Hp} {m : Nat}, Bw b F1 H1 F9 H9 m [] → Q (.bl true) H9 := fun {F9 H9 m} w9 => k H9 fun aa o e => w9.pb.keep (fun z => by subst z; rw [hb0] at e; cases e) (pu0.same _ _ e)
          -- found
          refine stp [some (.ref a), some (.ref b), some (.ref ka), some (.ref x), some (.ref dd), some (ro), some (.ref D0), some (.int d7), some (.str spin), some (.int per), some (.int step), some (.ref lr), some (.ref D), x13, some (.ref La), some (am), some (.ref xb), some (.ref xp), some (.bl (decide (dueM ks rows step per))), none, none, none, none] rfl fun N hN => ?_
          refine ⟨_, rfl, _, rfl, F28, xb, bdx, ts', tv', fv', rv', .ref xp, ad', bk1 ks "p", ⟨ks, stn, ds, sb, se⟩, "p", "p", rfl, w28.sub, hb', ask28.bo, ask28.rp, ask28.ks, ask28.m1, ask28.m2, ask28.b, ask28.e, ask28.ln, ask28.nb, ask28.md, ask28.rn, ask28.wy, fun F29 H29 fv pu29 hfv => hN _ _ ?_⟩
          clear hN
          have w29 := w28.step pu29
          have ask29 := ask28.mono pu29.ff
          have s29 := s28.trans pu29.ff
          have hbad : badRunM (bk1 ks "p") ⟨ks, stn, ds, sb, se⟩ "p" "p" = none ↔ dueM ks rows step per := lineP.bad (n := "p")
          have esu : (badRunM (bk1 ks "p") ⟨ks, stn, ds, sb, se⟩ "p" "p").isNone = decide (dueM ks rows step per) := by
            rw [Bool.eq_iff_iff, decide_eq_true_eq, Option.isNone_iff_eq_none]
            exact hbad
          have efn : decide (fv = V.non) = decide (dueM ks rows step per) := by
            rw [← esu]
            cases hbr : badRunM (bk1 ks "p") ⟨ks, stn, ds, sb, se⟩ "p" "p" with
            | none =>
              rw [hbr] at hfv
              have hfv : fv = .non := hfv
              rw [hfv]
              simp
            | some run =>
              rw [hbr] at hfv
              obtain ⟨_, _, rfl, _⟩ := hfv
              simp
          -- sure
          refine stp [some (.ref a), some (.ref b), some (.ref ka), some (.ref x), some (.ref dd), some (ro), some (.ref D0), some (.int d7), some (.str spin), some (.int per), some (.int step), some (.ref lr), some (.ref D), x13, some (.ref La), some (am), some (.ref xb), some (.ref xp), some (.bl (decide (dueM ks rows step per))), some (fv), none, none, none] rfl fun N hN => ?_
          refine ⟨_, rfl, _, rfl, F29, xb, .ref xp, bk1 ks "p", ⟨ks, stn, ds, sb, se⟩, "p", "p", rfl, w29.sub, ask29, fun H30 s30 => ?_⟩
          have w30 := w29.tmp s30
          rw [esu]
          have ne1 : ∀ c d : Bool, c = d → V.bl (!decide (V.bl c = V.bl d)) = V.bl false := fun c d e => by rw [e]; simp
          refine ⟨_, rfl, .inl ⟨rfl, false, ne1 _ _ rfl, iteF ?_⟩⟩
          refine ⟨_, rfl, rfl, _, rfl, .inl ⟨rfl, false, ne1 _ _ efn, iteF (hN _ _ ?_)⟩⟩
          clear hN
          obtain ⟨tn1, tn2, tn3⟩ := tab_asks pg (n := "p")
          -- not due
          refine stp [some (.ref a), some (.ref b), some (.ref ka), some (.ref x), some (.ref dd), some (ro), some (.ref D0), some (.int d7), some (.str spin), some (.int per), some (.int step), some (.ref lr), some (.ref D), x13, some (.ref La), some (am), some (.ref xb), some (.ref xp), some (.bl (decide (dueM ks rows step per))), some (fv), none, none, none] rfl fun N hN => ?_
          by_cases hdue : dueM ks rows step per
          · refine ⟨_, rfl, true, (decide_eq_true hdue).symm, iteF (hN _ _ ?_)⟩
            clear hN
            have hbr := hbad.mpr hdue
            -- the table
            refine stp [some (.ref a), some (.ref b), some (.ref ka), some (.ref x), some (.ref dd), some (ro), some (.ref D0), some (.int d7), some (.str spin), some (.int per), some (.int step), some (.ref lr), some (.ref D), x13, some (.ref La), some (am), some (.ref xb), some (.ref xp), some (.bl (decide (dueM ks rows step per))), some (fv), none, none, none] rfl fun N hN => ?_
            refine ⟨_, rfl, _, rfl, F29, xb, .ref xp, bk1 ks "p", ⟨ks, stn, ds, sb, se⟩, "p", "p", rfl, w30.sub, ask29, tn1, tn2, tn3, fun F31 H31 tv pu31 htv => hN _ _ ?_⟩
            clear hN
            rw [hbr] at htv
            obtain ⟨td, kvs, rfl, htd, ktd⟩ := htv
            have w31 := w30.step pu31
            have s31 := s29.trans pu31.ff
            obtain ⟨tb1, tb2⟩ := lineP.tab (n := "p") hdue
            refine stp [some (.ref a), some (.ref b), some (.ref ka), some (.ref x), some (.ref dd), some (ro), some (.ref D0), some (.int d7), some (.str spin), some (.int per), some (.int step), some (.ref lr), some (.ref D), x13, some (.ref La), some (am), some (.ref xb), some (.ref xp), some (.bl (decide (dueM ks rows step per))), some (fv), none, none, some (.ref td)] rfl fun N hN => ?_
            refine ⟨_, rfl, .inl ⟨D, _, rfl, .inl (SqL.of (w31.sub _ _ (s31 _ _ hst27))), (((stn.map V.str).length : Nat) : Int), rfl, by rw [List.length_map]; omega, by rw [List.length_map]; omega, ?_⟩⟩
            refine for_it (walk_range (lo := 0) (n := (((stn.map V.str).length : Nat) : Int).toNat)) (fun i σ H' => ∃ (F' : Hp) (y13 : Option V), Bw b F1 H1 F' H' 214 [] ∧ Same F31 F' ∧ σ = [some (.ref a), some (.ref b), some (.ref ka), some (.ref x), some (.ref dd), some (ro), some (.ref D0), some (.int d7), some (.str spin), some (.int per), some (.int step), some (.ref lr), some (.ref D), y13, some (.ref La), some (am), some (.ref xb), some (.ref xp), some (.bl (decide (dueM ks rows step per))), some (fv), none, none, some (.ref td)])
              ⟨F31, x13, w31, Same.refl _, rfl⟩ (fun _ _ _ _ _ => trivial) ?_ ?_
            · rintro i y σ H3 H4 hi ⟨F3, y13, w3, s3, rfl⟩ ⟨e1, hy⟩
              subst e1
              replace hy : y = .int (i : Nat) := by
                rw [hy]
                show V.int (0 + (i : Int)) = _
                rw [Int.zero_add]
              subst hy
              rw [List.length_map] at hi
              have hi : i < stn.length := by omega
              obtain ⟨s0, hs0⟩ : ∃ z, stn[i]? = some z := ⟨_, List.getElem?_eq_getElem hi⟩
              have hs0' : (stn.map V.str)[i]? = some (.str s0) := by rw [List.getElem?_map, hs0]; rfl
              obtain ⟨run, hru, hnr⟩ := tb1 i s0 hs0
              have hlk : (tabM (bk1 ks "p") ⟨ks, stn, ds, sb, se⟩ "p").lookup s0 = some ⟨ks, normal ks (rows.take i)⟩ := by
                refine (look_map (f := fun r => (⟨ks, normal ks (rowR ds r)⟩ : RowD))).trans ?_
                rw [hru]
                show some (⟨ks, normal ks (rowR ds run)⟩ : RowD) = _
                rw [show normal ks (rowR ds run) = normal ks (rows.take i) from hnr]
              obtain ⟨vr, hvr, rr⟩ := ktd.get hlk
              have rr3 := (RRow CT CR).mono s3 rr
              obtain ⟨ra, rdx, rts, rtk, rtq, rtp, rtv, rat⟩ := id rr3
              obtain ⟨ta', txs, eta, hta', ptx⟩ := rat.st
              cases eta
              refine (show tIfS _ _ _ _ _ _ from ?_)
              refine stq [some (.ref a), some (.ref b), some (.ref ka), some (.ref x), some (.ref dd), some (ro), some (.ref D0), some (.int d7), some (.str spin), some (.int per), some (.int step), some (.ref lr), some (.ref D), some (.int (i : Nat)), some (.ref La), some (am), some (.ref xb), some (.ref xp), some (.bl (decide (dueM ks rows step per))), some (fv), none, none, some (.ref td)] rfl ?_
              refine ⟨_, rfl, _, rfl, _, rfl, .inl ⟨D, _, (i : Nat), _, rfl, rfl, SqL.of (w3.sub _ _ (s3 _ _ (s31 _ _ hst27))), atI_nat hs0', ?_⟩⟩
              refine ⟨td, _, rfl, hvr ▸ DGet.k (k := Sum.inr s0) (w3.sub _ _ (s3 _ _ htd)), ?_⟩
              have s33 := w3.sub
              refine ⟨ra, CR, rdx, _, _, rat.ev, s33 _ _ rat.ob, RC.cl, RC.no _ (by decide), rfl, rts, txs, rfl, .inr (SqT.of (s33 _ _ hta')), fun l1 hl1 => ?_⟩
              have w4 := w3.add (o := .lst txs) hl1
              have s4 := Same.new (o := .lst txs) (w3.sub.free hl1)
              have srow := s31.trans (s3.trans s4)
              refine ⟨_, rfl, _, rfl, _, rfl, ((i : Nat) : Int), rfl, lr, rxs, rfl, SqL.of (w4.sub _ _ (srow _ _ hlr27)), fun l2 hl2 => ?_⟩
              rw [cut_take (show i ≤ rxs.length by omega)]
              have w5 := w4.add (o := .lst (rxs.take i)) hl2
              have s5 := Same.new (o := .lst (rxs.take i)) (w4.sub.free hl2)
              have prow5 := pd_take i (pd_mono (fun _ _ => RStep.mono (srow.trans s5)) prow27)
              refine ⟨_, .ref ka, .ref l2, ks, rows.take i, rfl, w5.sub, RPairs.mono (srow.trans s5) rk27, ⟨l2, _, rfl, upd_same, prow5⟩, ok, fun c hc => look_mem (rowN _ (List.mem_of_mem_take hc)).1, fun c hc => rnm _ (List.mem_of_mem_take hc), by rw [List.length_take]; omega, fun r5 F6 H6 pu6 rr6 => ?_⟩
              obtain ⟨l6, nxs6, rfl, hl6, pd6⟩ := rr6
              have w6 := w5.step pu6
              have tnm : ∀ c ∈ normal ks (rows.take i), nameOk c.1 = true := fun c hc => by
                obtain ⟨d0, h0, e⟩ := normal_sub hc
                rw [e]
                exact rnm d0 (List.mem_of_mem_take h0)
              have hl16 : F6 l1 = some (.lst txs) := (s5.trans pu6.ff) _ _ upd_same
              refine .inr ⟨stepsD (normal ks (rows.take i)), stepsD (normal ks (rows.take i)), .lst (SqL.of (w6.sub _ _ hl16)) (RDstep.all w6.sub (pd_mono (fun _ _ => RStep.mono (s4.trans (s5.trans pu6.ff))) ptx)), .lst (SqL.of (w6.sub _ _ hl6)) (RDstep.all w6.sub pd6), steps_shaped tnm, steps_shaped tnm, ?_⟩
              rw [SeqAt.eqv_refl _ (steps_lay tnm)]
              refine ⟨_, rfl, iteF ?_⟩
              exact ⟨F6, _, w6, s3.trans (s4.trans (s5.trans pu6.ff)), rfl⟩
            · rintro σ H3 ⟨F3, y13, w3, s3, rfl⟩
              refine hN _ _ ?_
              clear hN
              have htl : kvs.length = stn.length := by
                have e : (tabM (bk1 ks "p") ⟨ks, stn, ds, sb, se⟩ "p").length = stn.length := by
                  unfold tabM
                  rw [List.length_map]
                  exact tb2
                rw [← e]
                exact ktd.len
              refine stq [some (.ref a), some (.ref b), some (.ref ka), some (.ref x), some (.ref dd), some (ro), some (.ref D0), some (.int d7), some (.str spin), some (.int per), some (.int step), some (.ref lr), some (.ref D), y13, some (.ref La), some (am), some (.ref xb), some (.ref xp), some (.bl (decide (dueM ks rows step per))), some (fv), none, none, some (.ref td)] rfl ?_
              refine ⟨_, rfl, .inr (.inr ⟨td, kvs, rfl, w3.sub _ _ (s3 _ _ htd), _, rfl, .inl ⟨D, _, rfl, .inl (SqL.of (w3.sub _ _ (s3 _ _ (s31 _ _ hst27)))), ?_⟩⟩)⟩
              have el : decide (V.int (kvs.length : Nat) = V.int ((stn.map V.str).length : Nat)) = true := decide_eq_true (by rw [htl, List.length_map])
              refine .inl ⟨rfl, true, congrArg V.bl el, iteT ?_⟩
              have sr3 := s31.trans s3
              refine ⟨_, rfl, _, rfl, fun xr dxr hxr hdxr ner => ?_⟩
              refine ⟨F3, H3, xr, dxr, .ref x, .ref lr, ks, rows, rfl, ⟨w3.sub, hxr, hdxr, ner, rfl⟩, (RTurns CT).mono sr3 rt27, ⟨lr, rxs, rfl, .inl (.inl (sr3 _ _ hlr27)), pd_mono (fun _ _ => RStep.mono sr3) prow27⟩, fun c hc => look_mem (rowN c hc).1, by omega, fun F4 H4 pu4 rr4 => ⟨rfl, ?_⟩⟩
              have w4 := w3.step pu4
              rw [hdue.1] at rr4
              have rt4 := (RTurns CT).mono (sr3.trans pu4.ff) rt27
              obtain ⟨tA, tdx, tP, tN, tD, tR, tat⟩ := id rt4
              have tev := tat.ev
              cases tev
              refine ⟨_, rfl, x, tdx, _, rfl, w4.sub _ _ tat.ob, F4, .ref x, ks, rfl, w4.sub, rt4, fun r5 F5 H5 pu5 rr5 => ?_⟩
              have w5 := w4.step pu5
              have r4 := (RRow CT CR).mono (pu5.ff.trans w5.sub) rr4
              have r5' := (RRow CT CR).mono w5.sub rr5
              obtain ⟨qa, qdx, q1, q2, q3, q4, q5, qat⟩ := id r4
              obtain ⟨za, zdx, z1, z2, z3, z4, z5, zat⟩ := id r5'
              have qev := qat.ev
              have zev := zat.ev
              refine ⟨qa, qdx, _, za, zdx, _, qev, zev, qat.ob, zat.ob, .ref xr, r5, ⟨ks, []⟩, rfl, r4, r5', fun p hp => (ok.nm p hp).1, fun H6 s6 => ⟨true, rfl, fin (w5.tmp s6)⟩⟩
          · refine ⟨_, rfl, false, (decide_eq_false hdue).symm, iteT ?_⟩
            clear hN
            cases hbr : badRunM (bk1 ks "p") ⟨ks, stn, ds, sb, se⟩ "p" "p" with
            | none => exact absurd (hbad.mp hbr) hdue
            | some run =>
              rw [hbr] at hfv
              obtain ⟨fl, fxs, rfl, hfl, pfl⟩ := hfv
              obtain ⟨bs1, bs2⟩ := bad_some pg hbr
              have w31 := w30
              refine stp [some (.ref a), some (.ref b), some (.ref ka), some (.ref x), some (.ref dd), some (ro), some (.ref D0), some (.int d7), some (.str spin), some (.int per), some (.int step), some (.ref lr), some (.ref D), x13, some (.ref La), some (am), some (.ref xb), some (.ref xp), some (.bl (decide (dueM ks rows step per))), some (.ref fl), none, none, none] rfl fun N hN => ?_
              refine ⟨_, rfl, fl, rfl, ⟨_, SqL.of (w31.sub _ _ hfl)⟩, fun D5 hD5 => ?_⟩
              have fxl : fxs.length = run.length := pd_len pfl
              refine go_lc (F1 := F29) (walk_list (xs := fxs)) RStep (fun j => (rowR ds run).take j) (by have := (runs_path pg (n := "p") (List.mem_of_find?_eq_some hbr)).2; omega) w31.sub hD5 (by simp) (fun F5 H5 pu5 => SqL.of (pu5.sub _ _ (pu5.ff _ _ hfl))) (fun j y F5 H5 l5 H6 N5 hj pu5 fD5 hl5 hy kt5 kf5 => ?_) (fun F5 H5 ys pu5 fD5 hl5 pd5 => ?_)
              · obtain ⟨e1, hy⟩ := hy
                subst e1
                obtain ⟨pr, hpr, b2, u1, u2, rfl, hb2, e2, e3⟩ := pd_get pfl hy
                have e2 : u1 = .int pr.1 := e2
                have e3 : u2 = .int pr.2 := e3
                subst e2 e3
                obtain ⟨ii, nn, ar, ep, har⟩ := fault_all (bs1.fault 0) (some pr) (List.mem_map_of_mem (List.mem_of_getElem? hpr))
                cases ep
                obtain ⟨hj0, hjx⟩ := arrAt_int har
                obtain ⟨y2, hy2, b3, nv, ha⟩ := pd_get' pdA27 hjx
                have sF5 := s29.trans (pu5.ff.trans pu5.sub)
                refine ⟨b2, _, rfl, SqT.of (pu5.sub _ _ (pu5.ff _ _ hb2)), rfl, _, _, rfl, _, _, rfl, rfl, rfl, ?_⟩
                refine ⟨_, rfl, _, rfl, .inl ⟨La, bys, ii, y2, rfl, rfl, SqL.of (sF5 _ _ hLa27), atI_int hj0 hy2, ?_⟩⟩
                refine .inr (.inl ⟨b3, _, 1, _, ha.ev, rfl, SqT.of (sF5 _ _ ha.ob), atI_nat rfl, ?_⟩)
                refine ⟨_, rfl, sz (n := 2) (by decide), fun z hz => ?_⟩
                refine kt5 (.ref z) _ (upd F5 z (.tup [.str ar.name, .int nn])) (ar.name, nn) ((Pu.refl pu5.sub).add hz) ⟨z, _, _, rfl, upd_same, rfl, rfl⟩ (take_snoc ?_)
                unfold rowR
                rw [List.getElem?_map, List.getElem?_map, hpr]
                show some (((arrAt ds ii).map (·.name)).getD ("" : Str), nn) = _
                rw [har]
                rfl
              · have erl : (rowR ds run).length = fxs.length := by unfold rowR; simp [fxl]
                rw [← erl, take_all] at pd5
                have w32 := w31.lc hD5 pu5 fD5 hl5
                have w33 := w32.fix 0
                have s33 := pu5.ff.trans (w32.ext 0)
                have hD33 : upd F5 D5 (.lst ys) D5 = some (.lst ys) := upd_same
                have pd33 := pd_mono (fun _ _ => RStep.mono (w32.ext 0)) pd5
                generalize upd F5 D5 (.lst ys) = F33 at w33 s33 hD33 pd33
                refine hN _ _ ?_
                clear hN
                have rl801 := (runs_path pg (n := "p") (List.mem_of_find?_eq_some hbr)).2
                refine stq [some (.ref a), some (.ref b), some (.ref ka), some (.ref x), some (.ref dd), some (ro), some (.ref D0), some (.int d7), some (.str spin), some (.int per), some (.int step), some (.ref lr), some (.ref D), x13, some (.ref La), some (am), some (.ref xb), some (.ref xp), some (.bl (decide (dueM ks rows step per))), some (.ref fl), some (.ref D5), none, none] rfl ?_
                obtain ⟨pxa, pdx', pts', pta', ptv', hpp⟩ := id ((RPlan CT CN CP).mono (s29.trans s33) rp)
                have pev := hpp.ev
                cases pev
                have pairs : Paired (fun p x => PairV K x H5 p) (run.map some) fxs := by
                  have hs : Same F29 H5 := s33.trans w33.sub
                  have pfl' := pfl
                  clear pfl
                  clear fxl hfl
                  clear bs1 bs2 hbr erl pd33 hD33 rl801 pd5
                  induction pfl' with
                  | nil => exact .nil
                  | cons h _ ih =>
                    obtain ⟨c, u1, u2, rfl, hc, rfl, rfl⟩ := h
                    exact .cons (.ok (.inr (hs _ _ hc))) ih
                refine ⟨_, rfl, xp, pdx', _, rfl, w33.sub _ _ hpp.ob, rfl, _, rfl, .ref xp, .ref fl, rfl, .inr ⟨F33, fl, fxs, ⟨ks, stn, ds, sb, se⟩, run.map some, rfl, w33.sub, (RPlan CT CN CP).mono (s29.trans s33) rp, .inl (w33.sub _ _ (s33 _ _ hfl)), pairs, by omega, fun H6 s6 => ?_⟩⟩
                have w34 := w33.tmp s6
                have e0 : (faultD ds se sb 0 (run.map some)).isNone = true := by rw [show faultD ds se sb 0 (run.map some) = none from bs1.fault 0]; rfl
                rw [show (faultD (⟨ks, stn, ds, sb, se⟩ : PlanD).ds (⟨ks, stn, ds, sb, se⟩ : PlanD).e (⟨ks, stn, ds, sb, se⟩ : PlanD).b 0 (run.map some)).isNone = true from e0]
                refine ⟨true, rfl, iteT ?_⟩
                have rrn : ∀ c ∈ rowR ds run, c.1 ∈ ks.map (·.1) := pg.rn bs1
                refine ⟨_, rfl, _, rfl, F33, .ref ka, .ref D5, ks, rowR ds run, rfl, w34.sub, RPairs.mono (s29.trans s33) rk27, ⟨D5, ys, rfl, hD33, pd33⟩, ok, fun c hc => look_mem (rrn c hc), fun c hc => nk' _ (rrn c hc), by omega, fun r7 F7 H7 pu7 rr7 => ?_⟩
                obtain ⟨l7, nxs7, rfl, hl7, pd7⟩ := rr7
                have w35 := w34.step pu7
                refine ⟨sz (n := 0) (by decide), fun c hc => ?_⟩
                have w36 := w35.tmp (Same.new (o := .lst []) hc)
                refine .inr ⟨stepsD (normal ks (rowR ds run)), .list [], .lst (SqL.of (w36.sub _ _ hl7)) (RDstep.all w36.sub pd7), .lst (SqL.of upd_same) .nil, steps_shaped (fun d hd => by obtain ⟨d0, h0, e⟩ := normal_sub hd; rw [e]; exact nk' _ (rrn d0 h0)), rfl, ?_⟩
                rw [eqv_stl]
                generalize upd H7 c (.lst []) = H8 at w36
                have hne : (normal ks (rowR ds run)).isEmpty = false := by
                  cases hq : normal ks (rowR ds run) with
                  | nil => exact absurd hq bs2
                  | cons _ _ => rfl
                rw [hne]
                refine ⟨true, rfl, iteT ?_⟩
                refine ⟨_, rfl, _, rfl, F7, xb, .ref xp, bk1 ks "p", ⟨ks, stn, ds, sb, se⟩, "p", "p", rfl, w36.sub, ask29.mono (s33.trans pu7.ff), tn1, tn2, tn3, fun F9 H9 v9 pu9 hv9 => ?_⟩
                rw [hbr] at hv9
                have hv9 : v9 = .non := hv9
                subst hv9
                exact ⟨rfl, fin (w36.step pu9)⟩
        clear hN
        refine ⟨_, rfl, _, rfl, F27, .ref ka, .ref lr, ks, rows, rfl, w27.sub, rk27, ⟨lr, rxs, rfl, hlr27, prow27⟩, ok, fun c hc => look_mem (rowN c hc).1, rnm, by omega, fun r F28 H28 pu28 rr28 => ?_⟩
        have w28 := w27.step pu28
        obtain ⟨ln, nxs, rfl, hln, pdn⟩ := rr28
        refine ⟨sz (n := 0) (by decide), fun c hc => ?_⟩
        have w29 := w28.tmp (Same.new (o := .lst []) hc)
        refine .inr ⟨stepsD (normal ks rows), .list [], .lst (SqL.of (w29.sub _ _ hln)) (RDstep.all w29.sub pdn), .lst (SqL.of upd_same) .nil, steps_shaped (fun d hd => by obtain ⟨d0, h0, e⟩ := normal_sub hd; rw [e]; exact rnm d0 h0), rfl, ?_⟩
        rw [eqv_stl]
        generalize upd H28 c (.lst []) = H29 at w29
        have dueF : ∀ v, v = decide (dueM ks rows step per) → N [some (.ref a), some (.ref b), some (.ref ka), some (.ref x), some (.ref dd), some (ro), some (.ref D0), some (.int d7), some (.str spin), some (.int per), some (.int step), some (.ref lr), some (.ref D), x13, some (.ref La), some (am), some (.ref xb), some (.ref xp), some (.bl v), none, none, none, none] H29 := fun v e => by rw [e]; exact jn3 F28 H29 w29 pu28.ff
        cases hne : (normal ks rows).isEmpty with
        | false =>
          refine ⟨_, rfl, iteF (dueF false ?_)⟩
          rw [decide_eq_false]
          rintro ⟨e, _⟩
          rw [e] at hne
          cases hne
        | true =>
          have hnil : normal ks rows = [] := List.isEmpty_iff.mp hne
          refine ⟨_, rfl, iteT ?_⟩
          refine ⟨_, rfl, .inl ⟨rfl, ?_⟩⟩
          by_cases hs0 : step = 0
          · rw [decide_eq_true (congrArg V.int hs0)]
            refine ⟨_, rfl, iteT (dueF true ?_)⟩
            rw [decide_eq_true ⟨hnil, .inl hs0⟩]
          · rw [decide_eq_false (fun q => hs0 (V.int.inj q))]
            refine ⟨_, rfl, iteF ?_⟩
            by_cases hp0 : 0 < per
            · refine ⟨_, rfl, _, _, rfl, rfl, true, congrArg V.bl (decide_eq_true hp0), iteT ?_⟩
              refine ⟨_, rfl, .inl ⟨_, rfl, _, rfl, _, _, rfl, rfl, hp0, .inl ⟨rfl, ?_⟩⟩⟩
              have ve : decide (V.int (step % per) = V.int 0) = decide (step % per = 0) := by
                by_cases c : step % per = 0
                · rw [c]; simp
                · rw [decide_eq_false c, decide_eq_false (fun q => c (V.int.inj q))]
              rw [ve]
              refine dueF _ ?_
              by_cases c : step % per = 0
              · rw [decide_eq_true c, decide_eq_true ⟨hnil, .inr ⟨hp0, c⟩⟩]
              · rw [decide_eq_false c, decide_eq_false (fun q => q.2.elim hs0 (fun q => c q.2))]
            · refine ⟨_, rfl, _, _, rfl, rfl, false, congrArg V.bl (decide_eq_false hp0), iteF (dueF false ?_)⟩
              rw [decide_eq_false (fun q => q.2.elim hs0 (fun q => hp0 q.1))]
      clear hN
      by_cases hst0 : 0 < step
      · refine ⟨_, rfl, _, _, rfl, rfl, true, congrArg V.bl (decide_eq_true hst0), iteT ?_⟩
        refine ⟨_, rfl, sz (n := 2) (by decide), fun p hp => ⟨sz (n := 1) (by decide), fun l hl => ?_⟩⟩
        have w19 := (w18.add (o := .tup [.int 0, .int step]) hp)
        have s19 := Same.new (o := .tup [.int 0, .int step]) (w18.sub.free hp)
        have w20 := w19.add (o := .lst [.ref p]) hl
        have s20 := Same.new (o := .lst [.ref p]) (w19.sub.free hl)
        refine fun xn dxn hxn hdxn nen => ⟨_, _, xn, dxn, .ref l, [(0, step)], rfl, ⟨w20.sub, hxn, hdxn, nen, rfl⟩, ⟨l, _, rfl, upd_same, .cons ⟨p, _, _, rfl, s20 _ _ upd_same, rfl, rfl⟩ .nil⟩, ?_, (show 1 < 60 by decide), fun F' H' d pu r nk => ⟨rfl, jn2 F' H' (.ref xn) d (w20.step pu) (s19.trans (s20.trans pu.ff)) r nk⟩⟩
        intro c hc
        rw [List.mem_singleton.mp hc]
        exact st0
      · refine ⟨_, rfl, _, _, rfl, rfl, false, congrArg V.bl (decide_eq_false hst0), iteF ?_⟩
        have e0 : step = 0 := by omega
        refine ⟨rfl, F18, 0, rfl, w18.sub, fun r F' H' d pu rn nk => ?_⟩
        exact jn2 F' H' r d (w18.step pu) pu.ff rn (by rw [e0]; exact nk)
    clear hN
    refine ⟨_, rfl, sz (n := 0) (by decide), fun c0 hc0 => ?_⟩
    have w9 := w8.tmp (Same.new (o := .lst []) hc0)
    refine .inr ⟨stepsD (backS out), .list [], .lst (SqL.of (w9.at 0)) (RDstep.all w9.sub pdb), .lst (SqL.of upd_same) .nil, steps_shaped (fun d hd => nk _ (bkN d hd).1), rfl, ?_⟩
    rw [eqv_stl]
    generalize upd H8 c0 (.lst []) = H9 at w9
    cases hbe : (backS out).isEmpty with
    | true => exact ⟨_, rfl, iteF (iteF (jn F8 H9 xs0 (backS out) none (w9.le (by omega)) (Same.refl _) pdb bkL (fun c hc => ⟨(bkN c hc).1, by have := (bkN c hc).2; omega⟩)))⟩
    | false =>
      refine ⟨_, rfl, iteT ?_⟩
      refine ⟨_, rfl, F8, b, 200, 3, rfl, w9.sub, w9.fb, w9.bg, by decide, by decide, by decide, fun d2 H10 d20 d21 q10 g10 => ?_⟩
      have w10 := w9.call q10 g10
      refine .inl ⟨rfl, _, rfl, ?_⟩
      by_cases hd2 : d2 = 0
      · rw [decide_eq_true (congrArg V.int hd2)]
        refine iteT ?_
        have hbl : 0 < out.length := by
          rw [← bkL]
          cases hb2 : backS out with
          | nil => rw [hb2] at hbe; cases hbe
          | cons _ _ => simp
        refine stp [some (.ref a), some (.ref b), some (.ref ka), some (.ref x), some (.ref dd), some (ro), some (.ref D0), none, none, none, none, none, none, none, none, none, none, none, none, none, none, none, none] rfl fun N2 hN2 => ?_
        refine ⟨_, rfl, _, rfl, .inl ⟨D0, _, rfl, .inl (SqL.of (w10.at 0)), ?_⟩⟩
        refine ⟨F8, b, 201, (xs0.length : Nat), rfl, w10.sub, w10.fb, w10.bg, by omega, by omega, by omega, fun d3 H11 d30 d31 q11 g11 => hN2 _ _ ?_⟩
        clear hN2
        have w11 := w10.call q11 g11
        refine stq [some (.ref a), some (.ref b), some (.ref ka), some (.ref x), some (.ref dd), some (ro), some (.ref D0), some (.int d3), none, none, none, none, none, none, none, none, none, none, none, none, none, none, none] rfl ?_
        have hi3 : d3.toNat < xs0.length := by omega
        obtain ⟨cb, hcb, tb, u1, u2, hyt, htb, e1, e2⟩ := pd_get pdb (List.getElem?_eq_getElem hi3)
        have e1 : u1 = .str cb.1 := e1
        have e2 : u2 = .int cb.2 := e2
        subst e1 e2
        have hix : xs0[d3.toNat]? = some (.ref tb) := by rw [List.getElem?_eq_getElem hi3, hyt]
        obtain ⟨bn1, bn2⟩ := bkN cb (List.mem_of_getElem? hcb)
        obtain ⟨p3, hp3⟩ := look_mem bn1
        have hpv : valV (kper ks) (Sum.inr cb.1) = some (.int p3) := by rw [val_per, hp3]; rfl
        have p36 : 0 ≤ p3 ∧ p3 ≤ 6 := by have := per6 cb.1; unfold perOf at this; rw [hp3] at this; exact this
        refine ⟨_, rfl, _, rfl, .inl ⟨D0, _, d3, _, rfl, rfl, SqL.of (w11.at 0), atI_int d30 hix, ?_⟩⟩
        refine .inr (.inl ⟨tb, _, 0, _, rfl, rfl, SqT.of (w11.sub _ _ htb), rfl, ?_⟩)
        refine ⟨_, rfl, _, rfl, .inl ⟨D0, _, d3, _, rfl, rfl, SqL.of (w11.at 0), atI_int d30 hix, ?_⟩⟩
        refine .inr (.inl ⟨tb, _, 1, _, rfl, rfl, SqT.of (w11.sub _ _ htb), rfl, ?_⟩)
        refine ⟨_, rfl, _, rfl, _, rfl, _, rfl, .inl ⟨D0, _, d3, _, rfl, rfl, SqL.of (w11.at 0), atI_int d30 hix, ?_⟩⟩
        refine .inr (.inl ⟨tb, _, 0, _, rfl, rfl, SqT.of (w11.sub _ _ htb), rfl, ?_⟩)
        refine ⟨dd, _, rfl, hpv ▸ DGet.k (k := Sum.inr cb.1) (w11.sub _ _ h8), ?_⟩
        refine ⟨sz (n := 3) (by decide), fun L hL => ?_⟩
        have w12 := w11.new (o := .lst [.int 1, .int (-1), .int p3]) hL
        refine ⟨_, rfl, F8, b, 202, 3, rfl, w12.sub, w12.fb, w12.bg, by decide, by decide, by decide, fun d4 H12 d40 d41 q12 g12 => ?_⟩
        have w13 := w12.call q12 g12
        obtain ⟨v4, hv4, bv4⟩ : ∃ v, [V.int 1, V.int (-1), V.int p3][d4.toNat]? = some (.int v) ∧ v.natAbs ≤ 6 := by
          rcases (show d4 = 0 ∨ d4 = 1 ∨ d4 = 2 by omega) with q | q | q <;> subst q
          · exact ⟨1, rfl, by decide⟩
          · exact ⟨-1, rfl, by decide⟩
          · exact ⟨p3, rfl, by omega⟩
        refine .inl ⟨L, _, d4, _, rfl, rfl, SqL.of (w13.at 0), atI_int d40 hv4, ?_⟩
        refine .inl ⟨_, _, rfl, rfl, ?_⟩
        refine ⟨sz (n := 2) (by decide), fun t ht => ?_⟩
        have w14 := (w13.add (o := .tup [.str cb.1, .int (cb.2 + v4)]) ht).drop
        have s14 := Same.new (o := .tup [.str cb.1, .int (cb.2 + v4)]) (w13.sub.free ht)
        refine ⟨_, rfl, _, rfl, D0, _, d3, d3.toNat, rfl, rfl, w14.at 0, ixN_int d30 hi3, ?_⟩
        have w15 := w14.mut (o' := .lst (xs0.set d3.toNat (.ref t))) 0
        refine jn _ _ (xs0.set d3.toNat (.ref t)) ((backS out).set d3.toNat (cb.1, cb.2 + v4)) _ (w15.le (by omega)) s14 (pd_set (pd_mono (fun _ _ => RStep.mono s14) pdb) ⟨t, _, _, rfl, upd_same, rfl, rfl⟩) (by rw [List.length_set, bkL]) fun c hc => ?_
        rcases List.mem_or_eq_of_mem_set hc with y | y
        · exact ⟨(bkN c y).1, by have := (bkN c y).2; omega⟩
        · rw [y]
          exact ⟨bn1, by show (cb.2 + v4).natAbs ≤ 57; omega⟩
      · rw [decide_eq_false (fun q => hd2 (V.int.inj q))]
        exact iteF (jn F8 H10 xs0 (backS out) none (w10.le (by omega)) (Same.refl _) pdb bkL (fun c hc => ⟨(bkN c hc).1, by have := (bkN c hc).2; omega⟩))
end
end TR

/-! part H84 -/
set_option maxHeartbeats 0
namespace TR
open PySem PySem.Spec PyProof.Rows L2 G He HX
theorem xb_BadName : ∃ (ar : Arg) (prm : Str) (body : List Stmt), XBody s_BadName_init "BadName.__init__" "name" ar prm body :=
  ⟨_, "name", _, { bd := rfl, sh := ⟨_, _, _, _, _, _, _, _, _, _, _, _, rfl, fun L f cda cc env e => by subst e; exact ⟨⟨_, rfl⟩, rfl, rfl, rfl, rfl⟩⟩, hr := rfl, se := rfl, ks := by decide +kernel, kc := by decide +kernel, ka := by decide +kernel, kp := by decide +kernel, ki := rfl, co := rfl, ge := rfl, ce := by decide +kernel, pr := by decide +kernel, bi := fun _ _ _ _ _ _ _ _ _ => rfl }⟩
theorem xb_TwiceNamed : ∃ (ar : Arg) (prm : Str) (body : List Stmt), XBody s_TwiceNamed_init "TwiceNamed.__init__" "name" ar prm body :=
  ⟨_, "name", _, { bd := rfl, sh := ⟨_, _, _, _, _, _, _, _, _, _, _, _, rfl, fun L f cda cc env e => by subst e; exact ⟨⟨_, rfl⟩, rfl, rfl, rfl, rfl⟩⟩, hr := rfl, se := rfl, ks := by decide +kernel, kc := by decide +kernel, ka := by decide +kernel, kp := by decide +kernel, ki := rfl, co := rfl, ge := rfl, ce := by decide +kernel, pr := by decide +kernel, bi := fun _ _ _ _ _ _ _ _ _ => rfl }⟩
theorem xb_BadArrow : ∃ (ar : Arg) (prm : Str) (body : List Stmt), XBody s_BadArrow_init "BadArrow.__init__" "index" ar prm body :=
  ⟨_, "index", _, { bd := rfl, sh := ⟨_, _, _, _, _, _, _, _, _, _, _, _, rfl, fun L f cda cc env e => by subst e; exact ⟨⟨_, rfl⟩, rfl, rfl, rfl, rfl⟩⟩, hr := rfl, se := rfl, ks := by decide +kernel, kc := by decide +kernel, ka := by decide +kernel, kp := by decide +kernel, ki := rfl, co := rfl, ge := rfl, ce := by decide +kernel, pr := by decide +kernel, bi := fun _ _ _ _ _ _ _ _ _ => rfl }⟩
theorem xb_NoStation : ∃ (ar : Arg) (prm : Str) (body : List Stmt), XBody s_NoStation_init "NoStation.__init__" "name" ar prm body :=
  ⟨_, "name", _, { bd := rfl, sh := ⟨_, _, _, _, _, _, _, _, _, _, _, _, rfl, fun L f cda cc env e => by subst e; exact ⟨⟨_, rfl⟩, rfl, rfl, rfl, rfl⟩⟩, hr := rfl, se := rfl, ks := by decide +kernel, kc := by decide +kernel, ka := by decide +kernel, kp := by decide +kernel, ki := rfl, co := rfl, ge := rfl, ce := by decide +kernel, pr := by decide +kernel, bi := fun _ _ _ _ _ _ _ _ _ => rfl }⟩
abbrev s_RingMap_add_fact : Stmt := inClass (top 14) 7
abbrev N_RingMap_add_fact : List Str := ["self", "claim", "place", "row", "other", "spot", "goal", "step", "name", "exponent", "ring", "position"]
abbrev P_RingMap_add_fact : List Str := ["self", "claim"]
theorem sc_RingMap_add_fact : FnScope N_RingMap_add_fact P_RingMap_add_fact (defScope s_RingMap_add_fact) := ⟨rfl, rfl, rfl, by decide +kernel, rfl, by decide +kernel, by decide +kernel⟩
theorem bn_RingMap_add_fact : BindsNo "add_fact" "RingMap.add_fact" s_RingMap_add_fact P_RingMap_add_fact := fun _ _ _ _ _ _ us hl => match us, hl with | [_, _], _ => rfl
abbrev s_RingMap_close_up : Stmt := inClass (top 14) 14
abbrev N_RingMap_close_up : List Str := ["self"]
abbrev P_RingMap_close_up : List Str := ["self"]
theorem sc_RingMap_close_up : FnScope N_RingMap_close_up P_RingMap_close_up (defScope s_RingMap_close_up) := ⟨rfl, rfl, rfl, by decide +kernel, rfl, by decide +kernel, by decide +kernel⟩
theorem bn_RingMap_close_up : BindsNo "close_up" "RingMap.close_up" s_RingMap_close_up P_RingMap_close_up := fun _ _ _ _ _ _ us hl => match us, hl with | [_], _ => rfl
theorem facts {w : World} {K : PySem.W.Frag} {h : Heap} {mg : Str → Option Value} {f : Addr} (X : K.In h) (G : h.Ns mainGlobals mg) (hfa : mg ("law" : Str) = some (.ref f)) (c : SaysX fileS fa fn ex cs K) :
    ∃ fd : FuncData, (∀ (s : Shared) (v : Value), BindsTo s fd ⟨[v], []⟩ [("_law_script", v)]) ∧ ∀ base : Heap, K.In base → base.Ns mainGlobals mg → FnOk PR w K mg base (L2.CX PR w) 11 f fd P_law (sp_law K) := by
  obtain ⟨fd_law, D_law⟩ := c.def_ (d := d_law) 0
  have B : Bt mg := ⟨free_ok X G (c.fact (f := .free "len") 0), free_ok X G (c.fact (f := .free "isinstance") 1), free_ok X G (c.fact (f := .free "int") 2), free_ok X G (c.fact (f := .free "str") 3), free_ok X G (c.fact (f := .free "bool") 4), free_ok X G (c.fact (f := .free "list") 5), free_ok X G (c.fact (f := .free "tuple") 6), free_ok X G (c.fact (f := .free "all") 7), free_ok X G (c.fact (f := .free "any") 8), free_ok X G (c.fact (f := .free "min") 9), free_ok X G (c.fact (f := .free "max") 10), free_ok X G (c.fact (f := .free "abs") 11), free_ok X G (c.fact (f := .free "sum") 12), free_ok X G (c.fact (f := .free "set") 13), free_ok X G (c.fact (f := .free "sorted") 14), free_ok X G (c.fact (f := .free "enumerate") 15), free_ok X G (c.fact (f := .free "range") 16), free_ok X G (c.fact (f := .free "dict") 17), free_ok X G (c.fact (f := .free "zip") 18)⟩
  obtain ⟨fd_w_bag, D_w_bag⟩ := c.def_ (d := d_w_bag) 1
  have F_w_bag : FnF K mg "_law_bag" s_w_bag [] := ⟨⟨_, _, glo_ok X G (c.fact (f := .glo "_law_bag") 20), D_w_bag⟩⟩
  obtain ⟨fd_w_draw, D_w_draw⟩ := c.def_ (d := d_w_draw) 2
  have F_w_draw : FnF K mg "_law_draw" s_w_draw [] := ⟨⟨_, _, glo_ok X G (c.fact (f := .glo "_law_draw") 21), D_w_draw⟩⟩
  obtain ⟨fd_w_ident, D_w_ident⟩ := c.def_ (d := d_w_ident) 3
  have F_w_ident : FnF K mg "_law_ident" s_w_ident [] := ⟨⟨_, _, glo_ok X G (c.fact (f := .glo "_law_ident") 22), D_w_ident⟩⟩
  obtain ⟨fd_w_kinds, D_w_kinds⟩ := c.def_ (d := d_w_kinds) 4
  have F_w_kinds : FnF K mg "_law_kinds" s_w_kinds [] := ⟨⟨_, _, glo_ok X G (c.fact (f := .glo "_law_kinds") 23), D_w_kinds⟩⟩
  obtain ⟨fd_w_steps, D_w_steps⟩ := c.def_ (d := d_w_steps) 5
  have F_w_steps : FnF K mg "_law_steps" s_w_steps [] := ⟨⟨_, _, glo_ok X G (c.fact (f := .glo "_law_steps") 24), D_w_steps⟩⟩
  obtain ⟨fd_w_normal, D_w_normal⟩ := c.def_ (d := d_w_normal) 6
  have F_w_normal : FnF K mg "_law_normal" s_w_normal [] := ⟨⟨_, _, glo_ok X G (c.fact (f := .glo "_law_normal") 25), D_w_normal⟩⟩
  obtain ⟨fd_w_taken_back, D_w_taken_back⟩ := c.def_ (d := d_w_taken_back) 7
  have F_w_taken_back : FnF K mg "_law_taken_back" s_w_taken_back [] := ⟨⟨_, _, glo_ok X G (c.fact (f := .glo "_law_taken_back") 26), D_w_taken_back⟩⟩
  have C_Row : KlF K mg "Row" (ga K "Row") ["turns", "steps", "key"] := ⟨cls_ok (c.fact (f := .cls "Row") 27), glo_ok X G (c.fact (f := .glo "Row") 28), fun q hq => by
    simp only [List.mem_cons, List.not_mem_nil, or_false] at hq
    rcases hq with rfl | rfl | rfl
    · exact noat_ok (c.fact (f := .noat "Row" "turns") 29)
    · exact noat_ok (c.fact (f := .noat "Row" "steps") 30)
    · exact noat_ok (c.fact (f := .noat "Row" "key") 31)
    ⟩
  have C_Turns : KlF K mg "Turns" (ga K "Turns") ["pairs", "names", "periods", "ranks"] := ⟨cls_ok (c.fact (f := .cls "Turns") 32), glo_ok X G (c.fact (f := .glo "Turns") 33), fun q hq => by
    simp only [List.mem_cons, List.not_mem_nil, or_false] at hq
    rcases hq with rfl | rfl | rfl | rfl
    · exact noat_ok (c.fact (f := .noat "Turns" "pairs") 34)
    · exact noat_ok (c.fact (f := .noat "Turns" "names") 35)
    · exact noat_ok (c.fact (f := .noat "Turns" "periods") 36)
    · exact noat_ok (c.fact (f := .noat "Turns" "ranks") 37)
    ⟩
  have gs : Gs mg := ⟨str_ok X G (c.fact (f := .str "LETTERS" "abcdefghijklmnopqrstuvwxyz") 38), str_ok X G (c.fact (f := .str "DIGITS" "0123456789") 39), int_ok X G (c.fact (f := .int "LONGEST_NAME" 12) 40)⟩
  obtain ⟨fd_is_name, D_is_name⟩ := c.def_ (d := d_is_name) 8
  have F_is_name : FnF K mg "is_name" s_is_name [] := ⟨⟨_, _, glo_ok X G (c.fact (f := .glo "is_name") 41), D_is_name⟩⟩
  obtain ⟨fd_is_whole, D_is_whole⟩ := c.def_ (d := d_is_whole) 9
  have F_is_whole : FnF K mg "is_whole" s_is_whole [] := ⟨⟨_, _, glo_ok X G (c.fact (f := .glo "is_whole") 42), D_is_whole⟩⟩
  obtain ⟨fd_Turns_init, D_Turns_init⟩ := c.def_ (d := d_Turns_init) 10
  have F_Turns_init : MkF K mg "Turns" (ga K "Turns") "Turns.__init__" s_Turns_init [] := ⟨glo_ok X G (c.fact (f := .glo "Turns") 33), ⟨_, _, mkr_ok (c.fact (f := .mkr "Turns") 43), D_Turns_init⟩⟩
  have C_Plan : KlF K mg "Plan" (ga K "Plan") ["turns", "stations", "arrows", "begin", "end"] := ⟨cls_ok (c.fact (f := .cls "Plan") 44), glo_ok X G (c.fact (f := .glo "Plan") 45), fun q hq => by
    simp only [List.mem_cons, List.not_mem_nil, or_false] at hq
    rcases hq with rfl | rfl | rfl | rfl | rfl
    · exact noat_ok (c.fact (f := .noat "Plan" "turns") 46)
    · exact noat_ok (c.fact (f := .noat "Plan" "stations") 47)
    · exact noat_ok (c.fact (f := .noat "Plan" "arrows") 48)
    · exact noat_ok (c.fact (f := .noat "Plan" "begin") 49)
    · exact noat_ok (c.fact (f := .noat "Plan" "end") 50)
    ⟩
  have I_Numbers : InsF K (ga K "Numbers") := insB_ok (c.test (f := insB "Numbers") 1)
  obtain ⟨fd_Turns_contains, D_Turns_contains⟩ := c.def_ (d := d_Turns_contains) 11
  have F_Turns_contains : MtF K (ga K "Turns") "__contains__" "Turns.__contains__" s_Turns_contains [] := ⟨⟨_, _, meth_ok (c.fact (f := .meth "Turns" "__contains__") 51), D_Turns_contains⟩⟩
  obtain ⟨fd_is_arrow, D_is_arrow⟩ := c.def_ (d := d_is_arrow) 12
  have F_is_arrow : FnF K mg "is_arrow" s_is_arrow [] := ⟨⟨_, _, glo_ok X G (c.fact (f := .glo "is_arrow") 52), D_is_arrow⟩⟩
  have sg : mg "super" = none := free_ok X G (c.fact (f := .free "super") 53)
  have xt_BadName := c.exc (d := x_BadName) 0
  have X_BadName : XTxt PR K mg "BadName" "BadName.__init__" "name" s_BadName_init (ga K "BadName") := XD.txt xt_BadName.1 xt_BadName.2 (glo_ok X G (c.fact (f := .glo "BadName") 54)) sg (by decide +kernel) xb_BadName
  have xt_TwiceNamed := c.exc (d := x_TwiceNamed) 1
  have X_TwiceNamed : XTxt PR K mg "TwiceNamed" "TwiceNamed.__init__" "name" s_TwiceNamed_init (ga K "TwiceNamed") := XD.txt xt_TwiceNamed.1 xt_TwiceNamed.2 (glo_ok X G (c.fact (f := .glo "TwiceNamed") 55)) sg (by decide +kernel) xb_TwiceNamed
  have xt_BadArrow := c.exc (d := x_BadArrow) 2
  have X_BadArrow : XTxt PR K mg "BadArrow" "BadArrow.__init__" "index" s_BadArrow_init (ga K "BadArrow") := XD.txt xt_BadArrow.1 xt_BadArrow.2 (glo_ok X G (c.fact (f := .glo "BadArrow") 56)) sg (by decide +kernel) xb_BadArrow
  have xt_NoStation := c.exc (d := x_NoStation) 3
  have X_NoStation : XTxt PR K mg "NoStation" "NoStation.__init__" "name" s_NoStation_init (ga K "NoStation") := XD.txt xt_NoStation.1 xt_NoStation.2 (glo_ok X G (c.fact (f := .glo "NoStation") 57)) sg (by decide +kernel) xb_NoStation
  obtain ⟨fd_Plan_init, D_Plan_init⟩ := c.def_ (d := d_Plan_init) 13
  have F_Plan_init : MkF K mg "Plan" (ga K "Plan") "Plan.__init__" s_Plan_init [] := ⟨glo_ok X G (c.fact (f := .glo "Plan") 45), ⟨_, _, mkr_ok (c.fact (f := .mkr "Plan") 58), D_Plan_init⟩⟩
  have C_Numbers : KlF K mg "Numbers" (ga K "Numbers") ["classes", "singles"] := ⟨cls_ok (c.fact (f := .cls "Numbers") 59), glo_ok X G (c.fact (f := .glo "Numbers") 19), fun q hq => by
    simp only [List.mem_cons, List.not_mem_nil, or_false] at hq
    rcases hq with rfl | rfl
    · exact noat_ok (c.fact (f := .noat "Numbers" "classes") 60)
    · exact noat_ok (c.fact (f := .noat "Numbers" "singles") 61)
    ⟩
  obtain ⟨fd_is_part, D_is_part⟩ := c.def_ (d := d_is_part) 14
  have F_is_part : FnF K mg "is_part" s_is_part [] := ⟨⟨_, _, glo_ok X G (c.fact (f := .glo "is_part") 62), D_is_part⟩⟩
  obtain ⟨fd_is_covered, D_is_covered⟩ := c.def_ (d := d_is_covered) 15
  have F_is_covered : FnF K mg "is_covered" s_is_covered [] := ⟨⟨_, _, glo_ok X G (c.fact (f := .glo "is_covered") 63), D_is_covered⟩⟩
  obtain ⟨fd_tidy_classes, D_tidy_classes⟩ := c.def_ (d := d_tidy_classes) 16
  have F_tidy_classes : FnF K mg "tidy_classes" s_tidy_classes [] := ⟨⟨_, _, glo_ok X G (c.fact (f := .glo "tidy_classes") 64), D_tidy_classes⟩⟩
  obtain ⟨fd_Numbers_init, D_Numbers_init⟩ := c.def_ (d := d_Numbers_init) 17
  have F_Numbers_init : MkF K mg "Numbers" (ga K "Numbers") "Numbers.__init__" s_Numbers_init [.ref (dflAt ("Numbers", some "__init__") 0 K)] := ⟨glo_ok X G (c.fact (f := .glo "Numbers") 19), ⟨_, _, mkr_ok (c.fact (f := .mkr "Numbers") 65), D_Numbers_init⟩⟩
  obtain ⟨fd_Numbers_single, D_Numbers_single⟩ := c.def_ (d := d_Numbers_single) 18
  have C_Book : KlF K mg "Book" (ga K "Book") ["turns", "places", "facts", "rings"] := ⟨cls_ok (c.fact (f := .cls "Book") 66), glo_ok X G (c.fact (f := .glo "Book") 67), fun q hq => by
    simp only [List.mem_cons, List.not_mem_nil, or_false] at hq
    rcases hq with rfl | rfl | rfl | rfl
    · exact noat_ok (c.fact (f := .noat "Book" "turns") 68)
    · exact noat_ok (c.fact (f := .noat "Book" "places") 69)
    · exact noat_ok (c.fact (f := .noat "Book" "facts") 70)
    · exact noat_ok (c.fact (f := .noat "Book" "rings") 71)
    ⟩
  have I_Row : InsF K (ga K "Row") := insB_ok (c.test (f := insB "Row") 4)
  have I_Turns : InsF K (ga K "Turns") := insB_ok (c.test (f := insB "Turns") 5)
  obtain ⟨fd_Turns_eq, D_Turns_eq⟩ := c.def_ (d := d_Turns_eq) 19
  have F_Turns_eq : MtF K (ga K "Turns") "__eq__" "Turns.__eq__" s_Turns_eq [] := ⟨⟨_, _, meth_ok (c.fact (f := .meth "Turns" "__eq__") 72), D_Turns_eq⟩⟩
  obtain ⟨fd_is_claim, D_is_claim⟩ := c.def_ (d := d_is_claim) 20
  have F_is_claim : FnF K mg "is_claim" s_is_claim [] := ⟨⟨_, _, glo_ok X G (c.fact (f := .glo "is_claim") 73), D_is_claim⟩⟩
  have C_RingMap : KlF K mg "RingMap" (ga K "RingMap") ["turns", "circles", "spots", "lying", "laid", "drawn", "spot_of"] := ⟨cls_ok (c.fact (f := .cls "RingMap") 74), glo_ok X G (c.fact (f := .glo "RingMap") 75), fun q hq => by
    simp only [List.mem_cons, List.not_mem_nil, or_false] at hq
    rcases hq with rfl | rfl | rfl | rfl | rfl | rfl | rfl
    · exact noat_ok (c.fact (f := .noat "RingMap" "turns") 76)
    · exact noat_ok (c.fact (f := .noat "RingMap" "circles") 77)
    · exact noat_ok (c.fact (f := .noat "RingMap" "spots") 78)
    · exact noat_ok (c.fact (f := .noat "RingMap" "lying") 79)
    · exact noat_ok (c.fact (f := .noat "RingMap" "laid") 80)
    · exact noat_ok (c.fact (f := .noat "RingMap" "drawn") 81)
    · exact noat_ok (c.fact (f := .noat "RingMap" "spot_of") 82)
    ⟩
  have C_Ring : KlF K mg "Ring" (ga K "Ring") ["number", "turn", "modulus", "seats"] := ⟨cls_ok (c.fact (f := .cls "Ring") 83), glo_ok X G (c.fact (f := .glo "Ring") 84), fun q hq => by
    simp only [List.mem_cons, List.not_mem_nil, or_false] at hq
    rcases hq with rfl | rfl | rfl | rfl
    · exact noat_ok (c.fact (f := .noat "Ring" "number") 85)
    · exact noat_ok (c.fact (f := .noat "Ring" "turn") 86)
    · exact noat_ok (c.fact (f := .noat "Ring" "modulus") 87)
    · exact noat_ok (c.fact (f := .noat "Ring" "seats") 88)
    ⟩
  obtain ⟨fd_Ring_init, D_Ring_init⟩ := c.def_ (d := d_Ring_init) 21
  have F_Ring_init : MkF K mg "Ring" (ga K "Ring") "Ring.__init__" s_Ring_init [] := ⟨glo_ok X G (c.fact (f := .glo "Ring") 84), ⟨_, _, mkr_ok (c.fact (f := .mkr "Ring") 89), D_Ring_init⟩⟩
  obtain ⟨fd_Turns_period_of, D_Turns_period_of⟩ := c.def_ (d := d_Turns_period_of) 22
  have F_Turns_period_of : MtF K (ga K "Turns") "period_of" "Turns.period_of" s_Turns_period_of [] := ⟨⟨_, _, meth_ok (c.fact (f := .meth "Turns" "period_of") 90), D_Turns_period_of⟩⟩
  obtain ⟨fd_RingMap_seat, D_RingMap_seat⟩ := c.def_ (d := d_RingMap_seat) 23
  have F_RingMap_seat : MtF K (ga K "RingMap") "seat" "RingMap.seat" s_RingMap_seat [] := ⟨⟨_, _, meth_ok (c.fact (f := .meth "RingMap" "seat") 91), D_RingMap_seat⟩⟩
  obtain ⟨fd_RingMap_new_spot, D_RingMap_new_spot⟩ := c.def_ (d := d_RingMap_new_spot) 24
  have F_RingMap_new_spot : MtF K (ga K "RingMap") "new_spot" "RingMap.new_spot" s_RingMap_new_spot [] := ⟨⟨_, _, meth_ok (c.fact (f := .meth "RingMap" "new_spot") 92), D_RingMap_new_spot⟩⟩
  obtain ⟨fd_RingMap_init, D_RingMap_init⟩ := c.def_ (d := d_RingMap_init) 25
  have F_RingMap_init : MkF K mg "RingMap" (ga K "RingMap") "RingMap.__init__" s_RingMap_init [.ref (dflAt ("RingMap", some "__init__") 0 K)] := ⟨glo_ok X G (c.fact (f := .glo "RingMap") 75), ⟨_, _, mkr_ok (c.fact (f := .mkr "RingMap") 93), D_RingMap_init⟩⟩
  obtain ⟨fd_RingMap_add_fact, D_RingMap_add_fact⟩ := c.def_ (d := d_RingMap_add_fact) 26
  have F_RingMap_add_fact : MtF K (ga K "RingMap") "add_fact" "RingMap.add_fact" s_RingMap_add_fact [] := ⟨⟨_, _, meth_ok (c.fact (f := .meth "RingMap" "add_fact") 94), D_RingMap_add_fact⟩⟩
  obtain ⟨fd_RingMap_close_up, D_RingMap_close_up⟩ := c.def_ (d := d_RingMap_close_up) 27
  have F_RingMap_close_up : MtF K (ga K "RingMap") "close_up" "RingMap.close_up" s_RingMap_close_up [] := ⟨⟨_, _, meth_ok (c.fact (f := .meth "RingMap" "close_up") 95), D_RingMap_close_up⟩⟩
  obtain ⟨fd_map_of, D_map_of⟩ := c.def_ (d := d_map_of) 28
  have F_map_of : FnF K mg "map_of" s_map_of [] := ⟨⟨_, _, glo_ok X G (c.fact (f := .glo "map_of") 96), D_map_of⟩⟩
  obtain ⟨fd_Book_init, D_Book_init⟩ := c.def_ (d := d_Book_init) 29
  have F_Book_init : MkF K mg "Book" (ga K "Book") "Book.__init__" s_Book_init [.ref (dflAt ("Book", some "__init__") 0 K)] := ⟨glo_ok X G (c.fact (f := .glo "Book") 67), ⟨_, _, mkr_ok (c.fact (f := .mkr "Book") 97), D_Book_init⟩⟩
  have C_Trace : KlF K mg "Trace" (ga K "Trace") ["rings", "plan", "start", "states", "runs", "unlike"] := ⟨cls_ok (c.fact (f := .cls "Trace") 98), glo_ok X G (c.fact (f := .glo "Trace") 99), fun q hq => by
    simp only [List.mem_cons, List.not_mem_nil, or_false] at hq
    rcases hq with rfl | rfl | rfl | rfl | rfl | rfl
    · exact noat_ok (c.fact (f := .noat "Trace" "rings") 100)
    · exact noat_ok (c.fact (f := .noat "Trace" "plan") 101)
    · exact noat_ok (c.fact (f := .noat "Trace" "start") 102)
    · exact noat_ok (c.fact (f := .noat "Trace" "states") 103)
    · exact noat_ok (c.fact (f := .noat "Trace" "runs") 104)
    · exact noat_ok (c.fact (f := .noat "Trace" "unlike") 105)
    ⟩
  obtain ⟨fd_Book_need_place, D_Book_need_place⟩ := c.def_ (d := d_Book_need_place) 30
  have F_Book_need_place : MtF K (ga K "Book") "need_place" "Book.need_place" s_Book_need_place [] := ⟨⟨_, _, meth_ok (c.fact (f := .meth "Book" "need_place") 106), D_Book_need_place⟩⟩
  obtain ⟨fd_Trace_init, D_Trace_init⟩ := c.def_ (d := d_Trace_init) 31
  have F_Trace_init : MkF K mg "Trace" (ga K "Trace") "Trace.__init__" s_Trace_init [] := ⟨glo_ok X G (c.fact (f := .glo "Trace") 99), ⟨_, _, mkr_ok (c.fact (f := .mkr "Trace") 107), D_Trace_init⟩⟩
  obtain ⟨fd_Numbers_bool, D_Numbers_bool⟩ := c.def_ (d := d_Numbers_bool) 32
  have F_Numbers_bool : MtF K (ga K "Numbers") "__bool__" "Numbers.__bool__" s_Numbers_bool [] := ⟨⟨_, _, meth_ok (c.fact (f := .meth "Numbers" "__bool__") 108), D_Numbers_bool⟩⟩
  obtain ⟨fd_Plan_met, D_Plan_met⟩ := c.def_ (d := d_Plan_met) 33
  have F_Plan_met : MtF K (ga K "Plan") "met" "Plan.met" s_Plan_met [] := ⟨⟨_, _, meth_ok (c.fact (f := .meth "Plan" "met") 109), D_Plan_met⟩⟩
  obtain ⟨fd_Plan_useful, D_Plan_useful⟩ := c.def_ (d := d_Plan_useful) 34
  have F_Plan_useful : MtF K (ga K "Plan") "useful" "Plan.useful" s_Plan_useful [] := ⟨⟨_, _, meth_ok (c.fact (f := .meth "Plan" "useful") 110), D_Plan_useful⟩⟩
  obtain ⟨fd_Ring_place, D_Ring_place⟩ := c.def_ (d := d_Ring_place) 35
  have F_Ring_place : MtF K (ga K "Ring") "place" "Ring.place" s_Ring_place [] := ⟨⟨_, _, meth_ok (c.fact (f := .meth "Ring" "place") 111), D_Ring_place⟩⟩
  obtain ⟨fd_RingMap_ring_at, D_RingMap_ring_at⟩ := c.def_ (d := d_RingMap_ring_at) 36
  have F_RingMap_ring_at : MtF K (ga K "RingMap") "ring_at" "RingMap.ring_at" s_RingMap_ring_at [] := ⟨⟨_, _, meth_ok (c.fact (f := .meth "RingMap" "ring_at") 112), D_RingMap_ring_at⟩⟩
  obtain ⟨fd_modulus_at, D_modulus_at⟩ := c.def_ (d := d_modulus_at) 37
  have F_modulus_at : FnF K mg "modulus_at" s_modulus_at [] := ⟨⟨_, _, glo_ok X G (c.fact (f := .glo "modulus_at") 113), D_modulus_at⟩⟩
  obtain ⟨fd_kept_step, D_kept_step⟩ := c.def_ (d := d_kept_step) 38
  have F_kept_step : FnF K mg "kept_step" s_kept_step [] := ⟨⟨_, _, glo_ok X G (c.fact (f := .glo "kept_step") 114), D_kept_step⟩⟩
  obtain ⟨fd_Ring_spot_at, D_Ring_spot_at⟩ := c.def_ (d := d_Ring_spot_at) 39
  have F_Ring_spot_at : MtF K (ga K "Ring") "spot_at" "Ring.spot_at" s_Ring_spot_at [] := ⟨⟨_, _, meth_ok (c.fact (f := .meth "Ring" "spot_at") 115), D_Ring_spot_at⟩⟩
  obtain ⟨fd_from_spot, D_from_spot⟩ := c.def_ (d := d_from_spot) 40
  have F_from_spot : FnF K mg "from_spot" s_from_spot [] := ⟨⟨_, _, glo_ok X G (c.fact (f := .glo "from_spot") 116), D_from_spot⟩⟩
  obtain ⟨fd_beyond, D_beyond⟩ := c.def_ (d := d_beyond) 41
  have F_beyond : FnF K mg "beyond" s_beyond [] := ⟨⟨_, _, glo_ok X G (c.fact (f := .glo "beyond") 117), D_beyond⟩⟩
  obtain ⟨fd_Numbers_last_until, D_Numbers_last_until⟩ := c.def_ (d := d_Numbers_last_until) 42
  have F_Numbers_last_until : MtF K (ga K "Numbers") "last_until" "Numbers.last_until" s_Numbers_last_until [] := ⟨⟨_, _, meth_ok (c.fact (f := .meth "Numbers" "last_until") 118), D_Numbers_last_until⟩⟩
  obtain ⟨fd_Numbers_first_from, D_Numbers_first_from⟩ := c.def_ (d := d_Numbers_first_from) 43
  have F_Numbers_first_from : MtF K (ga K "Numbers") "first_from" "Numbers.first_from" s_Numbers_first_from [] := ⟨⟨_, _, meth_ok (c.fact (f := .meth "Numbers" "first_from") 119), D_Numbers_first_from⟩⟩
  obtain ⟨fd_Numbers_nearest, D_Numbers_nearest⟩ := c.def_ (d := d_Numbers_nearest) 44
  have F_Numbers_nearest : MtF K (ga K "Numbers") "nearest" "Numbers.nearest" s_Numbers_nearest [] := ⟨⟨_, _, meth_ok (c.fact (f := .meth "Numbers" "nearest") 120), D_Numbers_nearest⟩⟩
  obtain ⟨fd_Numbers_samples, D_Numbers_samples⟩ := c.def_ (d := d_Numbers_samples) 45
  have F_Numbers_samples : MtF K (ga K "Numbers") "samples" "Numbers.samples" s_Numbers_samples [] := ⟨⟨_, _, meth_ok (c.fact (f := .meth "Numbers" "samples") 121), D_Numbers_samples⟩⟩
  obtain ⟨fd_Trace_arrive, D_Trace_arrive⟩ := c.def_ (d := d_Trace_arrive) 46
  have F_Trace_arrive : MtF K (ga K "Trace") "arrive" "Trace.arrive" s_Trace_arrive [] := ⟨⟨_, _, meth_ok (c.fact (f := .meth "Trace" "arrive") 122), D_Trace_arrive⟩⟩
  obtain ⟨fd_Trace_follow, D_Trace_follow⟩ := c.def_ (d := d_Trace_follow) 47
  have F_Trace_follow : MtF K (ga K "Trace") "follow" "Trace.follow" s_Trace_follow [] := ⟨⟨_, _, meth_ok (c.fact (f := .meth "Trace" "follow") 123), D_Trace_follow⟩⟩
  obtain ⟨fd_Trace_run_all, D_Trace_run_all⟩ := c.def_ (d := d_Trace_run_all) 48
  have F_Trace_run_all : MtF K (ga K "Trace") "run_all" "Trace.run_all" s_Trace_run_all [] := ⟨⟨_, _, meth_ok (c.fact (f := .meth "Trace" "run_all") 124), D_Trace_run_all⟩⟩
  obtain ⟨fd_checked_trace, D_checked_trace⟩ := c.def_ (d := d_checked_trace) 49
  have F_checked_trace : FnF K mg "checked_trace" s_checked_trace [] := ⟨⟨_, _, glo_ok X G (c.fact (f := .glo "checked_trace") 125), D_checked_trace⟩⟩
  obtain ⟨fd_Plan_way_out, D_Plan_way_out⟩ := c.def_ (d := d_Plan_way_out) 50
  have F_Plan_way_out : MtF K (ga K "Plan") "way_out" "Plan.way_out" s_Plan_way_out [] := ⟨⟨_, _, meth_ok (c.fact (f := .meth "Plan" "way_out") 126), D_Plan_way_out⟩⟩
  obtain ⟨fd_Numbers_contains, D_Numbers_contains⟩ := c.def_ (d := d_Numbers_contains) 51
  have F_Numbers_contains : MtF K (ga K "Numbers") "__contains__" "Numbers.__contains__" s_Numbers_contains [] := ⟨⟨_, _, meth_ok (c.fact (f := .meth "Numbers" "__contains__") 127), D_Numbers_contains⟩⟩
  obtain ⟨fd_Plan_takes, D_Plan_takes⟩ := c.def_ (d := d_Plan_takes) 52
  have F_Plan_takes : MtF K (ga K "Plan") "takes" "Plan.takes" s_Plan_takes [] := ⟨⟨_, _, meth_ok (c.fact (f := .meth "Plan" "takes") 128), D_Plan_takes⟩⟩
  obtain ⟨fd_Plan_fault, D_Plan_fault⟩ := c.def_ (d := d_Plan_fault) 53
  have F_Plan_fault : MtF K (ga K "Plan") "fault" "Plan.fault" s_Plan_fault [] := ⟨⟨_, _, meth_ok (c.fact (f := .meth "Plan" "fault") 129), D_Plan_fault⟩⟩
  obtain ⟨fd_reduced, D_reduced⟩ := c.def_ (d := d_reduced) 54
  have F_reduced : FnF K mg "reduced" s_reduced [] := ⟨⟨_, _, glo_ok X G (c.fact (f := .glo "reduced") 130), D_reduced⟩⟩
  obtain ⟨fd_normal_steps, D_normal_steps⟩ := c.def_ (d := d_normal_steps) 55
  have F_normal_steps : FnF K mg "normal_steps" s_normal_steps [] := ⟨⟨_, _, glo_ok X G (c.fact (f := .glo "normal_steps") 131), D_normal_steps⟩⟩
  obtain ⟨fd_Turns_rank, D_Turns_rank⟩ := c.def_ (d := d_Turns_rank) 56
  have F_Turns_rank : MtF K (ga K "Turns") "rank" "Turns.rank" s_Turns_rank [] := ⟨⟨_, _, meth_ok (c.fact (f := .meth "Turns" "rank") 132), D_Turns_rank⟩⟩
  obtain ⟨fd_step_key, D_step_key⟩ := c.def_ (d := d_step_key) 57
  have F_step_key : FnF K mg "step_key" s_step_key [] := ⟨⟨_, _, glo_ok X G (c.fact (f := .glo "step_key") 133), D_step_key⟩⟩
  obtain ⟨fd_Row_init, D_Row_init⟩ := c.def_ (d := d_Row_init) 58
  have F_Row_init : MkF K mg "Row" (ga K "Row") "Row.__init__" s_Row_init [.ref (dflAt ("Row", some "__init__") 0 K)] := ⟨glo_ok X G (c.fact (f := .glo "Row") 28), ⟨_, _, mkr_ok (c.fact (f := .mkr "Row") 134), D_Row_init⟩⟩
  obtain ⟨fd_Plan_row_of, D_Plan_row_of⟩ := c.def_ (d := d_Plan_row_of) 59
  have F_Plan_row_of : MtF K (ga K "Plan") "row_of" "Plan.row_of" s_Plan_row_of [] := ⟨⟨_, _, meth_ok (c.fact (f := .meth "Plan" "row_of") 135), D_Plan_row_of⟩⟩
  obtain ⟨fd_RingMap_after, D_RingMap_after⟩ := c.def_ (d := d_RingMap_after) 60
  have F_RingMap_after : MtF K (ga K "RingMap") "after" "RingMap.after" s_RingMap_after [] := ⟨⟨_, _, meth_ok (c.fact (f := .meth "RingMap" "after") 136), D_RingMap_after⟩⟩
  obtain ⟨fd_RingMap_walk, D_RingMap_walk⟩ := c.def_ (d := d_RingMap_walk) 61
  have F_RingMap_walk : MtF K (ga K "RingMap") "walk" "RingMap.walk" s_RingMap_walk [] := ⟨⟨_, _, meth_ok (c.fact (f := .meth "RingMap" "walk") 137), D_RingMap_walk⟩⟩
  obtain ⟨fd_Book_contains, D_Book_contains⟩ := c.def_ (d := d_Book_contains) 62
  have F_Book_contains : MtF K (ga K "Book") "__contains__" "Book.__contains__" s_Book_contains [] := ⟨⟨_, _, meth_ok (c.fact (f := .meth "Book" "__contains__") 138), D_Book_contains⟩⟩
  obtain ⟨fd_bad_run, D_bad_run⟩ := c.def_ (d := d_bad_run) 63
  have F_bad_run : FnF K mg "bad_run" s_bad_run [] := ⟨⟨_, _, glo_ok X G (c.fact (f := .glo "bad_run") 139), D_bad_run⟩⟩
  obtain ⟨fd_sure, D_sure⟩ := c.def_ (d := d_sure) 64
  have F_sure : FnF K mg "sure" s_sure [] := ⟨⟨_, _, glo_ok X G (c.fact (f := .glo "sure") 140), D_sure⟩⟩
  obtain ⟨fd_table, D_table⟩ := c.def_ (d := d_table) 65
  have F_table : FnF K mg "table" s_table [] := ⟨⟨_, _, glo_ok X G (c.fact (f := .glo "table") 141), D_table⟩⟩
  obtain ⟨fd_Plan_is_run, D_Plan_is_run⟩ := c.def_ (d := d_Plan_is_run) 66
  have F_Plan_is_run : MtF K (ga K "Plan") "is_run" "Plan.is_run" s_Plan_is_run [] := ⟨⟨_, _, meth_ok (c.fact (f := .meth "Plan" "is_run") 142), D_Plan_is_run⟩⟩
  obtain ⟨fd_Turns_still, D_Turns_still⟩ := c.def_ (d := d_Turns_still) 67
  obtain ⟨fd_Row_eq, D_Row_eq⟩ := c.def_ (d := d_Row_eq) 68
  have F_Row_eq : MtF K (ga K "Row") "__eq__" "Row.__eq__" s_Row_eq [] := ⟨⟨_, _, meth_ok (c.fact (f := .meth "Row" "__eq__") 143), D_Row_eq⟩⟩
  obtain rfl : f = ga K "law" := by
    have e := hfa.symm.trans (glo_ok X G (c.fact (f := .glo "law") 144))
    cases e
    rfl
  have b := FunD.bindsA (ps := P_law) D_law fun _ _ _ _ _ _ us hl => match us, hl with | [_], _ => rfl
  refine ⟨fd_law, fun s v => b s [v] rfl, fun base _ _ => ?_⟩
  have h_Cal___law_bag_sp_bag := ok_bag (P := PR) (w := w) (base := base) B F_w_bag
  have h_Cal___law_draw_sp_draw := ok_draw (P := PR) (w := w) (base := base) B F_w_draw
  have h_Cal___law_ident_sp_ident := ok_ident (P := PR) (w := w) (base := base) B h_Cal___law_draw_sp_draw F_w_ident
  have h_Cal___law_kinds_sp_kinds := ok_kinds (P := PR) (w := w) (base := base) B h_Cal___law_draw_sp_draw h_Cal___law_ident_sp_ident F_w_kinds
  have h_Cal___law_steps_sp_wsteps := ok_wsteps (P := PR) (w := w) (base := base) B h_Cal___law_draw_sp_draw F_w_steps
  have h_Cal___law_normal_sp_wnormal := ok_wnormal (P := PR) (w := w) (base := base) B F_w_normal
  have h_Cal___law_taken_back_sp_wback := ok_wback (P := PR) (w := w) (base := base) B F_w_taken_back
  have h_Cal__is_name_sp_is_name := ok_is_name (P := PR) (w := w) (base := base) B gs F_is_name
  have h_Cal__is_whole_sp_is_whole := ok_is_whole (P := PR) (w := w) (base := base) B F_is_whole
  have h_Mak_CT_Turns_sp_Turns_init := ok_Turns_init (P := PR) (w := w) (base := base) (CT := ga K "Turns") B C_Turns (ccB_ok (c.test (f := ccB "Turns" "MOST" (.int 8)) 0)) h_Cal__is_name_sp_is_name h_Cal__is_whole_sp_is_whole F_Turns_init
  have h_Met_CT___contains___sp_Turns_in := ok_Turns_in (P := PR) (w := w) (base := base) (CT := ga K "Turns") B C_Turns F_Turns_contains
  have h_Cal__is_arrow_sp_is_arrow := ok_is_arrow (P := PR) (w := w) (base := base) (CT := ga K "Turns") (CN := ga K "Numbers") B (glo_ok X G (c.fact (f := .glo "Numbers") 19)) I_Numbers h_Met_CT___contains___sp_Turns_in F_is_arrow
  have h_Mak_CP_Plan_sp_Plan_init := ok_Plan_init (P := PR) (w := w) (base := base) (CT := ga K "Turns") (CN := ga K "Numbers") (CP := ga K "Plan") (EN := ga K "BadName") (ET := ga K "TwiceNamed") (EA := ga K "BadArrow") (ES := ga K "NoStation") B C_Plan h_Cal__is_name_sp_is_name h_Cal__is_arrow_sp_is_arrow X_BadName X_TwiceNamed X_BadArrow X_NoStation F_Plan_init
  have h_Cal__is_part_sp_is_part := ok_is_part (P := PR) (w := w) (base := base) B h_Cal__is_whole_sp_is_whole F_is_part
  have h_Cal__is_covered_sp_is_covered := ok_is_covered (P := PR) (w := w) (base := base) B F_is_covered
  have h_Cal__tidy_classes_sp_tidy := ok_tidy (P := PR) (w := w) (base := base) B F_tidy_classes
  have h_Mak_CN_Numbers_sp_Numbers_init := ok_Numbers_init (P := PR) (w := w) (base := base) (CN := ga K "Numbers") B C_Numbers h_Cal__is_part_sp_is_part h_Cal__is_covered_sp_is_covered h_Cal__tidy_classes_sp_tidy F_Numbers_init
  have h_Sta_CN_single_sp_single := ok_single (P := PR) (w := w) (base := base) (CN := ga K "Numbers") C_Numbers h_Mak_CN_Numbers_sp_Numbers_init (stB_ok (c.test (f := stB "Numbers" "single") 2) (c.def_ (d := d_Numbers_single) 18))
  have h_Met_CT___eq___sp_Turns_eq := ok_Turns_eq (P := PR) (w := w) (base := base) (CT := ga K "Turns") B C_Turns (glo_ok X G (c.fact (f := .glo "Turns") 33)) I_Turns F_Turns_eq
  have h_Cal__is_claim_sp_is_claim := ok_is_claim (P := PR) (w := w) (base := base) (CT := ga K "Turns") (CR := ga K "Row") B I_Row C_Row h_Met_CT___eq___sp_Turns_eq F_is_claim
  have h_Mak_CG_Ring_sp_Ring_init := ok_Ring_init (P := PR) (w := w) (base := base) (CG := ga K "Ring") C_Ring F_Ring_init
  have h_Met_CT_period_of_sp_Turns_period := ok_Turns_period (P := PR) (w := w) (base := base) (CT := ga K "Turns") B C_Turns h_Met_CT___contains___sp_Turns_in F_Turns_period_of
  have h_Met_CM_seat_sp_seat := ok_seat (P := PR) (w := w) (base := base) (CG := ga K "Ring") (CM := ga K "RingMap") C_RingMap C_Ring F_RingMap_seat
  have h_Met_CM_new_spot_sp_new_spot := ok_new_spot (P := PR) (w := w) (base := base) (CT := ga K "Turns") (CG := ga K "Ring") (CM := ga K "RingMap") C_Turns C_RingMap C_Ring h_Mak_CG_Ring_sp_Ring_init h_Met_CT_period_of_sp_Turns_period h_Met_CM_seat_sp_seat F_RingMap_new_spot
  have h_Mak_CM_RingMap_sp_RingMap_init := ok_RingMap_init (P := PR) (w := w) (base := base) (CT := ga K "Turns") (CG := ga K "Ring") (CM := ga K "RingMap") C_RingMap h_Met_CM_new_spot_sp_new_spot F_RingMap_init
  have h_Met_CM_add_fact_spNever := MtF.never (P := PR) (w := w) (mg := mg) (base := base) (k := 0) F_RingMap_add_fact C_RingMap.cl sc_RingMap_add_fact bn_RingMap_add_fact
  have h_Met_CM_close_up_spNever := MtF.never (P := PR) (w := w) (mg := mg) (base := base) (k := 0) F_RingMap_close_up C_RingMap.cl sc_RingMap_close_up bn_RingMap_close_up
  have h_Cal__map_of_sp_map_of0 := ok_map_of0 (P := PR) (w := w) (base := base) (CT := ga K "Turns") (CG := ga K "Ring") (CM := ga K "RingMap") (CB := ga K "Book") C_Book h_Mak_CM_RingMap_sp_RingMap_init h_Met_CM_add_fact_spNever h_Met_CM_close_up_spNever F_map_of
  have h_MakD_CB_Book_sp_Book_init0 := ok_Book_init0 (P := PR) (w := w) (base := base) (CT := ga K "Turns") (CG := ga K "Ring") (CM := ga K "RingMap") (CR := ga K "Row") (CB := ga K "Book") (df := dflAt ("Book", some "__init__") 0 K) B (etB_ok (c.test (f := etB (dflAt ("Book", some "__init__") 0)) 3)) C_Book h_Cal__is_name_sp_is_name h_Cal__is_claim_sp_is_claim h_Cal__map_of_sp_map_of0 F_Book_init
  have h_Met_CB_need_place_sp_need_place := ok_need_place (P := PR) (w := w) (base := base) (CT := ga K "Turns") (CG := ga K "Ring") (CM := ga K "RingMap") (CB := ga K "Book") B C_Book F_Book_need_place
  have h_Mak_CC_Trace_sp_Trace_init := ok_Trace_init (P := PR) (w := w) (base := base) (CT := ga K "Turns") (CG := ga K "Ring") (CM := ga K "RingMap") (CB := ga K "Book") (CC := ga K "Trace") B C_Book C_RingMap C_Trace F_Trace_init
  have h_Met_CN___bool___sp_Num_bool := ok_Num_bool (P := PR) (w := w) (base := base) (CN := ga K "Numbers") B C_Numbers F_Numbers_bool
  have h_Met_CP_met_sp_met := ok_met (P := PR) (w := w) (base := base) (CT := ga K "Turns") (CN := ga K "Numbers") (CP := ga K "Plan") B C_Plan h_Met_CN___bool___sp_Num_bool F_Plan_met
  have h_Met_CP_useful_sp_useful := ok_useful (P := PR) (w := w) (base := base) (CT := ga K "Turns") (CN := ga K "Numbers") (CP := ga K "Plan") B C_Plan h_Met_CP_met_sp_met F_Plan_useful
  have h_Met_CG_place_sp_place := ok_place (P := PR) (w := w) (base := base) (CG := ga K "Ring") C_Ring F_Ring_place
  have h_Met_CM_ring_at_sp_ring_at := ok_ring_at (P := PR) (w := w) (base := base) (CG := ga K "Ring") (CM := ga K "RingMap") C_RingMap h_Met_CG_place_sp_place F_RingMap_ring_at
  have h_Cal__modulus_at_sp_modulus_at := ok_modulus_at (P := PR) (w := w) (base := base) (CT := ga K "Turns") (CG := ga K "Ring") (CM := ga K "RingMap") B C_RingMap C_Ring h_Met_CM_ring_at_sp_ring_at h_Met_CT_period_of_sp_Turns_period F_modulus_at
  have h_Cal__kept_step_sp_kept_step := ok_kept_step (P := PR) (w := w) (base := base) (CT := ga K "Turns") h_Met_CT_period_of_sp_Turns_period F_kept_step
  have h_Met_CG_spot_at_sp_spot_at := ok_spot_at (P := PR) (w := w) (base := base) (CG := ga K "Ring") C_Ring h_Met_CG_place_sp_place F_Ring_spot_at
  have h_Cal__from_spot_sp_from_spot := ok_from_spot (P := PR) (w := w) (base := base) (CG := ga K "Ring") (CM := ga K "RingMap") B C_Ring h_Met_CM_ring_at_sp_ring_at h_Met_CG_spot_at_sp_spot_at h_Met_CG_place_sp_place F_from_spot
  have h_Cal__beyond_sp_beyond := ok_beyond (P := PR) (w := w) (base := base) (CT := ga K "Turns") (CG := ga K "Ring") (CM := ga K "RingMap") B C_RingMap h_Cal__kept_step_sp_kept_step h_Cal__from_spot_sp_from_spot F_beyond
  have h_Met_CN_last_until_sp_last_until := ok_last_until (P := PR) (w := w) (base := base) (CN := ga K "Numbers") B C_Numbers F_Numbers_last_until
  have h_Met_CN_first_from_sp_first_from := ok_first_from (P := PR) (w := w) (base := base) (CN := ga K "Numbers") B C_Numbers F_Numbers_first_from
  have h_Met_CN_nearest_sp_nearest := ok_nearest (P := PR) (w := w) (base := base) (CN := ga K "Numbers") C_Numbers h_Met_CN_last_until_sp_last_until h_Met_CN_first_from_sp_first_from F_Numbers_nearest
  have h_Met_CN_samples_sp_samples := ok_samples (P := PR) (w := w) (base := base) (CN := ga K "Numbers") C_Numbers F_Numbers_samples
  have h_Met_CC_arrive_sp_arrive := ok_arrive (P := PR) (w := w) (base := base) (CC := ga K "Trace") B C_Trace F_Trace_arrive
  have h_Met_CC_follow_sp_follow := ok_follow (P := PR) (w := w) (base := base) (CT := ga K "Turns") (CG := ga K "Ring") (CM := ga K "RingMap") (CC := ga K "Trace") (CN := ga K "Numbers") (CP := ga K "Plan") B C_Plan C_Trace h_Cal__modulus_at_sp_modulus_at h_Cal__beyond_sp_beyond h_Met_CN_nearest_sp_nearest h_Met_CN_samples_sp_samples h_Met_CC_arrive_sp_arrive F_Trace_follow
  have h_Met_CC_run_all_sp_run_all := ok_run_all (P := PR) (w := w) (base := base) (CT := ga K "Turns") (CG := ga K "Ring") (CM := ga K "RingMap") (CC := ga K "Trace") (CN := ga K "Numbers") (CP := ga K "Plan") B C_Plan C_Trace h_Met_CN___bool___sp_Num_bool h_Met_CP_useful_sp_useful h_Met_CC_follow_sp_follow h_Met_CC_arrive_sp_arrive F_Trace_run_all
  have h_Cal__checked_trace_sp_checked_trace := ok_checked_trace (P := PR) (w := w) (base := base) (CT := ga K "Turns") (CG := ga K "Ring") (CM := ga K "RingMap") (CB := ga K "Book") (CC := ga K "Trace") (CN := ga K "Numbers") (CP := ga K "Plan") B (of_decide_eq_true (c.test (f := fun K => decide (PySem.W.mroIn K (ga K "Turns") (.type "object") = some true)) 6)) (eqO_ok (c.test (f := fun K => eqO (PySem.W.findIn K (.ref (ga K "Turns")) "__ne__") (some (some (.builtin "object.__ne__")))) 7)) C_Plan C_Book C_Trace h_Met_CT___eq___sp_Turns_eq h_Met_CB_need_place_sp_need_place h_Mak_CC_Trace_sp_Trace_init h_Met_CC_run_all_sp_run_all F_checked_trace
  have h_Met_CP_way_out_sp_way_out := ok_way_out (P := PR) (w := w) (base := base) (CT := ga K "Turns") (CN := ga K "Numbers") (CP := ga K "Plan") B C_Plan h_Met_CN___bool___sp_Num_bool h_Met_CN_nearest_sp_nearest F_Plan_way_out
  have h_Met_CN___contains___sp_Num_in := ok_Num_in (P := PR) (w := w) (base := base) (CN := ga K "Numbers") B C_Numbers h_Cal__is_whole_sp_is_whole h_Cal__is_covered_sp_is_covered F_Numbers_contains
  have h_Met_CP_takes_sp_takes := ok_takes (P := PR) (w := w) (base := base) (CT := ga K "Turns") (CN := ga K "Numbers") (CP := ga K "Plan") B C_Plan h_Met_CN___contains___sp_Num_in F_Plan_takes
  have h_Met_CP_fault_sp_fault := ok_fault (P := PR) (w := w) (base := base) (CT := ga K "Turns") (CN := ga K "Numbers") (CP := ga K "Plan") B C_Plan h_Met_CP_takes_sp_takes F_Plan_fault
  have h_Cal__reduced_sp_reduced := ok_reduced (P := PR) (w := w) (base := base) (CT := ga K "Turns") h_Met_CT_period_of_sp_Turns_period F_reduced
  have h_Cal__normal_steps_sp_normal_steps := ok_normal_steps (P := PR) (w := w) (base := base) (CT := ga K "Turns") h_Cal__reduced_sp_reduced F_normal_steps
  have h_Met_CT_rank_sp_Turns_rank := ok_Turns_rank (P := PR) (w := w) (base := base) (CT := ga K "Turns") B C_Turns h_Met_CT___contains___sp_Turns_in F_Turns_rank
  have h_Cal__step_key_sp_step_key := ok_step_key (P := PR) (w := w) (base := base) (CT := ga K "Turns") B h_Met_CT_period_of_sp_Turns_period h_Met_CT_rank_sp_Turns_rank F_step_key
  have h_Mak_CR_Row_sp_Row_init := ok_Row_init (P := PR) (w := w) (base := base) (CT := ga K "Turns") (CR := ga K "Row") B C_Turns C_Row h_Met_CT___contains___sp_Turns_in h_Cal__normal_steps_sp_normal_steps h_Cal__step_key_sp_step_key F_Row_init
  have h_Met_CP_row_of_sp_row_of := ok_row_of (P := PR) (w := w) (base := base) (CT := ga K "Turns") (CR := ga K "Row") (CN := ga K "Numbers") (CP := ga K "Plan") (EA := ga K "BadArrow") B C_Plan h_Met_CP_fault_sp_fault h_Mak_CR_Row_sp_Row_init X_BadArrow F_Plan_row_of
  have h_Met_CM_after_sp_after := ok_after (P := PR) (w := w) (base := base) (CG := ga K "Ring") (CM := ga K "RingMap") C_RingMap h_Met_CM_ring_at_sp_ring_at h_Met_CG_spot_at_sp_spot_at F_RingMap_after
  have h_Met_CM_walk_sp_walk := ok_walk (P := PR) (w := w) (base := base) (CT := ga K "Turns") (CG := ga K "Ring") (CM := ga K "RingMap") (CR := ga K "Row") C_RingMap C_Row h_Met_CM_after_sp_after F_RingMap_walk
  have h_Met_CB___contains___sp_Book_in := ok_Book_in (P := PR) (w := w) (base := base) (CT := ga K "Turns") (CG := ga K "Ring") (CM := ga K "RingMap") (CR := ga K "Row") (CB := ga K "Book") B C_Book C_RingMap h_Cal__is_claim_sp_is_claim h_Met_CM_walk_sp_walk F_Book_contains
  have h_Cal__bad_run_sp_bad_run := ok_bad_run (P := PR) (w := w) (base := base) (CT := ga K "Turns") (CG := ga K "Ring") (CM := ga K "RingMap") (CR := ga K "Row") (CB := ga K "Book") (CC := ga K "Trace") (CN := ga K "Numbers") (CP := ga K "Plan") (EA := ga K "BadArrow") B C_Plan C_Trace h_Cal__checked_trace_sp_checked_trace h_Met_CP_way_out_sp_way_out h_Met_CP_row_of_sp_row_of h_Met_CB___contains___sp_Book_in F_bad_run
  have h_Cal__sure_sp_sure := ok_sure (P := PR) (w := w) (base := base) (CT := ga K "Turns") (CG := ga K "Ring") (CM := ga K "RingMap") (CB := ga K "Book") (CC := ga K "Trace") (CN := ga K "Numbers") (CP := ga K "Plan") h_Cal__bad_run_sp_bad_run F_sure
  have h_Cal__table_sp_table := ok_table (P := PR) (w := w) (base := base) (CT := ga K "Turns") (CG := ga K "Ring") (CM := ga K "RingMap") (CR := ga K "Row") (CB := ga K "Book") (CC := ga K "Trace") (CN := ga K "Numbers") (CP := ga K "Plan") B C_Plan C_Trace h_Cal__checked_trace_sp_checked_trace h_Cal__bad_run_sp_bad_run h_Mak_CR_Row_sp_Row_init F_table
  have h_Met_CP_is_run_sp_is_run := ok_is_run (P := PR) (w := w) (base := base) (CT := ga K "Turns") (CN := ga K "Numbers") (CP := ga K "Plan") B C_Plan h_Met_CP_fault_sp_fault F_Plan_is_run
  have h_MakD_CR_Row_sp_Row_init := ok_Row_init2 (P := PR) (w := w) (base := base) (CT := ga K "Turns") (CR := ga K "Row") B C_Turns C_Row h_Met_CT___contains___sp_Turns_in h_Cal__normal_steps_sp_normal_steps h_Cal__step_key_sp_step_key F_Row_init
  have h_Prp_CT_still_sp_still := ok_still (P := PR) (w := w) (base := base) (CT := ga K "Turns") (CR := ga K "Row") (df := dflAt ("Row", some "__init__") 0 K) C_Turns (etB_ok (c.test (f := etB (dflAt ("Row", some "__init__") 0)) 8)) h_MakD_CR_Row_sp_Row_init (prB_ok (c.test (f := prB "Turns" "still") 9) (c.def_ (d := d_Turns_still) 67))
  have h_Met_CR___eq___sp_Row_eq := ok_Row_eq (P := PR) (w := w) (base := base) (CT := ga K "Turns") (CR := ga K "Row") B C_Row (glo_ok X G (c.fact (f := .glo "Row") 28)) I_Row F_Row_eq
  exact ok_law (CT := ga K "Turns") (CG := ga K "Ring") (CM := ga K "RingMap") (CR := ga K "Row") (CB := ga K "Book") (CC := ga K "Trace") (CN := ga K "Numbers") (CP := ga K "Plan") (EN := ga K "BadName") (ET := ga K "TwiceNamed") (EA := ga K "BadArrow") (ES := ga K "NoStation") (df := dflAt ("Book", some "__init__") 0 K) B (glo_ok X G (c.fact (f := .glo "Numbers") 19)) h_Cal___law_bag_sp_bag h_Cal___law_draw_sp_draw h_Cal___law_kinds_sp_kinds h_Cal___law_steps_sp_wsteps h_Cal___law_normal_sp_wnormal h_Cal___law_taken_back_sp_wback C_Row h_Mak_CT_Turns_sp_Turns_init h_Mak_CP_Plan_sp_Plan_init h_Mak_CN_Numbers_sp_Numbers_init h_Sta_CN_single_sp_single h_MakD_CB_Book_sp_Book_init0 h_Cal__bad_run_sp_bad_run h_Cal__sure_sp_sure h_Cal__table_sp_table h_Met_CP_is_run_sp_is_run h_Mak_CR_Row_sp_Row_init h_Prp_CT_still_sp_still h_Met_CR___eq___sp_Row_eq D_law
end TR

/-! part E84 -/
set_option maxHeartbeats 0
open PySem PySem.W PySem.Calls PyProof.Rows
theorem PySem.Challenge.cw_turnrings_k84_plans_beyond_the_map_holds : PySem.Challenge.rw_turnrings_k84_plans_beyond_the_map.Holds := by
  w_on; o_law
  refine HandSHeadRun.head_any (r := OpenLaw.row PySem.Challenge.rw_turnrings_k84_plans_beyond_the_map) (q := TR.qv) (H := TR.hk) (ob := TR.ob) (M := 20000) (loose := TR.loose) (d := HandSHeadRun.topDef (OpenLaw.row PySem.Challenge.rw_turnrings_k84_plans_beyond_the_map).prog 85) (kwd := []) TR.ob_eq
    (by kernel_rfl) (fun s => by kernel_rfl) TR.head_run (by kernel_rfl) (by kernel_rfl) (by kernel_rfl) (by rfl) (by first | assumption | decide +kernel) (by decide +kernel) ⟨rfl, rfl, rfl, rfl, rfl, by decide +kernel⟩ ?hw ?hc
  case hw => w_witness2
  case hc =>
    refine LamX.walk_ofTsE (l := PySem.Challenge.rw_turnrings_k84_plans_beyond_the_map) (n := 63) (k := 11) (CX := fun w => L2.CX TR.PR w) (x := "_law_script") rfl (by decide) (by kernel_rfl) ⟨rfl, by decide, by decide⟩ ?F (fun w H s e s' z => by
      obtain ⟨_, _, _, _, _, _, _, _, _, _, _, _, z⟩ := z
      exact z)
    intro w mg fa h Y G hmg0
    obtain ⟨K, KX, c⟩ := Y
    have hmg : mg ("law" : PySem.Str) = some (.ref fa) := by
      have e : (HandSHeadRun.topDef (OpenLaw.row PySem.Challenge.rw_turnrings_k84_plans_beyond_the_map).prog 85).name = ("law" : PySem.Str) := by kernel_rfl
      rw [← e]
      exact hmg0
    obtain ⟨fd, hb, hF⟩ := TR.facts (w := w) KX G hmg c
    refine ⟨K, KX, fd, [], TR.sp_law K, ?_, ?_, ?_, hb, ?_, ?_⟩
    · intro p hp
      cases hp
    · intro p hp
      cases hp
    · intro p hp
      cases hp
    · intro H a ns hl _ _ hS
      exact ⟨a, ns, rfl, hS, fun H' s => L2.Same.seq s hS, by omega, fun _ _ => rfl⟩
    · intro base KB GB _
      exact hF base KB GB

