import PyProof.Rows.All
import Wide.All
import OpenK.AllK
import Wide.FinOn
import HandS.ForMost
import HandS.Evl
import HandS.Exc
import HandS.Wide
import HandS.WideBits
import HandS.TupSets
import HandS.TupAny
import HandS.Gcd
import HandS.Property
import HandS.IsInst
import HandS.Star
import HandS.Walk
import HandS.Style
import HandS.Flow
import HandS.Conv
import HandS.Strs
import HandS.Deep
import HandS.DictTup
import HandS.HeadHook4
import HandS.Head3
import HandS.HeadEnd
import HandS.Keys
import HandS.Sort
import KE.GoesMore
import KE.GoesEnum
import PyProof.ReprRoads
import PyProof.Rows.NestShow
import HandS.Ends
import PySem.Challenge.RW_drawarms_k28_whole_discs_and_rings
set_option Elab.async false
set_option linter.all false
set_option maxRecDepth 100000
/-! Data: what a value stands for in a heap, once for all tracked heaps that grow. -/
namespace K28
open PySem PySem.Spec PyProof.Rows L2 Evl

/-- data -/
inductive Dt where
  | non | bl (b : Bool) | int (i : Int) | str (x : Str)
  | tup (xs : List Dt) | lst (xs : List Dt)
  /-- a lot: its tree, its rounds -/
  | lot (t r : Dt)
  /-- a built-in class, the class of lots -/
  | ty (n : String) | cls
  /-- a list that is only read -/
  | frl (xs : List Dt)
  /-- a dict whose keys are these tuples of ints, each with True -/
  | dic (ks : List (List Int))
  /-- a tuple of ints that the call itself has made -/
  | ttup (ns : List Int)
  /-- just this address, whatever stands there -/
  | adr (a : Addr)
  /-- a tuple that is known to have no attributes of its own -/
  | tun (xs : List Dt)

mutual
/-- v stands for d in H; C is the class of lots -/
inductive Rp (C : Addr) (K : PySem.W.Frag) (H : Hp) : V → Dt → Prop
  | non : Rp C K H .non .non
  | bl (b : Bool) : Rp C K H (.bl b) (.bl b)
  | int (i : Int) : Rp C K H (.int i) (.int i)
  | str (x : Str) : Rp C K H (.str x) (.str x)
  | tup {a : Addr} {xs : List V} {ds : List Dt} : SqT K H a xs → RpAll C K H xs ds → Rp C K H (.ref a) (.tup ds)
  | lst {a : Addr} {xs : List V} {ds : List Dt} : H a = some (.lst xs) → RpAll C K H xs ds → Rp C K H (.ref a) (.lst ds)
  | lot {a dx : Addr} {fs : List (Str × V)} {vt vr : V} {t r : Dt} : H a = some (.ins C dx fs) → fs.lookup ("_tree" : Str) = some vt → fs.lookup ("_rounds" : Str) = some vr →
      Rp C K H vt t → Rp C K H vr r → fs.length ≤ 100 → Rp C K H (.ref a) (.lot t r)
  | ty (n : String) : Rp C K H (.ty n) (.ty n)
  | cls : Rp C K H (.ref C) .cls
  | frl {a : Addr} {xs : List V} {ds : List Dt} : SqL K H a xs → RpAll C K H xs ds → Rp C K H (.ref a) (.frl ds)
  | dic {a : Addr} {ks : List (List Int)} : H a = some (.dT (ks.map fun k => (k.map Sum.inl, V.bl true))) → Rp C K H (.ref a) (.dic ks)
  | ttup {a : Addr} {ns : List Int} : H a = some (.tup (ns.map V.int)) → Rp C K H (.ref a) (.ttup ns)
  | adr (a : Addr) : Rp C K H (.ref a) (.adr a)
  | tun {a : Addr} {o : Obj} {xs : List V} {ds : List Dt} : H a = some (.frz o (.tup xs)) → o.dict = none → RpAll C K H xs ds → Rp C K H (.ref a) (.tun ds)
inductive RpAll (C : Addr) (K : PySem.W.Frag) (H : Hp) : List V → List Dt → Prop
  | nil : RpAll C K H [] []
  | cons {v : V} {vs : List V} {d : Dt} {ds : List Dt} : Rp C K H v d → RpAll C K H vs ds → RpAll C K H (v :: vs) (d :: ds)
end

section
variable {C : Addr} {K : PySem.W.Frag} {H H' : Hp}
mutual
theorem Rp.mono (e : Ex H H') : ∀ {v : V} {d : Dt}, Rp C K H v d → Rp C K H' v d
  | _, _, .non => .non
  | _, _, .bl b => .bl b
  | _, _, .int i => .int i
  | _, _, .str x => .str x
  | _, _, .tup h r => .tup (ex_t e h) (RpAll.mono e r)
  | _, _, .lst h r => .lst (e _ _ h) (RpAll.mono e r)
  | _, _, .lot h l1 l2 r1 r2 n => .lot (e _ _ h) l1 l2 (Rp.mono e r1) (Rp.mono e r2) n
  | _, _, .ty n => .ty n
  | _, _, .cls => .cls
  | _, _, .frl h r => .frl (ex_l e h) (RpAll.mono e r)
  | _, _, .dic h => .dic (e _ _ h)
  | _, _, .ttup h => .ttup (e _ _ h)
  | _, _, .adr a => .adr a
  | _, _, .tun h n r => .tun (e _ _ h) n (RpAll.mono e r)
theorem RpAll.mono (e : Ex H H') : ∀ {vs : List V} {ds : List Dt}, RpAll C K H vs ds → RpAll C K H' vs ds
  | _, _, .nil => .nil
  | _, _, .cons h r => .cons (Rp.mono e h) (RpAll.mono e r)
end
theorem RpAll.length : ∀ {vs : List V} {ds : List Dt}, RpAll C K H vs ds → vs.length = ds.length
  | _, _, .nil => rfl
  | _, _, .cons _ t => congrArg Nat.succ (RpAll.length t)
theorem RpAll.get : ∀ {vs : List V} {ds : List Dt} {i : Nat} {d : Dt}, RpAll C K H vs ds → ds[i]? = some d → ∃ v, vs[i]? = some v ∧ Rp C K H v d
  | _, _, _, _, .nil, e => nomatch e
  | _, _, 0, d, .cons r _, e => by simp at e; subst e; exact ⟨_, rfl, r⟩
  | _, _, i + 1, d, .cons _ t, e => by
    obtain ⟨v, h1, h2⟩ := RpAll.get (i := i) (d := d) t (by simpa using e)
    exact ⟨v, by simpa using h1, h2⟩
theorem RpAll.getv : ∀ {vs : List V} {ds : List Dt} {i : Nat} {v : V}, RpAll C K H vs ds → vs[i]? = some v → ∃ d, ds[i]? = some d ∧ Rp C K H v d
  | _, _, _, _, .nil, e => nomatch e
  | _, _, 0, v, .cons r _, e => by simp at e; subst e; exact ⟨_, rfl, r⟩
  | _, _, i + 1, v, .cons _ t, e => by
    obtain ⟨d, h1, h2⟩ := RpAll.getv (i := i) (v := v) t (by simpa using e)
    exact ⟨d, by simpa using h1, h2⟩
theorem RpAll.append : ∀ {xs ys : List V} {us ws : List Dt}, RpAll C K H xs us → RpAll C K H ys ws → RpAll C K H (xs ++ ys) (us ++ ws)
  | _, _, _, _, .nil, s => s
  | _, _, _, _, .cons r t, s => .cons r (RpAll.append t s)
theorem RpAll.take : ∀ {xs : List V} {us : List Dt} (n : Nat), RpAll C K H xs us → RpAll C K H (xs.take n) (us.take n)
  | _, _, 0, _ => by simpa using RpAll.nil
  | _, _, _ + 1, .nil => by simpa using RpAll.nil
  | _, _, n + 1, .cons r t => by simpa using RpAll.cons r (RpAll.take n t)
theorem RpAll.drop : ∀ {xs : List V} {us : List Dt} (n : Nat), RpAll C K H xs us → RpAll C K H (xs.drop n) (us.drop n)
  | _, _, 0, r => by simpa using r
  | _, _, _ + 1, .nil => by simpa using RpAll.nil
  | _, _, n + 1, .cons r t => by simpa using RpAll.drop n t
/-- ints in a tuple -/
theorem RpAll.ints : ∀ {vs : List V} {ns : List Int}, RpAll C K H vs (ns.map Dt.int) → vs = ns.map V.int
  | _, [], .nil => rfl
  | _, n :: ns, .cons (.int _) t => by rw [List.map_cons, ← RpAll.ints t]
theorem RpAll.ofInts : ∀ (ns : List Int), RpAll C K H (ns.map V.int) (ns.map Dt.int)
  | [] => .nil
  | n :: ns => .cons (.int n) (RpAll.ofInts ns)
theorem RpAll.bools : ∀ {vs : List V} {bs : List Bool}, RpAll C K H vs (bs.map Dt.bl) → vs = bs.map V.bl
  | _, [], .nil => rfl
  | _, n :: ns, .cons (.bl _) t => by rw [List.map_cons, ← RpAll.bools t]
theorem RpAll.ofBools : ∀ (ns : List Bool), RpAll C K H (ns.map V.bl) (ns.map Dt.bl)
  | [] => .nil
  | n :: ns => .cons (.bl n) (RpAll.ofBools ns)
theorem Rp.tupI {a : Addr} {ns : List Int} (h : Rp C K H (.ref a) (.tup (ns.map Dt.int))) : SqT K H a (ns.map V.int) := by
  cases h with
  | tup h r => rw [RpAll.ints r] at h; exact h
end

/-! ### what a frame's slots stand for -/
abbrev Env' := List (Option Dt)
def SlotOk (C : Addr) (K : PySem.W.Frag) (H : Hp) (o : Option V) : Option Dt → Prop
  | none => True
  | some d => ∃ v, o = some v ∧ Rp C K H v d
inductive SD (C : Addr) (K : PySem.W.Frag) (H : Hp) : L2.St → Env' → Prop
  | nil : SD C K H [] []
  | cons {o : Option V} {d : Option Dt} {σ : L2.St} {Γ : Env'} : SlotOk C K H o d → SD C K H σ Γ → SD C K H (o :: σ) (d :: Γ)
section
variable {C : Addr} {K : PySem.W.Frag} {H H' : Hp}
theorem SlotOk.mono (e : Ex H H') {o : Option V} : ∀ {d : Option Dt}, SlotOk C K H o d → SlotOk C K H' o d
  | none, _ => True.intro
  | some _, ⟨v, h, r⟩ => ⟨v, h, r.mono e⟩
theorem SD.mono (e : Ex H H') : ∀ {σ : L2.St} {Γ : Env'}, SD C K H σ Γ → SD C K H' σ Γ
  | _, _, .nil => .nil
  | _, _, .cons h t => .cons (h.mono e) (SD.mono e t)
theorem SD.get : ∀ {σ : L2.St} {Γ : Env'} {i : Nat} {d : Dt}, SD C K H σ Γ → Γ[i]? = some (some d) → ∃ v, σ[i]? = some (some v) ∧ Rp C K H v d
  | _, _, _, _, .nil, e => nomatch e
  | _, _, 0, d, .cons h _, e => by
    simp at e; subst e
    obtain ⟨v, h1, h2⟩ := h
    exact ⟨v, by simp [h1], h2⟩
  | _, _, i + 1, d, .cons _ t, e => by
    obtain ⟨v, h1, h2⟩ := SD.get (i := i) (d := d) t (by simpa using e)
    exact ⟨v, by simpa using h1, h2⟩
theorem SD.set {v : V} {d : Dt} (r : Rp C K H v d) : ∀ {σ : L2.St} {Γ : Env'} (i : Nat), SD C K H σ Γ → SD C K H (σ.set i (some v)) (Γ.set i (some d))
  | _, _, _, .nil => .nil
  | _, _, 0, .cons _ t => .cons ⟨v, rfl, r⟩ t
  | _, _, i + 1, .cons q t => .cons q (SD.set r i t)
theorem SD.setN : ∀ {σ : L2.St} {Γ : Env'} (i : Nat) (o : Option V), SD C K H σ Γ → SD C K H (σ.set i o) (Γ.set i none)
  | _, _, _, _, .nil => .nil
  | _, _, 0, _, .cons _ t => .cons True.intro t
  | _, _, i + 1, o, .cons q t => .cons q (SD.setN i o t)
theorem SD.length : ∀ {σ : L2.St} {Γ : Env'}, SD C K H σ Γ → σ.length = Γ.length
  | _, _, .nil => rfl
  | _, _, .cons _ t => congrArg Nat.succ (SD.length t)
/-- what is known less -/
def Less : Env' → Env' → Prop
  | [], [] => True
  | _ :: Γ, none :: Δ => Less Γ Δ
  | some d :: Γ, some d' :: Δ => d = d' ∧ Less Γ Δ
  | _, _ => False
theorem SD.less : ∀ {σ : L2.St} {Γ Δ : Env'}, SD C K H σ Γ → Less Γ Δ → SD C K H σ Δ
  | _, _, [], .nil, _ => .nil
  | _, _, _ :: _, .nil, h => h.elim
  | _, _, [], .cons (d := none) _ _, h => h.elim
  | _, _, [], .cons (d := some _) _ _, h => h.elim
  | _, _, none :: _, .cons (d := none) _ t, h => .cons True.intro (SD.less t h)
  | _, _, none :: _, .cons (d := some _) _ t, h => .cons True.intro (SD.less t h)
  | _, _, some _ :: _, .cons (d := none) _ _, h => h.elim
  | _, _, some _ :: _, .cons (d := some _) q t, h => .cons (h.1 ▸ q) (SD.less t h.2)
def wipeD (Γ : Env') : List Nat → Env'
  | [] => Γ
  | v :: vs => (wipeD Γ vs).set v none
theorem SD.wipe {σ : L2.St} {Γ : Env'} (h : SD C K H σ Γ) : ∀ vs : List Nat, SD C K H (L2.wipe σ vs) (wipeD Γ vs)
  | [] => h
  | v :: vs => SD.setN v none (SD.wipe h vs)
theorem SD.of_args : ∀ {vs : List V} {ds : List Dt} (n : Nat), RpAll C K H vs ds → SD C K H (vs.map some ++ List.replicate n none) (ds.map some ++ List.replicate n none)
  | _, _, 0, .nil => .nil
  | _, _, n + 1, .nil => by
    show SD C K H (List.replicate (n + 1) none) (List.replicate (n + 1) none)
    rw [List.replicate_succ, List.replicate_succ]
    exact .cons True.intro (SD.of_args n .nil)
  | _, _, n, .cons r t => .cons ⟨_, rfl, r⟩ (SD.of_args n t)
end

/-! ### judgements: what an expression, a test, arguments, statements come to, for all heaps -/
def Evd (C : Addr) (K : PySem.W.Frag) (t : TE) (Γ : Env') (d : Dt) : Prop := ∀ σ H, SD C K H σ Γ → ∀ Q : VK, (∀ v H2, Ex H H2 → Rp C K H2 v d → Q v H2) → t σ H Q
def Evt (C : Addr) (K : PySem.W.Frag) (t : TT) (Γ : Env') (b : Bool) : Prop := ∀ σ H, SD C K H σ Γ → ∀ Q : Bool → Hp → Prop, (∀ H2, Ex H H2 → Q b H2) → t σ H Q
def Eva (C : Addr) (K : PySem.W.Frag) (t : TA) (Γ : Env') (ds : List Dt) : Prop := ∀ σ H, SD C K H σ Γ → ∀ Q : List V → Hp → Prop, (∀ vs H2, Ex H H2 → RpAll C K H2 vs ds → Q vs H2) → t σ H Q
/-- an expression -/
def Dv (C : Addr) (X : Cx) (e : Expr) (Γ : Env') (d : Dt) : Prop := ∃ t, PE X e t ∧ Evd C X.K t Γ d
/-- a test -/
def Dp' (C : Addr) (X : Cx) (e : Expr) (Γ : Env') (b : Bool) : Prop := ∃ t, PT X e t ∧ Evt C X.K t Γ b
/-- a chain of and, or -/
def Dw (C : Addr) (X : Cx) (e : Expr) (Γ : Env') (b : Bool) : Prop := ∃ t, PW X e t ∧ Evt C X.K t Γ b
/-- arguments -/
def Da (C : Addr) (X : Cx) (es : List Expr) (Γ : Env') (ds : List Dt) : Prop := ∃ t, PA X es t ∧ Eva C X.K t Γ ds

/-- how statements end: on, or a return -/
inductive Ot where
  | nx (Γ : Env')
  | rt (d : Dt)
def Evs (C : Addr) (K : PySem.W.Frag) (t : TS) (Γ : Env') (o : Ot) : Prop := ∀ σ H, SD C K H σ Γ → ∀ D : L2.Ends,
  (match o with
    | .nx Γ' => ∀ σ' H', Ex H H' → SD C K H' σ' Γ' → D.nx σ' H'
    | .rt d => ∀ v H', Ex H H' → Rp C K H' v d → D.rt v H') → t D σ H
/-- a block -/
def Ds (C : Addr) (X : Cx) (sts : List Stmt) (Γ : Env') (o : Ot) : Prop := ∃ t, PSs X sts t ∧ Evs C X.K t Γ o
/-- a statement -/
def D1 (C : Addr) (X : Cx) (st : Stmt) (Γ : Env') (o : Ot) : Prop := ∃ t, PS X st t ∧ Evs C X.K t Γ o

/-! ### promises -/
/-- a def of data: where R holds of the arguments and d, it hands back d -/
def spD (C : Addr) (K : PySem.W.Frag) (R : List Dt → Dt → Prop) : Sp := fun vs H Q _ => ∃ ds d, R ds d ∧ RpAll C K H vs ds ∧ ∀ v H2, Ex H H2 → Rp C K H2 v d → Q v H2

/-- a def of the module as its callers see it -/
structure Cal (P : Program) (w : World) (K : PySem.W.Frag) (mg : Str → Option Value) (base : Heap) (k : Nat) (x : Str) (ps : List Str) (sp : Sp) : Prop where
  ex : ∃ f fd, FnOk P w K mg base CX0 k f fd ps sp ∧ mg x = some (.ref f) ∧ PySem.W.keepIn K (.ref f) = true ∧ Binds K fd ps []
abbrev CalD (C : Addr) (P : Program) (w : World) (K : PySem.W.Frag) (mg : Str → Option Value) (base : Heap) (k : Nat) (x : Str) (ps : List Str) (R : List Dt → Dt → Prop) : Prop := Cal P w K mg base k x ps (spD C K R)
/-- a def of the module as it stands in the text -/
structure Top (K : PySem.W.Frag) (mg : Str → Option Value) (x : Str) (st : Stmt) (ps : List Str) : Prop where
  ex : ∃ f fd, Fun K x x st f fd ∧ mg x = some (.ref f) ∧ Binds K fd ps []

section
variable {C : Addr} {P : Program} {w : World} {K : PySem.W.Frag} {mg : Str → Option Value} {base : Heap}
theorem Cal.mono {j k : Nat} {x : Str} {ps : List Str} {sp : Sp} (c : Cal P w K mg base j x ps sp) (h : j ≤ k) : Cal P w K mg base k x ps sp := by
  obtain ⟨f, fd, F, r⟩ := c.ex
  exact ⟨f, fd, F.mono h, r⟩
/-- the context of a def's body -/
abbrev Xd (P : Program) (w : World) (K : PySem.W.Frag) (mg : Str → Option Value) (base : Heap) (N : List Str) (x : Str) (st : Stmt) (f : Addr) (cdv : Value) (A : Around) (outer : List Env) (s : Shared) (H : Hp) (E : XK) : Cx :=
  (cxOf CX0 P w K mg base N x (defScope st) f cdv A outer s H E).nox
abbrev env0 (N : List Str) (ds : List Dt) : Env' := ds.map some ++ List.replicate (N.length - ds.length) none
/-- a def's body, by data -/
theorem Top.ok {x : Str} {st : Stmt} {ps N : List Str} {k : Nat} {R : List Dt → Dt → Prop} (T : Top K mg x st ps) (S : FnScope N ps (defScope st)) (len : ∀ ds d, R ds d → ds.length = ps.length)
    (h : ∀ f cdv A outer s H E, Room k (Xd P w K mg base N x st f cdv A outer s H E).A → ∀ ds d, R ds d → Ds C (Xd P w K mg base N x st f cdv A outer s H E) (defBody st) (env0 N ds) (.rt d)) :
    CalD C P w K mg base (k + 1) x ps R := by
  obtain ⟨f, fd, F, hm, hb⟩ := T.ex
  refine ⟨f, fd, F.ok S (fun vs H Q E h => ?_) (fun cdv A outer s H vs Q E hr h' => ?_), hm, F.kp, hb⟩
  · obtain ⟨ds, d, hR, rp, _⟩ := h
    rw [rp.length, len ds d hR]
  · obtain ⟨ds, d, hR, rp, q⟩ := h'
    obtain ⟨t, p, e⟩ := h f cdv A outer s H E hr ds d hR
    refine ⟨t, p, e _ H ?_ _ q⟩
    unfold L2.start
    rw [rp.length]
    exact SD.of_args _ rp
/-- the same where the body's end is reached: None -/
theorem Top.okN {x : Str} {st : Stmt} {ps N : List Str} {k : Nat} {R : List Dt → Dt → Prop} (T : Top K mg x st ps) (S : FnScope N ps (defScope st)) (len : ∀ ds d, R ds d → ds.length = ps.length)
    (h : ∀ f cdv A outer s H E, Room k (Xd P w K mg base N x st f cdv A outer s H E).A → ∀ ds d, R ds d → d = .non ∧ ∃ Γ, Ds C (Xd P w K mg base N x st f cdv A outer s H E) (defBody st) (env0 N ds) (.nx Γ)) :
    CalD C P w K mg base (k + 1) x ps R := by
  obtain ⟨f, fd, F, hm, hb⟩ := T.ex
  refine ⟨f, fd, F.ok S (fun vs H Q E h => ?_) (fun cdv A outer s H vs Q E hr h' => ?_), hm, F.kp, hb⟩
  · obtain ⟨ds, d, hR, rp, _⟩ := h
    rw [rp.length, len ds d hR]
  · obtain ⟨ds, d, hR, rp, q⟩ := h'
    obtain ⟨rfl, Γ, t, p, e⟩ := h f cdv A outer s H E hr ds d hR
    refine ⟨t, p, e _ H ?_ _ fun σ' H' x _ => q _ _ x .non⟩
    unfold L2.start
    rw [rp.length]
    exact SD.of_args _ rp
end

/-! ### expressions -/
section
variable {C : Addr} {X : Cx} {Γ : Env'} {a b c e : Expr} {es : List Expr} {pos p : Pos} {d da db : Dt} {ds : List Dt}
theorem dv_var (i : Nat) {x : Str} (hN : X.N[i]? = some x) (hd : Γ[i]? = some (some d)) (hv : Vis X.env.scope x := by first | exact Or.inl rfl | exact Or.inr (Or.inl rfl) | exact Or.inr (Or.inr rfl))
    (h1 : (x == ("__debug__" : Str)) = false := by decide) (h2 : (x == ("__classdict__" : Str)) = false := by decide) : Dv C X (.Name x pos) Γ d :=
  ⟨_, pe_var hN hv h1 h2, fun σ H hs Q q => by
    obtain ⟨v, h1, h2⟩ := hs.get hd
    exact ⟨v, h1, q v H (Ex.refl H) h2⟩⟩
theorem dv_int {i : Int} {j} : Dv C X (.Constant (.int i) j pos) Γ (.int i) := ⟨_, pe_int, fun _ H _ _ q => q _ H (Ex.refl H) (.int i)⟩
theorem dv_bl {i : Bool} {j} : Dv C X (.Constant (.bool i) j pos) Γ (.bl i) := ⟨_, pe_bl, fun _ H _ _ q => q _ H (Ex.refl H) (.bl i)⟩
theorem dv_str {i : Str} {j} : Dv C X (.Constant (.str i) j pos) Γ (.str i) := ⟨_, pe_str, fun _ H _ _ q => q _ H (Ex.refl H) (.str i)⟩
theorem dv_non {j} : Dv C X (.Constant .none j pos) Γ .non := ⟨_, pe_non, fun _ H _ _ q => q _ H (Ex.refl H) .non⟩
/-- a module's constant -/
structure Glob (C : Addr) (K : PySem.W.Frag) (mg : Str → Option Value) (x : Str) (d : Dt) : Prop where
  ex : ∃ v u, mg x = some u ∧ RelV v u ∧ ∀ H, Rp C K H v d
theorem dv_glob {x : Str} (g : Glob C X.K X.mg x d) (hg : Gl X x) (hd : (x == ("__debug__" : Str)) = false := by decide) : Dv C X (.Name x pos) Γ d := by
  obtain ⟨v, u, hm, r, hr⟩ := g.ex
  exact ⟨_, pe_glob hg hm r hd, fun _ H _ _ q => q _ H (Ex.refl H) (hr H)⟩
theorem dv_op {op : Operator} {r : R2} (ho : OpR X (binaryOp op) r) (ha : Dv C X a Γ da) (hb : Dv C X b Γ db)
    (hr : ∀ x y H Q, Rp C X.K H x da → Rp C X.K H y db → (∀ v H2, Ex H H2 → Rp C X.K H2 v d → Q v H2) → r x y H Q) : Dv C X (.BinOp a op b pos) Γ d := by
  obtain ⟨ta, pa, ea⟩ := ha
  obtain ⟨tb, pb, eb⟩ := hb
  exact ⟨_, pe_op ho pa pb, fun σ H hs Q q => ea σ H hs _ fun x H1 e1 r1 => eb σ H1 (hs.mono e1) _ fun y H2 e2 r2 => hr x y H2 Q (r1.mono e2) r2 fun v H3 e3 r3 => q v H3 ((e1.trans e2).trans e3) r3⟩
theorem dv_add {i j : Int} (ha : Dv C X a Γ (.int i)) (hb : Dv C X b Γ (.int j)) : Dv C X (.BinOp a .Add b pos) Γ (.int (i + j)) :=
  dv_op op_add ha hb fun _ _ H _ r1 r2 q => by cases r1; cases r2; exact ⟨i, j, rfl, rfl, q _ H (Ex.refl H) (.int _)⟩
theorem dv_sub {i j : Int} (ha : Dv C X a Γ (.int i)) (hb : Dv C X b Γ (.int j)) : Dv C X (.BinOp a .Sub b pos) Γ (.int (i - j)) :=
  dv_op op_sub ha hb fun _ _ H _ r1 r2 q => by cases r1; cases r2; exact ⟨i, j, rfl, rfl, q _ H (Ex.refl H) (.int _)⟩
theorem dv_mul {i j : Int} (ha : Dv C X a Γ (.int i)) (hb : Dv C X b Γ (.int j)) (h : CMulW i j) : Dv C X (.BinOp a .Mult b pos) Γ (.int (i * j)) :=
  dv_op op_mulW ha hb fun _ _ H _ r1 r2 q => by cases r1; cases r2; exact ⟨i, j, rfl, rfl, h, q _ H (Ex.refl H) (.int _)⟩
theorem dv_fdiv {i j : Int} (ha : Dv C X a Γ (.int i)) (hb : Dv C X b Γ (.int j)) (h : CDivW i j) : Dv C X (.BinOp a .FloorDiv b pos) Γ (.int (i / j)) :=
  dv_op op_fdivW ha hb fun _ _ H _ r1 r2 q => by cases r1; cases r2; exact ⟨i, j, rfl, rfl, h, q _ H (Ex.refl H) (.int _)⟩
theorem dv_mod {i j : Int} (ha : Dv C X a Γ (.int i)) (hb : Dv C X b Γ (.int j)) (h : 0 < j) : Dv C X (.BinOp a .Mod b pos) Γ (.int (i % j)) :=
  dv_op op_mod ha hb fun _ _ H _ r1 r2 q => by cases r1; cases r2; exact ⟨i, j, rfl, rfl, h, q _ H (Ex.refl H) (.int _)⟩
theorem dv_un {op : UnaryOp} {r : V → Hp → VK → Prop} (ho : UnR X (unaryOp op) r) (ha : Dv C X a Γ da)
    (hr : ∀ x H Q, Rp C X.K H x da → (∀ v H2, Ex H H2 → Rp C X.K H2 v d → Q v H2) → r x H Q) : Dv C X (.UnaryOp op a pos) Γ d := by
  obtain ⟨ta, pa, ea⟩ := ha
  exact ⟨_, pe_un ho pa, fun σ H hs Q q => ea σ H hs _ fun x H1 e1 r1 => hr x H1 Q r1 fun v H3 e3 r3 => q v H3 (e1.trans e3) r3⟩
theorem dv_neg {i : Int} (ha : Dv C X a Γ (.int i)) : Dv C X (.UnaryOp .USub a pos) Γ (.int (-i)) :=
  dv_un un_neg ha fun _ H _ r1 q => by cases r1; exact ⟨i, rfl, q _ H (Ex.refl H) (.int _)⟩
/-- a comparison of data, by values -/
def CmpD (C : Addr) (X : Cx) (op : CmpOp) (da db : Dt) (k : Bool) : Prop := ∃ r, OpR X (compareOp op) r ∧ ∀ x y H Q, Rp C X.K H x da → Rp C X.K H y db → Q (.bl k) H → r x y H Q
theorem dv_cmp {op : CmpOp} {k : Bool} (ha : Dv C X a Γ da) (hb : Dv C X b Γ db) (h : CmpD C X op da db k) (hm : behindInMarks op b = false) : Dv C X (.Compare a [op] [b] pos) Γ (.bl k) := by
  obtain ⟨ta, pa, ea⟩ := ha
  obtain ⟨tb, pb, eb⟩ := hb
  obtain ⟨r, ho, hr⟩ := h
  exact ⟨_, pe_cmpR ho pa pb hm, fun σ H hs Q q => ea σ H hs _ fun x H1 e1 r1 => eb σ H1 (hs.mono e1) _ fun y H2 e2 r2 => hr x y H2 Q (r1.mono e2) r2 (q _ H2 (e1.trans e2) (.bl k))⟩
theorem dp_cmp {op : CmpOp} {k : Bool} (ha : Dv C X a Γ da) (hb : Dv C X b Γ db) (h : CmpD C X op da db k) (hm : behindInMarks op b = false) : Dp' C X (.Compare a [op] [b] pos) Γ k := by
  obtain ⟨ta, pa, ea⟩ := ha
  obtain ⟨tb, pb, eb⟩ := hb
  obtain ⟨r, ho, hr⟩ := h
  exact ⟨_, pt_cmpR ho pa pb hm, fun σ H hs Q q => ea σ H hs _ fun x H1 e1 r1 => eb σ H1 (hs.mono e1) _ fun y H2 e2 r2 => hr x y H2 _ (r1.mono e2) r2 ⟨k, rfl, q H2 (e1.trans e2)⟩⟩
/-- a < b < c -/
theorem dv_chain {op op' : CmpOp} {k l : Bool} {dc : Dt} (ha : Dv C X a Γ da) (hb : Dv C X b Γ db) (hc : Dv C X c Γ dc) (h : CmpD C X op da db k) (h' : CmpD C X op' db dc l) (hm : lastMarks [op, op'] [b, c] = false) : Dp' C X (.Compare a [op, op'] [b, c] pos) Γ (k && l) := by
  obtain ⟨ta, pa, ea⟩ := ha
  obtain ⟨tb, pb, eb⟩ := hb
  obtain ⟨tc, pc, ec⟩ := hc
  obtain ⟨r, ho, hr⟩ := h
  obtain ⟨r', ho', hr'⟩ := h'
  exact ⟨_, pt_chain ho ho' pa pb pc hm, fun σ H hs Q q => ea σ H hs _ fun x H1 e1 r1 => eb σ H1 (hs.mono e1) _ fun y H2 e2 r2 => hr x y H2 _ (r1.mono e2) r2 ⟨k, rfl, by
    cases k with
    | true => exact iteT (ec σ H2 (hs.mono (e1.trans e2)) _ fun z H3 e3 r3 => hr' y z H3 _ (r2.mono e3) r3 ⟨l, rfl, q H3 ((e1.trans e2).trans e3)⟩)
    | false => exact iteF ⟨false, rfl, q H2 (e1.trans e2)⟩⟩⟩
theorem cd_lt {i j : Int} : CmpD C X .Lt (.int i) (.int j) (decide (i < j)) := ⟨_, op_lt, fun _ _ H _ r1 r2 q => by cases r1; cases r2; exact ⟨i, j, rfl, rfl, q⟩⟩
theorem cd_le {i j : Int} : CmpD C X .LtE (.int i) (.int j) (decide (i ≤ j)) := ⟨_, op_le, fun _ _ H _ r1 r2 q => by cases r1; cases r2; exact ⟨i, j, rfl, rfl, q⟩⟩
theorem cd_gt {i j : Int} : CmpD C X .Gt (.int i) (.int j) (decide (j < i)) := ⟨_, op_gt, fun _ _ H _ r1 r2 q => by cases r1; cases r2; exact ⟨i, j, rfl, rfl, q⟩⟩
theorem cd_ge {i j : Int} : CmpD C X .GtE (.int i) (.int j) (decide (j ≤ i)) := ⟨_, op_ge, fun _ _ H _ r1 r2 q => by cases r1; cases r2; exact ⟨i, j, rfl, rfl, q⟩⟩
theorem cd_eq {i j : Int} : CmpD C X .Eq (.int i) (.int j) (decide (i = j)) := ⟨_, op_eq, fun _ _ H Q r1 r2 q => by
  cases r1; cases r2
  have e : decide (V.int i = V.int j) = decide (i = j) := by simp
  exact ⟨rfl, by rw [e]; exact q⟩⟩
theorem cd_ne {i j : Int} : CmpD C X .NotEq (.int i) (.int j) (!decide (i = j)) := ⟨_, op_ne, fun _ _ H Q r1 r2 q => by
  cases r1; cases r2
  have e : decide (V.int i = V.int j) = decide (i = j) := by simp
  exact ⟨rfl, by rw [e]; exact q⟩⟩
theorem cd_eqS {i j : Str} : CmpD C X .Eq (.str i) (.str j) (decide (i = j)) := ⟨_, op_eq, fun _ _ H Q r1 r2 q => by
  cases r1; cases r2
  have e : decide (V.str i = V.str j) = decide (i = j) := by simp
  exact ⟨rfl, by rw [e]; exact q⟩⟩
theorem cd_neS {i j : Str} : CmpD C X .NotEq (.str i) (.str j) (!decide (i = j)) := ⟨_, op_ne, fun _ _ H Q r1 r2 q => by
  cases r1; cases r2
  have e : decide (V.str i = V.str j) = decide (i = j) := by simp
  exact ⟨rfl, by rw [e]; exact q⟩⟩

mutual
def py : Dt → PyData
  | .non => .none
  | .bl b => .bool b
  | .int i => .int i
  | .str x => .str x
  | .tup xs => .tuple (pys xs)
  | .lst xs => .list (pys xs)
  | _ => .none
def pys : List Dt → List PyData
  | [] => []
  | d :: ds => py d :: pys ds
end
mutual

def pl : Dt → Bool
  | .tup xs => pls xs
  | .lst xs => pls xs
  | .lot _ _ => false
  | .ty _ => false
  | .cls => false
  | .frl _ => false
  | .dic _ => false
  | .ttup _ => false
  | .adr _ => false
  | .tun _ => false
  | _ => true
def pls : List Dt → Bool
  | [] => true
  | d :: ds => pl d && pls ds
end
mutual
theorem Rp.dp {K : PySem.W.Frag} {H : Hp} : ∀ {v : V} {d : Dt}, Rp C K H v d → pl d = true → L2.Dp K H v (py d)
  | _, _, .non, _ => by rw [py]; exact .non
  | _, _, .bl b, _ => by rw [py]; exact .bl b
  | _, _, .int i, _ => by rw [py]; exact .int i
  | _, _, .str x, _ => by rw [py]; exact .str x
  | _, _, .tup h r, p => by rw [py]; rw [pl] at p; exact .tup h (RpAll.dp r p)
  | _, _, .lst h r, p => by rw [py]; rw [pl] at p; exact .lst (.inl (.inl h)) (RpAll.dp r p)
  | _, _, .lot .., p => by rw [pl] at p; cases p
  | _, _, .ty _, p => by rw [pl] at p; cases p
  | _, _, .cls, p => by rw [pl] at p; cases p
  | _, _, .frl .., p => by rw [pl] at p; cases p
  | _, _, .dic .., p => by rw [pl] at p; cases p
  | _, _, .ttup .., p => by rw [pl] at p; cases p
  | _, _, .adr .., p => by rw [pl] at p; cases p
  | _, _, .tun .., p => by rw [pl] at p; cases p
theorem RpAll.dp {K : PySem.W.Frag} {H : Hp} : ∀ {vs : List V} {ds : List Dt}, RpAll C K H vs ds → pls ds = true → L2.DpAll K H vs (pys ds)
  | _, _, .nil, _ => by rw [pys]; exact .nil
  | _, _, .cons h r, p => by
    rw [pls, Bool.and_eq_true] at p
    rw [pys]
    exact .cons (Rp.dp h p.1) (RpAll.dp r p.2)
end
theorem cd_eqD {k : Bool} (hu : X.A.units + 64 < cLine) (pa : pl da = true) (pb : pl db = true) (sa : SeqAt.shaped (py da) = true) (sb : SeqAt.shaped (py db) = true) (e : PyData.eqv (py da) (py db) = k) : CmpD C X .Eq da db k :=
  ⟨_, op_eqD hu, fun _ _ H Q r1 r2 q => ⟨_, _, r1.dp pa, r2.dp pb, sa, sb, by rw [e]; exact q⟩⟩
theorem cd_neD {k : Bool} (hu : X.A.units + 64 < cLine) (pa : pl da = true) (pb : pl db = true) (sa : SeqAt.shaped (py da) = true) (sb : SeqAt.shaped (py db) = true) (e : PyData.eqv (py da) (py db) = k) : CmpD C X .NotEq da db (!k) :=
  ⟨_, op_neD hu, fun _ _ H Q r1 r2 q => ⟨_, _, r1.dp pa, r2.dp pb, sa, sb, by rw [e]; exact q⟩⟩
/-- flat data -/
def fl : Dt → V
  | .bl b => .bl b
  | .int i => .int i
  | .str x => .str x
  | _ => .non
def isFl : Dt → Bool
  | .non | .bl _ | .int _ | .str _ => true
  | _ => false
theorem Rp.fl {K : PySem.W.Frag} {H : Hp} {v : V} {d : Dt} (r : Rp C K H v d) (h : isFl d = true) : v = K28.fl d := by
  cases r <;> first | rfl | cases h
theorem isFl_flat {d : Dt} (h : isFl d = true) : flatV (K28.fl d) = true := by
  cases d <;> first | rfl | cases h
theorem RpAll.fl {K : PySem.W.Frag} {H : Hp} : ∀ {vs : List V} {ds : List Dt}, RpAll C K H vs ds → ds.all isFl = true → vs = ds.map K28.fl
  | _, _, .nil, _ => rfl
  | _, _, .cons r t, h => by
    have hh := (Bool.and_eq_true_iff.mp (List.all_cons ▸ h))
    rw [List.map_cons, r.fl hh.1, RpAll.fl t hh.2]
theorem all_flat : ∀ {ds : List Dt}, ds.all isFl = true → (ds.map K28.fl).all flatV = true
  | [], _ => rfl
  | d :: ds, h => by
    have hh := (Bool.and_eq_true_iff.mp (List.all_cons ▸ h))
    rw [List.map_cons, List.all_cons, isFl_flat hh.1, all_flat hh.2]
    rfl
theorem cd_in {k : Bool} (h : isFl da = true) (hs : ds.all isFl = true) (e : inV (K28.fl da) (ds.map K28.fl) = k) : CmpD C X .In da (.tup ds) k := ⟨_, op_in_seq, fun _ _ H Q r1 r2 q => by
  cases r2 with
  | tup hx rx =>
    rw [RpAll.fl rx hs] at hx
    exact ⟨_, _, rfl, .inr hx, by rw [r1.fl h]; exact isFl_flat h, all_flat hs, by rw [r1.fl h, if_neg Bool.false_ne_true, e]; exact q⟩⟩
theorem cd_notIn {k : Bool} (h : isFl da = true) (hs : ds.all isFl = true) (e : (!inV (K28.fl da) (ds.map K28.fl)) = k) : CmpD C X .NotIn da (.tup ds) k := ⟨_, op_notIn_seq, fun _ _ H Q r1 r2 q => by
  cases r2 with
  | tup hx rx =>
    rw [RpAll.fl rx hs] at hx
    exact ⟨_, _, rfl, .inr hx, by rw [r1.fl h]; exact isFl_flat h, all_flat hs, by rw [r1.fl h, if_pos rfl, e]; exact q⟩⟩
/-! tests -/
theorem dp_val {k : Bool} (h : Dv C X e Γ (.bl k)) (he : ∀ whole, isTrue e X.env whole = (do let v ← whole; standAt e.pos; holding [v] (truthy v)) := by intro _; rfl) : Dp' C X e Γ k := by
  obtain ⟨t, p, ev⟩ := h
  exact ⟨_, pt_val p he, fun σ H hs Q q => ev σ H hs _ fun v H1 e1 r => by cases r; exact ⟨k, rfl, q H1 e1⟩⟩
theorem dp_w {k : Bool} (h : Dw C X e Γ k) : Dp' C X e Γ k := let ⟨t, p, ev⟩ := h; ⟨t, p.pt, ev⟩
theorem dw_and1 {k : Bool} (h : Dp' C X a Γ k) : Dw C X (.BoolOp .And [a] pos) Γ k := let ⟨t, p, ev⟩ := h; ⟨t, pw_and1 p, ev⟩
theorem dw_or1 {k : Bool} (h : Dp' C X a Γ k) : Dw C X (.BoolOp .Or [a] pos) Γ k := let ⟨t, p, ev⟩ := h; ⟨t, pw_or1 p, ev⟩
theorem dw_and {k l : Bool} (ha : Dp' C X a Γ k) (hb : k = true → Dw C X (.BoolOp .And (b :: es) pos) Γ l) : Dw C X (.BoolOp .And (a :: b :: es) pos) Γ (k && l) := by
  obtain ⟨ta, pa, ea⟩ := ha
  cases k with
  | true =>
    obtain ⟨tb, pb, eb⟩ := hb rfl
    exact ⟨_, pw_and pa pb, fun σ H hs Q q => ea σ H hs _ fun H1 e1 => eb σ H1 (hs.mono e1) _ fun H2 e2 => q H2 (e1.trans e2)⟩
  | false =>
    -- what stands behind is not asked
    have never : ∀ rest : List Expr, ∃ tb, PW X (.BoolOp .And (b :: rest) pos) tb := fun rest => ⟨fun _ _ _ => False, ⟨fun _ _ _ _ _ _ _ h => h.elim⟩⟩
    obtain ⟨tb, pb⟩ := never es
    exact ⟨_, pw_and pa pb, fun σ H hs Q q => ea σ H hs _ fun H1 e1 => q H1 e1⟩
theorem dw_or {k l : Bool} (ha : Dp' C X a Γ k) (hb : k = false → Dw C X (.BoolOp .Or (b :: es) pos) Γ l) : Dw C X (.BoolOp .Or (a :: b :: es) pos) Γ (k || l) := by
  obtain ⟨ta, pa, ea⟩ := ha
  cases k with
  | false =>
    obtain ⟨tb, pb, eb⟩ := hb rfl
    exact ⟨_, pw_or pa pb, fun σ H hs Q q => ea σ H hs _ fun H1 e1 => eb σ H1 (hs.mono e1) _ fun H2 e2 => q H2 (e1.trans e2)⟩
  | true =>
    exact ⟨_, pw_or pa (show PW X (.BoolOp .Or (b :: es) pos) (fun _ _ _ => False) from ⟨fun _ _ _ _ _ _ _ h => h.elim⟩), fun σ H hs Q q => ea σ H hs _ fun H1 e1 => q H1 e1⟩
theorem dp_not {k : Bool} (h : Dp' C X a Γ k) : Dp' C X (.UnaryOp .Not a pos) Γ (!k) := by
  obtain ⟨t, p, ev⟩ := h
  exact ⟨_, pt_not p, fun σ H hs Q q => ev σ H hs _ fun H1 e1 => q H1 e1⟩
/-! and, or, not of truth values as values -/
theorem dv_one {op} (h : Dv C X a Γ d) : Dv C X (.BoolOp op [a] pos) Γ d := let ⟨t, p, ev⟩ := h; ⟨t, pe_one p, ev⟩
theorem dv_and {k l : Bool} (ha : Dv C X a Γ (.bl k)) (hb : k = true → Dv C X (.BoolOp .And (b :: es) pos) Γ (.bl l)) : Dv C X (.BoolOp .And (a :: b :: es) pos) Γ (.bl (k && l)) := by
  obtain ⟨ta, pa, ea⟩ := ha
  cases k with
  | true =>
    obtain ⟨tb, pb, eb⟩ := hb rfl
    exact ⟨_, pe_and pa pb, fun σ H hs Q q => ea σ H hs _ fun x H1 e1 r => by cases r; exact ⟨true, rfl, iteT (eb σ H1 (hs.mono e1) _ fun v H2 e2 r2 => q v H2 (e1.trans e2) r2)⟩⟩
  | false =>
    exact ⟨_, pe_and pa (show PE X (.BoolOp .And (b :: es) pos) (fun _ _ _ => False) from ⟨fun _ _ _ _ _ _ h => h.elim⟩), fun σ H hs Q q => ea σ H hs _ fun x H1 e1 r => by cases r; exact ⟨false, rfl, iteF (q _ H1 e1 (.bl false))⟩⟩
theorem dv_or {k l : Bool} (ha : Dv C X a Γ (.bl k)) (hb : k = false → Dv C X (.BoolOp .Or (b :: es) pos) Γ (.bl l)) : Dv C X (.BoolOp .Or (a :: b :: es) pos) Γ (.bl (k || l)) := by
  obtain ⟨ta, pa, ea⟩ := ha
  cases k with
  | false =>
    obtain ⟨tb, pb, eb⟩ := hb rfl
    exact ⟨_, pe_or pa pb, fun σ H hs Q q => ea σ H hs _ fun x H1 e1 r => by cases r; exact ⟨false, rfl, iteF (eb σ H1 (hs.mono e1) _ fun v H2 e2 r2 => q v H2 (e1.trans e2) r2)⟩⟩
  | true =>
    exact ⟨_, pe_or pa (show PE X (.BoolOp .Or (b :: es) pos) (fun _ _ _ => False) from ⟨fun _ _ _ _ _ _ h => h.elim⟩), fun σ H hs Q q => ea σ H hs _ fun x H1 e1 r => by cases r; exact ⟨true, rfl, iteT (q _ H1 e1 (.bl true))⟩⟩
theorem dv_not {k : Bool} (ha : Dv C X a Γ (.bl k)) : Dv C X (.UnaryOp .Not a pos) Γ (.bl (!k)) := by
  obtain ⟨ta, pa, ea⟩ := ha
  exact ⟨_, pe_not pa, fun σ H hs Q q => ea σ H hs _ fun x H1 e1 r => by cases r; exact ⟨k, rfl, q _ H1 e1 (.bl _)⟩⟩
theorem dv_if {k : Bool} (hc : Dp' C X c Γ k) (ha : k = true → Dv C X a Γ d) (hb : k = false → Dv C X b Γ d) : Dv C X (.IfExp c a b pos) Γ d := by
  obtain ⟨tc, pc, ec⟩ := hc
  have never : ∀ e : Expr, PE X e (fun _ _ _ => False) := fun e => ⟨fun _ _ _ _ _ _ h => h.elim⟩
  cases k with
  | true =>
    obtain ⟨ta, pa, ea⟩ := ha rfl
    exact ⟨_, pe_ifExp pc pa (never b), fun σ H hs Q q => ec σ H hs _ fun H1 e1 => iteT (ea σ H1 (hs.mono e1) _ fun v H2 e2 r2 => q v H2 (e1.trans e2) r2)⟩
  | false =>
    obtain ⟨tb, pb, eb⟩ := hb rfl
    exact ⟨_, pe_ifExp pc (never a) pb, fun σ H hs Q q => ec σ H hs _ fun H1 e1 => iteF (eb σ H1 (hs.mono e1) _ fun v H2 e2 r2 => q v H2 (e1.trans e2) r2)⟩
/-! arguments, displays -/
theorem da_nil : Da C X [] Γ [] := ⟨_, pa_nil, fun _ H _ _ q => q [] H (Ex.refl H) .nil⟩
theorem da_cons (ha : Dv C X e Γ d) (hr : Da C X es Γ ds) (hs : starEach (e :: es) X.env = (false, eval e X.env) :: starEach es X.env := by rfl) : Da C X (e :: es) Γ (d :: ds) := by
  obtain ⟨ta, pa, ea⟩ := ha
  obtain ⟨tb, pb, eb⟩ := hr
  exact ⟨_, pa_cons pa pb hs, fun σ H h Q q => ea σ H h _ fun v H1 e1 r1 => eb σ H1 (h.mono e1) _ fun vs H2 e2 r2 => q _ H2 (e1.trans e2) (.cons (r1.mono e2) r2)⟩
/-- *e among arguments, e a tuple or list -/
theorem da_star {p : Pos} {us : List Dt} (ha : Dv C X e Γ (.tup us)) (hr : Da C X es Γ ds) (hs : starEach (.Starred e p :: es) X.env = (true, eval e X.env) :: starEach es X.env := by rfl) : Da C X (.Starred e p :: es) Γ (us ++ ds) := by
  obtain ⟨ta, pa, ea⟩ := ha
  obtain ⟨tb, pb, eb⟩ := hr
  exact ⟨_, StX.pa_star pa pb hs, fun σ H h Q q => ea σ H h _ fun v H1 e1 r1 => by
    cases r1 with
    | tup hx rx => exact ⟨_, _, rfl, .inl hx, eb σ H1 (h.mono e1) _ fun vs H2 e2 r2 => q _ H2 (e1.trans e2) ((rx.mono e2).append r2)⟩⟩
theorem dv_tup {k} (h : Da C X es Γ ds) (hl : ds.length ≤ 1000 := by first | decide | (simp; done) | omega) : Dv C X (.Tuple es k pos) Γ (.tup ds) := by
  obtain ⟨ta, pa, ea⟩ := h
  exact ⟨_, pe_tup pa, fun σ H hs Q q => ea σ H hs _ fun vs H1 e1 r => ⟨by rw [r.length]; exact Nat.le_trans hl (by decide), fun p hp => q _ _ (e1.trans (Ex.new hp)) (.tup (.inl (.inl upd_same)) (r.mono (Ex.new hp)))⟩⟩
theorem dv_lst (h : Da C X es Γ ds) (hl : ds.length ≤ 1000 := by first | decide | (simp; done) | omega) : Dv C X (.List es pos) Γ (.lst ds) := by
  obtain ⟨ta, pa, ea⟩ := h
  exact ⟨_, pe_lst pa, fun σ H hs Q q => ea σ H hs _ fun vs H1 e1 r => ⟨by rw [r.length]; exact Nat.le_trans hl (by decide), fun p hp => q _ _ (e1.trans (Ex.new hp)) (.lst upd_same (r.mono (Ex.new hp)))⟩⟩
/-! subscripts -/
theorem plainIx_int {i : Int} {j} {p : Pos} : PlainIx (.Constant (.int i) j p) := fun _ _ => rfl
theorem RpAll.atI {K : PySem.W.Frag} {H : Hp} {vs : List V} {ds : List Dt} (r : RpAll C K H vs ds) {i : Int} {d : Dt} (h : L2.atI ds i = some d) : ∃ v, L2.atI vs i = some v ∧ Rp C K H v d := by
  unfold L2.atI at h ⊢
  rw [r.length]
  cases e : ixN ds.length i with
  | none => exact absurd h (by rw [e]; intro z; cases z)
  | some j =>
    rw [e] at h
    exact r.get h
theorem dv_ixT {i : Int} (ha : Dv C X a Γ (.tup ds)) (hb : Dv C X b Γ (.int i)) (h : L2.atI ds i = some d) (hp : PlainIx b := by exact fun _ _ => rfl) : Dv C X (.Subscript a b pos) Γ d := by
  obtain ⟨ta, pa, ea⟩ := ha
  obtain ⟨tb, pb, eb⟩ := hb
  exact ⟨_, pe_ix ix_tup pa pb hp, fun σ H hs Q q => ea σ H hs _ fun x H1 e1 r1 => eb σ H1 (hs.mono e1) _ fun y H2 e2 r2 => by
    cases r2
    cases r1 with
    | tup hx rx =>
      obtain ⟨v, h1, h2⟩ := RpAll.atI rx h
      exact ⟨_, _, i, v, rfl, rfl, ex_t e2 hx, h1, q v H2 (e1.trans e2) (h2.mono e2)⟩⟩
theorem dv_ixL {i : Int} (ha : Dv C X a Γ (.lst ds)) (hb : Dv C X b Γ (.int i)) (h : L2.atI ds i = some d) (hp : PlainIx b := by exact fun _ _ => rfl) : Dv C X (.Subscript a b pos) Γ d := by
  obtain ⟨ta, pa, ea⟩ := ha
  obtain ⟨tb, pb, eb⟩ := hb
  exact ⟨_, pe_ix ix_list pa pb hp, fun σ H hs Q q => ea σ H hs _ fun x H1 e1 r1 => eb σ H1 (hs.mono e1) _ fun y H2 e2 r2 => by
    cases r2
    cases r1 with
    | lst hx rx =>
      obtain ⟨v, h1, h2⟩ := RpAll.atI rx h
      exact ⟨_, _, i, v, rfl, rfl, .inl (.inl (e2 _ _ hx)), h1, q v H2 (e1.trans e2) (h2.mono e2)⟩⟩
theorem dv_ixF {i : Int} (ha : Dv C X a Γ (.frl ds)) (hb : Dv C X b Γ (.int i)) (h : L2.atI ds i = some d) (hp : PlainIx b := by exact fun _ _ => rfl) : Dv C X (.Subscript a b pos) Γ d := by
  obtain ⟨ta, pa, ea⟩ := ha
  obtain ⟨tb, pb, eb⟩ := hb
  exact ⟨_, pe_ix ix_list pa pb hp, fun σ H hs Q q => ea σ H hs _ fun x H1 e1 r1 => eb σ H1 (hs.mono e1) _ fun y H2 e2 r2 => by
    cases r2
    cases r1 with
    | frl hx rx =>
      obtain ⟨v, h1, h2⟩ := RpAll.atI rx h
      exact ⟨_, _, i, v, rfl, rfl, ex_l e2 hx, h1, q v H2 (e1.trans e2) (h2.mono e2)⟩⟩
end
end K28
set_option Elab.async false
set_option linter.all false
set_option maxRecDepth 100000
namespace K28
open PySem PySem.Spec PyProof.Rows L2 Evl

/-! ### slices -/
def cutD (xs : List Dt) (lo hi : Option Int) : List Dt := (xs.drop (HT.sIx xs.length 0 lo)).take (HT.sIx xs.length xs.length hi - HT.sIx xs.length 0 lo)
theorem RpAll.cut {C : Addr} {K : PySem.W.Frag} {H : Hp} {vs : List V} {ds : List Dt} (r : RpAll C K H vs ds) (lo hi : Option Int) : RpAll C K H (cutV vs lo hi) (cutD ds lo hi) := by
  unfold cutV cutD
  rw [r.length]
  exact RpAll.take _ (RpAll.drop _ r)
def Evo (C : Addr) (K : PySem.W.Frag) (t : TO) (Γ : Env') (o : Option Int) : Prop := ∀ σ H, SD C K H σ Γ → ∀ Q : Option Int → Hp → Prop, (∀ H2, Ex H H2 → Q o H2) → t σ H Q
def Do (C : Addr) (X : Cx) (e : Option Expr) (Γ : Env') (o : Option Int) : Prop := ∃ t, PO X e t ∧ Evo C X.K t Γ o
section
variable {C : Addr} {X : Cx} {Γ : Env'} {a b c e : Expr} {es : List Expr} {pos p p2 : Pos} {d da db : Dt} {ds us : List Dt} {lo hi : Option Expr} {l h : Option Int}
theorem do_none : Do C X none Γ none := ⟨_, po_none, fun _ H _ _ q => q H (Ex.refl H)⟩
theorem do_some {i : Int} (he : Dv C X e Γ (.int i)) : Do C X (some e) Γ (some i) := by
  obtain ⟨t, p, ev⟩ := he
  exact ⟨_, po_some p, fun σ H hs Q q => ev σ H hs _ fun v H1 e1 r => by cases r; exact ⟨i, rfl, q H1 e1⟩⟩
theorem dv_slL (ha : Dv C X a Γ (.lst ds)) (hl : Do C X lo Γ l) (hh : Do C X hi Γ h) : Dv C X (.Subscript a (.Slice lo hi none p2) pos) Γ (.lst (cutD ds l h)) := by
  obtain ⟨ta, pa, ea⟩ := ha
  obtain ⟨tl, pl, el⟩ := hl
  obtain ⟨th, ph, eh⟩ := hh
  exact ⟨_, pe_slice sl_list pa pl ph, fun σ H hs Q q => ea σ H hs _ fun x H1 e1 r1 => el σ H1 (hs.mono e1) _ fun H2 e2 => eh σ H2 (hs.mono (e1.trans e2)) _ fun H3 e3 => by
    cases r1 with
    | lst hx rx => exact ⟨_, _, rfl, .inl (.inl ((e2.trans e3) _ _ hx)), fun p hp => q _ _ (((e1.trans e2).trans e3).trans (Ex.new hp)) (.lst upd_same ((rx.mono ((e2.trans e3).trans (Ex.new hp))).cut l h))⟩⟩
theorem dv_slF (ha : Dv C X a Γ (.frl ds)) (hl : Do C X lo Γ l) (hh : Do C X hi Γ h) : Dv C X (.Subscript a (.Slice lo hi none p2) pos) Γ (.lst (cutD ds l h)) := by
  obtain ⟨ta, pa, ea⟩ := ha
  obtain ⟨tl, pl, el⟩ := hl
  obtain ⟨th, ph, eh⟩ := hh
  exact ⟨_, pe_slice sl_list pa pl ph, fun σ H hs Q q => ea σ H hs _ fun x H1 e1 r1 => el σ H1 (hs.mono e1) _ fun H2 e2 => eh σ H2 (hs.mono (e1.trans e2)) _ fun H3 e3 => by
    cases r1 with
    | frl hx rx => exact ⟨_, _, rfl, ex_l (e2.trans e3) hx, fun p hp => q _ _ (((e1.trans e2).trans e3).trans (Ex.new hp)) (.lst upd_same ((rx.mono ((e2.trans e3).trans (Ex.new hp))).cut l h))⟩⟩
theorem dv_slT (ha : Dv C X a Γ (.tup ds)) (hl : Do C X lo Γ l) (hh : Do C X hi Γ h) : Dv C X (.Subscript a (.Slice lo hi none p2) pos) Γ (.tup (cutD ds l h)) := by
  obtain ⟨ta, pa, ea⟩ := ha
  obtain ⟨tl, pl, el⟩ := hl
  obtain ⟨th, ph, eh⟩ := hh
  exact ⟨_, pe_slice sl_tupA pa pl ph, fun σ H hs Q q => ea σ H hs _ fun x H1 e1 r1 => el σ H1 (hs.mono e1) _ fun H2 e2 => eh σ H2 (hs.mono (e1.trans e2)) _ fun H3 e3 => by
    cases r1 with
    | tup hx rx =>
      refine ⟨_, _, rfl, ex_t (e2.trans e3) hx, fun hw => ?_, fun _ p hp => q _ _ (((e1.trans e2).trans e3).trans (Ex.new hp)) (.tup (.inl (.inl upd_same)) ((rx.mono ((e2.trans e3).trans (Ex.new hp))).cut l h))⟩
      refine q _ _ ((e1.trans e2).trans e3) (.tup (ex_t (e2.trans e3) hx) ?_)
      have e := (rx.mono (e2.trans e3)).cut l h
      unfold cutV at e
      rw [hw.1, hw.2] at e
      simpa using e⟩

/-! ### calls of what is built in -/
/-- a call by values on data -/
def CallD (C : Addr) (X : Cx) (f : Value) (ds : List Dt) (d : Dt) : Prop := ∃ r, CallR X f r ∧ ∀ vs H Q, RpAll C X.K H vs ds → (∀ v H2, Ex H H2 → Rp C X.K H2 v d → Q v H2) → r vs H Q
theorem dv_callB {id : String} {x : Str} (hc : CallD C X (.builtin id) ds d) (hm : X.mg x = none) (hv : bootBuiltins x = some (.builtin id)) (ha : Da C X (e :: es) Γ ds) (hg : Gl X x := by rfl) (hn : x ≠ "__name__" := by decide) (hdb : (x == ("__debug__" : Str)) = false := by decide)
    (he : starEach (e :: es) X.env = (false, eval e X.env) :: starEach es X.env := by rfl) (hpl : (backTo pos (starEach es X.env)).any (·.1) = false := by rfl) : Dv C X (.Call (.Name x p) (e :: es) [] pos) Γ d := by
  obtain ⟨ta, pa, ea⟩ := ha
  obtain ⟨r, hr, hd⟩ := hc
  exact ⟨_, pe_callB hr hg hm hv pa hn hdb he hpl, fun σ H hs Q q => ea σ H hs _ fun vs H1 e1 r1 => hd vs H1 Q r1 fun v H2 e2 r2 => q v H2 (e1.trans e2) r2⟩
theorem dv_callTy {T : String} {x : Str} (hc : CallD C X (.type T) ds d) (hm : X.mg x = none) (hv : bootBuiltins x = some (.type T)) (ha : Da C X (e :: es) Γ ds) (hg : Gl X x := by rfl) (hn : x ≠ "__name__" := by decide) (hdb : (x == ("__debug__" : Str)) = false := by decide)
    (he : starEach (e :: es) X.env = (false, eval e X.env) :: starEach es X.env := by rfl) (hpl : (backTo pos (starEach es X.env)).any (·.1) = false := by rfl) : Dv C X (.Call (.Name x p) (e :: es) [] pos) Γ d := by
  obtain ⟨ta, pa, ea⟩ := ha
  obtain ⟨r, hr, hd⟩ := hc
  exact ⟨_, pe_callTy hr hg hm hv pa hn hdb he hpl, fun σ H hs Q q => ea σ H hs _ fun vs H1 e1 r1 => hd vs H1 Q r1 fun v H2 e2 r2 => q v H2 (e1.trans e2) r2⟩
theorem dv_callBf {id : String} {x : Str} (hc : CallD C X (.builtin id) ds d) (hm : X.mg x = some (.builtin id)) (ha : Da C X (e :: es) Γ ds) (hg : Gl X x := by rfl) (hdb : (x == ("__debug__" : Str)) = false := by decide)
    (he : starEach (e :: es) X.env = (false, eval e X.env) :: starEach es X.env := by rfl) (hpl : (backTo pos (starEach es X.env)).any (·.1) = false := by rfl) : Dv C X (.Call (.Name x p) (e :: es) [] pos) Γ d := by
  obtain ⟨ta, pa, ea⟩ := ha
  obtain ⟨r, hr, hd⟩ := hc
  exact ⟨_, pe_callBfun hr hg hm pa hdb he hpl, fun σ H hs Q q => ea σ H hs _ fun vs H1 e1 r1 => hd vs H1 Q r1 fun v H2 e2 r2 => q v H2 (e1.trans e2) r2⟩
/-- a built-in class's name -/
theorem dv_ty {x : Str} {T : String} (hm : X.mg x = none) (hv : bootBuiltins x = some (.type T)) (hg : Gl X x := by rfl) (hn : x ≠ "__name__" := by decide) (hd : (x == ("__debug__" : Str)) = false := by decide) : Dv C X (.Name x pos) Γ (.ty T) :=
  ⟨_, pe_bltn (v := .ty T) hg hm hv rfl hn hd, fun _ H _ _ q => q _ H (Ex.refl H) (.ty T)⟩
theorem dv_cls {x : Str} (hm : X.mg x = some (.ref C)) (hg : Gl X x := by rfl) (hd : (x == ("__debug__" : Str)) = false := by decide) : Dv C X (.Name x pos) Γ .cls :=
  ⟨_, pe_glob (v := .ref C) hg hm rfl hd, fun _ H _ _ q => q _ H (Ex.refl H) .cls⟩
theorem RpAll.one {K : PySem.W.Frag} {H : Hp} {vs : List V} (r : RpAll C K H vs [d]) : ∃ v, vs = [v] ∧ Rp C K H v d := by
  cases r with
  | cons h t => cases t; exact ⟨_, rfl, h⟩
theorem RpAll.two {K : PySem.W.Frag} {H : Hp} {vs : List V} (r : RpAll C K H vs [da, db]) : ∃ v u, vs = [v, u] ∧ Rp C K H v da ∧ Rp C K H u db := by
  cases r with
  | cons h t =>
    obtain ⟨u, rfl, h2⟩ := RpAll.one t
    exact ⟨_, _, rfl, h, h2⟩
theorem cb_lenT : CallD C X (.builtin "len") [.tup us] (.int (us.length : Int)) := ⟨_, call_len_seq, fun vs H Q r q => by
  obtain ⟨v, rfl, r1⟩ := r.one
  cases r1 with
  | tup hx rx => exact ⟨_, _, rfl, .inr hx, by rw [rx.length]; exact q _ H (Ex.refl H) (.int _)⟩⟩
theorem cb_lenL : CallD C X (.builtin "len") [.lst us] (.int (us.length : Int)) := ⟨_, call_len_seq, fun vs H Q r q => by
  obtain ⟨v, rfl, r1⟩ := r.one
  cases r1 with
  | lst hx rx => exact ⟨_, _, rfl, .inl (.inl (.inl hx)), by rw [rx.length]; exact q _ H (Ex.refl H) (.int _)⟩⟩
theorem cb_lenF : CallD C X (.builtin "len") [.frl us] (.int (us.length : Int)) := ⟨_, call_len_seq, fun vs H Q r q => by
  obtain ⟨v, rfl, r1⟩ := r.one
  cases r1 with
  | frl hx rx => exact ⟨_, _, rfl, .inl hx, by rw [rx.length]; exact q _ H (Ex.refl H) (.int _)⟩⟩
theorem cb_tupL : CallD C X (.type "tuple") [.lst us] (.tup us) := ⟨_, call_tuple_of, fun vs H Q r q => by
  obtain ⟨v, rfl, r1⟩ := r.one
  cases r1 with
  | lst hx rx => exact ⟨_, _, rfl, .inl ⟨.inl (.inl hx), fun p hp => q _ _ (Ex.new hp) (.tup (.inl (.inl upd_same)) (rx.mono (Ex.new hp)))⟩⟩⟩
theorem cb_lstL : CallD C X (.type "list") [.lst us] (.lst us) := ⟨_, call_list_of, fun vs H Q r q => by
  obtain ⟨v, rfl, r1⟩ := r.one
  cases r1 with
  | lst hx rx => exact ⟨_, _, rfl, .inl (.inl (.inl hx)), fun p hp => q _ _ (Ex.new hp) (.lst upd_same (rx.mono (Ex.new hp)))⟩⟩
theorem cb_lstT : CallD C X (.type "list") [.tup us] (.lst us) := ⟨_, call_list_of, fun vs H Q r q => by
  obtain ⟨v, rfl, r1⟩ := r.one
  cases r1 with
  | tup hx rx => exact ⟨_, _, rfl, .inr hx, fun p hp => q _ _ (Ex.new hp) (.lst upd_same (rx.mono (Ex.new hp)))⟩⟩
theorem cb_all {bs : List Bool} (hc : X.calm = true) : CallD C X (.builtin "all") [.lst (bs.map .bl)] (.bl (bs.all id)) := ⟨_, cr_all hc, fun vs H Q r q => by
  obtain ⟨v, rfl, r1⟩ := r.one
  cases r1 with
  | lst hx rx =>
    rw [RpAll.bools rx] at hx
    exact ⟨_, bs, rfl, .inl (.inl hx), q _ H (Ex.refl H) (.bl _)⟩⟩
theorem cb_any {bs : List Bool} (hc : X.calm = true) : CallD C X (.builtin "any") [.lst (bs.map .bl)] (.bl (bs.any id)) := ⟨_, cr_any hc, fun vs H Q r q => by
  obtain ⟨v, rfl, r1⟩ := r.one
  cases r1 with
  | lst hx rx =>
    rw [RpAll.bools rx] at hx
    exact ⟨_, bs, rfl, .inl (.inl hx), q _ H (Ex.refl H) (.bl _)⟩⟩
theorem cb_sum {ns : List Int} (hc : X.calm = true) : CallD C X (.builtin "sum") [.lst (ns.map .int)] (.int ns.sum) := ⟨_, cr_sum hc, fun vs H Q r q => by
  obtain ⟨v, rfl, r1⟩ := r.one
  cases r1 with
  | lst hx rx =>
    rw [RpAll.ints rx] at hx
    exact ⟨_, ns, rfl, .inl (.inl hx), q _ H (Ex.refl H) (.int _)⟩⟩
theorem cb_int {i : Int} : CallD C X (.type "int") [.int i] (.int i) := ⟨_, call_int1, fun vs H Q r q => by
  obtain ⟨v, rfl, r1⟩ := r.one
  cases r1
  exact .inl ⟨i, rfl, q _ H (Ex.refl H) (.int _)⟩⟩
theorem cb_abs {i : Int} : CallD C X (.builtin "abs") [.int i] (.int (if i < 0 then -i else i)) := ⟨_, call_abs, fun vs H Q r q => by
  obtain ⟨v, rfl, r1⟩ := r.one
  cases r1
  exact ⟨i, rfl, q _ H (Ex.refl H) (.int _)⟩⟩
theorem cb_max2 {i j : Int} (hc : X.calm = true) : CallD C X (.builtin "max") [.int i, .int j] (.int (if j > i then j else i)) := ⟨_, call_max2 hc, fun vs H Q r q => by
  obtain ⟨v, u, rfl, r1, r2⟩ := r.two
  cases r1; cases r2
  exact ⟨i, j, rfl, q _ H (Ex.refl H) (.int _)⟩⟩
theorem cb_min2 {i j : Int} (hc : X.calm = true) : CallD C X (.builtin "min") [.int i, .int j] (.int (if j < i then j else i)) := ⟨_, call_min2 hc, fun vs H Q r q => by
  obtain ⟨v, u, rfl, r1, r2⟩ := r.two
  cases r1; cases r2
  exact ⟨i, j, rfl, q _ H (Ex.refl H) (.int _)⟩⟩
theorem cb_gcd {i j : Int} : CallD C X (.builtin "math.gcd") [.int i, .int j] (.int ((Nat.gcd i.natAbs j.natAbs : Nat) : Int)) := ⟨_, cr_gcd, fun vs H Q r q => by
  obtain ⟨v, u, rfl, r1, r2⟩ := r.two
  cases r1; cases r2
  exact ⟨i, j, rfl, q _ H (Ex.refl H) (.int _)⟩⟩
/-- the built-in class of data -/
def tyD : Dt → Option String
  | .non => some "NoneType"
  | .bl _ => some "bool"
  | .int _ => some "int"
  | .str _ => some "str"
  | .tup _ => some "tuple"
  | .lst _ => some "list"
  | _ => none
theorem tyx_T {K : PySem.W.Frag} {H : Hp} {a : Addr} {xs : List V} (h : SqT K H a xs) : TyX K H (.ref a) (.type "tuple") := by
  obtain (h | ⟨o, h⟩) | h := h
  · exact .base (.tup h)
  · exact .fTuple h
  · obtain ⟨o, vs, n, h1, h2, _⟩ := h
    exact .kTuple h1 h2
theorem tyx_L {K : PySem.W.Frag} {H : Hp} {a : Addr} {xs : List V} (h : SqL K H a xs) : TyX K H (.ref a) (.type "list") := by
  obtain (h | ⟨o, h⟩) | h := h
  · exact .base (.lst h)
  · exact .base (.frz h)
  · obtain ⟨o, vs, n, h1, h2, _⟩ := h
    exact .kList h1 h2
theorem cb_isi {n T : String} {k : Bool} (ht : tyD d = some n) (hk : PySem.W.kitOne X.K (.type n) (.type T) = some k) : CallD C X (.builtin "isinstance") [d, .ty T] (.bl k) := ⟨_, call_isi, fun vs H Q r q => by
  obtain ⟨v, u, rfl, r1, r2⟩ := r.two
  cases r2
  refine ⟨v, _, .type n, _, k, rfl, .ty T, ?_, hk, q _ H (Ex.refl H) (.bl k)⟩
  cases r1 with
  | non => cases ht; exact .base .non
  | bl b => cases ht; exact .base (.bl b)
  | int i => cases ht; exact .base (.int i)
  | str x => cases ht; exact .base (.str x)
  | tup h _ => cases ht; exact tyx_T h
  | lst h _ => cases ht; exact .base (.lst h)
  | frl h _ => cases ht
  | dic h => cases ht
  | ttup h => cases ht
  | adr => cases ht
  | tun => cases ht
  | lot => cases ht
  | ty => cases ht
  | cls => cases ht⟩
/-- what isinstance asks of the class of lots -/
structure LotCls (C : Addr) (K : PySem.W.Frag) : Prop where
  cl : Cls K C
  found : PySem.W.findIn K (.ref C) "__class__" = some (some (.builtin "object.__class__"))
  getter : PySem.W.specialIn K (.builtin "object.__class__") "__get__" = some (some (.builtin "getset_descriptor.__get__"))
  takes : PySem.W.takesIn K (.builtin "object.__class__") = some true
  below : PySem.W.mroIn K C (.type "object") = some true
  kit : PySem.W.kitOne K (.ref C) (.ref C) = some true
theorem cb_isLot {t r : Dt} (L : LotCls C X.K) : CallD C X (.builtin "isinstance") [.lot t r, .cls] (.bl true) := ⟨_, call_isi, fun vs H Q r q => by
  obtain ⟨v, u, rfl, r1, r2⟩ := r.two
  cases r2
  cases r1 with
  | lot h l1 l2 r1 r2 _ => exact ⟨_, _, .ref C, _, true, rfl, .own C, .base (.ins h L.cl L.found L.getter L.takes L.below), L.kit, q _ H (Ex.refl H) (.bl true)⟩⟩

/-! ### calls of the module's own defs -/
theorem dv_call {k : Nat} {x : Str} {ps : List Str} {R : List Dt → Dt → Prop} (c : CalD C X.prog X.w X.K X.mg X.base k x ps R) (hr : Room k X.A) (ha : Da C X (e :: es) Γ ds) (hR : R ds d) (hg : Gl X x := by rfl) (hdb : (x == ("__debug__" : Str)) = false := by decide)
    (he : starEach (e :: es) X.env = (false, eval e X.env) :: starEach es X.env := by rfl) (hpl : (backTo pos (starEach es X.env)).any (·.1) = false := by rfl) : Dv C X (.Call (.Name x p) (e :: es) [] pos) Γ d := by
  obtain ⟨f, fd, F, hm, hk, hb⟩ := c.ex
  obtain ⟨ta, pa, ea⟩ := ha
  exact ⟨_, pe_call F hr hg hm hk hb .nil pass0 pa hdb he hpl, fun σ H hs Q q => ea σ H hs _ fun vs H1 e1 r1 => ⟨ds, d, hR, by rw [List.append_nil]; exact r1, fun v H2 e2 r2 => q v H2 (e1.trans e2) r2⟩⟩
end
end K28
set_option Elab.async false
set_option linter.all false
set_option maxRecDepth 100000
namespace K28
open PySem PySem.Spec PyProof.Rows L2 Evl

/-! ### targets -/
def Evg (C : Addr) (K : PySem.W.Frag) (g : TG) (d : Dt) (Γ Γ' : Env') : Prop := ∀ v σ H, Rp C K H v d → SD C K H σ Γ → ∀ Q : L2.St → Hp → Prop, (∀ σ', SD C K H σ' Γ' → Q σ' H) → g v σ H Q
def Evgs (C : Addr) (K : PySem.W.Frag) (g : TGs) (ds : List Dt) (Γ Γ' : Env') : Prop := ∀ vs σ H, RpAll C K H vs ds → SD C K H σ Γ → ∀ Q : L2.St → Hp → Prop, (∀ σ', SD C K H σ' Γ' → Q σ' H) → g vs σ H Q
def Dg (C : Addr) (X : Cx) (e : Expr) (d : Dt) (Γ Γ' : Env') : Prop := ∃ g, PG X e g ∧ Evg C X.K g d Γ Γ'
def Dgs (C : Addr) (X : Cx) (es : List Expr) (ds : List Dt) (Γ Γ' : Env') : Prop := ∃ g, PGs X es g ∧ Evgs C X.K g ds Γ Γ'
section
variable {C : Addr} {X : Cx} {Γ Γ' Γ'' : Env'} {a b c e : Expr} {es : List Expr} {pos p p2 : Pos} {d da db : Dt} {ds us : List Dt} {st : Stmt} {sts rest : List Stmt} {o : Ot}
theorem dg_name (i : Nat) {x : Str} (hi : X.N[i]? = some x) (hN : X.N.Nodup) (hx : Loc X.env.scope x := by first | exact Or.inl rfl | exact Or.inr rfl) (hf : X.fn x = true ∨ X.env.scope.names.lookup x = some .local := by first | exact .inl rfl | exact .inr rfl | (left; rfl))
    (h1 : (x == ("__debug__" : Str)) = false := by decide) : Dg C X (.Name x pos) d Γ (Γ.set i (some d)) :=
  ⟨_, pg_name (i := i) hN hi hx hf, fun v σ H r hs Q q => q _ (hs.set r i)⟩
theorem dgs_nil : Dgs C X [] [] Γ Γ := ⟨_, pgs_nil, fun vs σ H r hs Q q => by cases r; exact ⟨rfl, q σ hs⟩⟩
theorem dgs_cons (h : Dg C X e d Γ Γ') (t : Dgs C X es ds Γ' Γ'') (hs : (assignEach (e :: es) X.env).map (·.2) = assign e X.env :: (assignEach es X.env).map (·.2) := by rfl) : Dgs C X (e :: es) (d :: ds) Γ Γ'' := by
  obtain ⟨g, pg, eg⟩ := h
  obtain ⟨g', pg', eg'⟩ := t
  exact ⟨_, pgs_cons pg pg' hs, fun vs σ H r hs Q q => by
    cases r with
    | cons r1 r2 => exact ⟨_, _, rfl, eg _ σ H r1 hs _ fun σ' hs' => eg' _ σ' H r2 hs' _ q⟩⟩
theorem dg_tup {k} (hc : X.calm = true) (h : Dgs C X es ds Γ Γ') (hn : (assignEach es X.env).length = ds.length := by rfl) (hst : (assignEach es X.env).findIdx? (·.1) = none := by rfl) : Dg C X (.Tuple es k pos) (.tup ds) Γ Γ' := by
  obtain ⟨g, pg, eg⟩ := h
  exact ⟨_, pg_tup (n := ds.length) hc pg hn hst, fun v σ H r hs Q q => by
    cases r with
    | tup hx rx => exact ⟨_, _, rfl, hx, rx.length, eg _ σ H rx hs _ q⟩⟩

/-! ### statements -/
theorem ds_nil : Ds C X [] Γ (.nx Γ) := ⟨_, pss_nil, fun σ H hs D q => q σ H (Ex.refl H) hs⟩
theorem ot_cast {t : TS} {K : PySem.W.Frag} (h : Evs C K t Γ o) : Evs C K t Γ o := h
theorem Evs.seq {K : PySem.W.Frag} {t u : TS} (h1 : Evs C K t Γ (.nx Γ')) (h2 : Evs C K u Γ' o) : Evs C K (tSeq t u) Γ o := fun σ H hs D q => by
  refine h1 σ H hs { D with nx := u D } fun σ' H' e hs' => h2 σ' H' hs' D ?_
  cases o with
  | nx Γ2 => exact fun σ2 H2 e2 hs2 => q σ2 H2 (e.trans e2) hs2
  | rt d => exact fun v H2 e2 r2 => q v H2 (e.trans e2) r2
theorem ds_cons (h1 : D1 C X st Γ (.nx Γ')) (h2 : Ds C X rest Γ' o) : Ds C X (st :: rest) Γ o := by
  obtain ⟨t, p, e⟩ := h1
  obtain ⟨u, p', e'⟩ := h2
  exact ⟨_, pss_cons p p', e.seq e'⟩
theorem never (X : Cx) (sts : List Stmt) : PSs X sts tNever := pss_never
/-- a statement that returns: what stands behind is not reached -/
theorem ds_end (h1 : D1 C X st Γ (.rt d)) : Ds C X (st :: rest) Γ (.rt d) := by
  obtain ⟨t, p, e⟩ := h1
  exact ⟨_, pss_cons p (pss_never (sts := rest)), fun σ H hs D q => e σ H hs { D with nx := tNever D } q⟩
theorem d1_ret (h : Dv C X e Γ d) : D1 C X (.Return (some e) pos) Γ (.rt d) := by
  obtain ⟨t, p, ev⟩ := h
  exact ⟨_, ps_ret p, fun σ H hs D q => ev σ H hs _ q⟩
theorem ds_ret (h : Dv C X e Γ d) : Ds C X (.Return (some e) pos :: rest) Γ (.rt d) := ds_end (d1_ret h)
theorem d1_expr (h : Dv C X e Γ d) (hs : swapsWith e none pos.line X.env = pure false := by rfl) : D1 C X (.Expr e pos) Γ (.nx Γ) := by
  obtain ⟨t, p, ev⟩ := h
  exact ⟨_, ps_expr p hs, fun σ H hs D q => ev σ H hs _ fun v H1 e1 _ => q σ H1 e1 (hs.mono e1)⟩
theorem ds_expr (h : Dv C X e Γ d) (k : Ds C X rest Γ o) (hs : swapsWith e none pos.line X.env = pure false := by rfl) : Ds C X (.Expr e pos :: rest) Γ o := ds_cons (d1_expr h hs) k
theorem d1_set (i : Nat) {x : Str} {pos' : Pos} (he : Dv C X e Γ d) (hi : X.N[i]? = some x) (hN : X.N.Nodup) (hx : Loc X.env.scope x := by first | exact Or.inl rfl | exact Or.inr rfl) (hs : swapsWith e (some (.Name x pos')) pos.line X.env = pure false := by rfl)
    (hf : X.fn x = true ∨ X.env.scope.names.lookup x = some .local := by first | exact .inl rfl | exact .inr rfl) : D1 C X (.Assign [.Name x pos'] e pos) Γ (.nx (Γ.set i (some d))) := by
  obtain ⟨t, p, ev⟩ := he
  exact ⟨_, ps_set (i := i) hN hi hx p hs hf, fun σ H hs D q => ev σ H hs _ fun v H1 e1 r => q _ H1 e1 ((hs.mono e1).set r i)⟩
theorem ds_set (i : Nat) {x : Str} {pos' : Pos} (hi : X.N[i]? = some x) (hN : X.N.Nodup) (he : Dv C X e Γ d) (k : Ds C X rest (Γ.set i (some d)) o) (hx : Loc X.env.scope x := by first | exact Or.inl rfl | exact Or.inr rfl) (hs : swapsWith e (some (.Name x pos')) pos.line X.env = pure false := by rfl)
    (hf : X.fn x = true ∨ X.env.scope.names.lookup x = some .local := by first | exact .inl rfl | exact .inr rfl) : Ds C X (.Assign [.Name x pos'] e pos :: rest) Γ o := ds_cons (d1_set i he hi hN hx hs hf) k
/-- a, b = e (one target of any kind) -/
theorem d1_asg {tg : Expr} (he : Dv C X e Γ d) (hg : Dg C X tg d Γ Γ') (hs : swapsWithSole [tg] e pos.line X.env = pure false := by rfl) (hw : swappedStores [tg] e X.env = pure none := by rfl) (h1 : (assignEach [tg] X.env).map (·.2) = [assign tg X.env] := by rfl) : D1 C X (.Assign [tg] e pos) Γ (.nx Γ') := by
  obtain ⟨t, p, ev⟩ := he
  obtain ⟨g, pg, eg⟩ := hg
  exact ⟨_, ps_asg p pg hs hw h1, fun σ H hs D q => ev σ H hs _ fun v H1 e1 r => eg v σ H1 r (hs.mono e1) _ fun σ' hs' => q σ' H1 e1 hs'⟩
theorem ds_asg {tg : Expr} (he : Dv C X e Γ d) (hg : Dg C X tg d Γ Γ') (k : Ds C X rest Γ' o) (hs : swapsWithSole [tg] e pos.line X.env = pure false := by rfl) (hw : swappedStores [tg] e X.env = pure none := by rfl) (h1 : (assignEach [tg] X.env).map (·.2) = [assign tg X.env] := by rfl) : Ds C X (.Assign [tg] e pos :: rest) Γ o := ds_cons (d1_asg he hg hs hw h1) k
/-- x, y = a, b, both plain local names -/
theorem d1_par (i j : Nat) {x y : Str} {px py pt : Pos} {kt k2 pt2} (ha : Da C X [a, b] Γ [da, db]) (hc : X.calm = true) (hN : X.N.Nodup) (hi : X.N[i]? = some x) (hj : X.N[j]? = some y) (hij : i ≠ j) (hx : X.env.scope.names.lookup x = some .local) (hy : X.env.scope.names.lookup y = some .local)
    (hw : swappedStores [.Tuple [.Name x px, .Name y py] kt pt] (.Tuple [a, b] k2 pt2) X.env = pure (some [x, y]) := by rfl) (hs : swapsWithSole [.Tuple [.Name x px, .Name y py] kt pt] (.Tuple [a, b] k2 pt2) pos.line X.env = pure false := by rfl) :
    D1 C X (.Assign [.Tuple [.Name x px, .Name y py] kt pt] (.Tuple [a, b] k2 pt2) pos) Γ (.nx ((Γ.set i (some da)).set j (some db))) := by
  obtain ⟨t, p, ev⟩ := ha
  exact ⟨_, ps_par (i := i) (j := j) hc hN hi hj hij hx hy p hw hs, fun σ H hs D q => ev σ H hs _ fun vs H1 e1 r => by
    obtain ⟨v, u, rfl, r1, r2⟩ := r.two
    exact ⟨v, u, rfl, q _ H1 e1 (((hs.mono e1).set r1 i).set r2 j)⟩⟩
/-- if -/
theorem d1_if {k : Bool} {A B : List Stmt} (hc : Dp' C X c Γ k) (h1 : k = true → Ds C X A Γ o) (h2 : k = false → Ds C X B Γ o) : D1 C X (.If c A B pos) Γ o := by
  obtain ⟨tc, pc, ec⟩ := hc
  cases k with
  | true =>
    obtain ⟨t, p, ev⟩ := h1 rfl
    refine ⟨_, ps_if pc p (pss_never (sts := B)), fun σ H hs D q => ec σ H hs _ fun H1 e1 => iteT (ev σ H1 (hs.mono e1) D ?_)⟩
    cases o with
    | nx Γ2 => exact fun σ2 H2 e2 hs2 => q σ2 H2 (e1.trans e2) hs2
    | rt d => exact fun v H2 e2 r2 => q v H2 (e1.trans e2) r2
  | false =>
    obtain ⟨t, p, ev⟩ := h2 rfl
    refine ⟨_, ps_if pc (pss_never (sts := A)) p, fun σ H hs D q => ec σ H hs _ fun H1 e1 => iteF (ev σ H1 (hs.mono e1) D ?_)⟩
    cases o with
    | nx Γ2 => exact fun σ2 H2 e2 hs2 => q σ2 H2 (e1.trans e2) hs2
    | rt d => exact fun v H2 e2 r2 => q v H2 (e1.trans e2) r2
/-- if c: .. that returns -/
theorem ds_ifT {A B : List Stmt} (hc : Dp' C X c Γ true) (h : Ds C X A Γ (.rt d)) : Ds C X (.If c A B pos :: rest) Γ (.rt d) := ds_end (d1_if hc (fun _ => h) fun z => by cases z)
/-- if c: .. that is passed by -/
theorem ds_ifF {A : List Stmt} (hc : Dp' C X c Γ false) (k : Ds C X rest Γ o) : Ds C X (.If c A [] pos :: rest) Γ o := ds_cons (d1_if (o := .nx Γ) hc (fun z => by cases z) fun _ => ds_nil) k
/-- if c: return ..; rest -/
theorem ds_if2 {k : Bool} {A : List Stmt} (hc : Dp' C X c Γ k) (h1 : k = true → Ds C X A Γ (.rt d)) (h2 : k = false → Ds C X rest Γ (.rt d)) : Ds C X (.If c A [] pos :: rest) Γ (.rt d) := by
  cases k with
  | true => exact ds_ifT hc (h1 rfl)
  | false => exact ds_ifF hc (h2 rfl)
theorem Ds.less {Δ : Env'} (h : Ds C X sts Δ o) (l : Less Γ Δ) : Ds C X sts Γ o := by
  obtain ⟨t, p, ev⟩ := h
  exact ⟨t, p, fun σ H hs D q => ev σ H (hs.less l) D q⟩

/-! ### for over a list or tuple of data -/
/-- what a for walks -/
def Walks' (C : Addr) (X : Cx) (tg iter : Expr) (Γ : Env') (ds : List Dt) : Prop :=
  ∃ wi, PI X tg iter wi ∧ ∀ σ H, SD C X.K H σ Γ → ∀ R : It → Hp → Prop, (∀ (J : It) H1, Ex H H1 →
    (∀ H2, Ex H1 H2 → ∀ i, (i < ds.length → J.go i H2) ∧ (ds.length ≤ i → J.stop i H2) ∧ ∀ x H', i < ds.length → J.yld i H2 x H' → Ex H2 H' ∧ ∃ d, ds[i]? = some d ∧ Rp C X.K H' x d) → R J H1) → wi σ H R
theorem wk_list {tg : Expr} (h : Dv C X e Γ (.lst ds)) : Walks' C X tg e Γ ds := by
  obtain ⟨t, p, ev⟩ := h
  refine ⟨_, pi_list p, fun σ H hs R q => ev σ H hs _ fun v H1 e1 r => ?_⟩
  cases r with
  | @lst a xs _ hx0 rx =>
    have hx : SqL X.K H1 a xs := .inl (.inl hx0)
    refine ⟨a, rfl, ⟨xs, hx⟩, q (Itl X.K a) H1 e1 fun H2 e2 i => ⟨fun hi => ?_, fun hi => ?_, fun x H' _ hy => ?_⟩⟩
    · have hl : i < xs.length := by rw [rx.length]; exact hi
      exact ⟨xs, xs[i], ex_l e2 hx, by simp [hl]⟩
    · exact ⟨xs, ex_l e2 hx, by rw [rx.length]; exact hi⟩
    · obtain ⟨rfl, hy⟩ := hy
      obtain ⟨d, h1, h2⟩ := rx.getv (hy xs (ex_l e2 hx))
      exact ⟨Ex.refl _, d, h1, h2.mono e2⟩
theorem wk_tup {tg : Expr} (h : Dv C X e Γ (.tup ds)) : Walks' C X tg e Γ ds := by
  obtain ⟨t, p, ev⟩ := h
  refine ⟨_, pi_tup p, fun σ H hs R q => ev σ H hs _ fun v H1 e1 r => ?_⟩
  cases r with
  | @tup a xs _ hx rx =>
    refine ⟨a, rfl, ⟨xs, hx⟩, q (Itt X.K a) H1 e1 fun H2 e2 i => ⟨fun hi => ?_, fun hi => ?_, fun x H' _ hy => ?_⟩⟩
    · have hl : i < xs.length := by rw [rx.length]; exact hi
      exact ⟨xs, xs[i], ex_t e2 hx, by simp [hl]⟩
    · exact ⟨xs, ex_t e2 hx, by rw [rx.length]; exact hi⟩
    · obtain ⟨rfl, hy⟩ := hy
      obtain ⟨d, h1, h2⟩ := rx.getv (hy xs (ex_t e2 hx))
      exact ⟨Ex.refl _, d, h1, h2.mono e2⟩
/-- range(n) -/
theorem wk_range {tg : Expr} {n : Nat} (h : Da C X [e] Γ [.int (n : Int)]) (hn : n ≤ 1000000) (hm : X.mg "range" = none) (hg : Gl X "range" := by rfl) (hs : starEach [e] X.env = [(false, eval e X.env)] := by rfl) : Walks' C X tg (.Call (.Name "range" p) [e] [] pos) Γ ((List.range n).map fun (i : Nat) => Dt.int (i : Int)) := by
  obtain ⟨t, pa, ev⟩ := h
  refine ⟨_, pi_range1 hg hm pa hs, fun σ H hs R q => ev σ H hs _ fun vs H1 e1 r => ?_⟩
  obtain ⟨v, rfl, r1⟩ := r.one
  cases r1
  refine ⟨(n : Int), rfl, by omega, by omega, q _ H1 e1 fun H2 e2 i => ⟨fun hi => ?_, fun hi => ?_, fun x H' hi hy => ?_⟩⟩
  · simpa [Itr] using hi
  · simpa [Itr] using hi
  · obtain ⟨rfl, hy⟩ := hy
    subst hy
    have hi' : i < n := by simpa using hi
    refine ⟨Ex.refl _, .int (i : Int), by simp [hi'], ?_⟩
    rw [Int.zero_add]
    exact .int _
/-- for over data: the turns' slots by number -/
theorem d1_for {tg : Expr} {body : List Stmt} (G B : Nat → Env') (hw : Walks' C X tg e Γ ds) (h0 : G 0 = Γ) (hg : ∀ j d, ds[j]? = some d → Dg C X tg d (G j) (B j)) (hb : ∀ j d, ds[j]? = some d → Ds C X body (B j) (.nx (G (j + 1))))
    (hp : PassesOwn (model X.prog X.w) X.A X.env X.xe) (hc : X.calm = true) (hs : ∀ x, foldedSetIterable e X.env x = pure x := by intro _; rfl) : D1 C X (.For tg e body [] pos) Γ (.nx (G ds.length)) := by
  obtain ⟨wi, pw, ew⟩ := hw
  -- the target and the body, whatever the turn
  let g : TG := fun v σ H Q => ∃ j d, ds[j]? = some d ∧ Rp C X.K H v d ∧ SD C X.K H σ (G j) ∧ ∀ σ', SD C X.K H σ' (B j) → Q σ' H
  have pg : PG X tg g := ⟨fun pins s σ H v u Q I r ⟨j, d, hj, rd, hs, q⟩ => by
    obtain ⟨g1, p1, e1⟩ := hg j d hj
    exact p1.run pins s σ H v u Q I r (e1 v σ H rd hs Q q)⟩
  let t : TS := fun D σ H => ∃ j d, ds[j]? = some d ∧ SD C X.K H σ (B j) ∧ ∀ σ' H', Ex H H' → SD C X.K H' σ' (G (j + 1)) → D.nx σ' H'
  have pt : PSs X body t := ⟨fun pins s σ H D I ⟨j, d, hj, hs, q⟩ => by
    obtain ⟨t1, p1, e1⟩ := hb j d hj
    exact p1.run pins s σ H D I (e1 σ H hs D q)⟩
  refine ⟨_, ps_for hp hc pw pg pt hs, fun σ H hs D q => ew σ H hs _ fun J H1 e1 hJ => ?_⟩
  refine ⟨fun i m σ' H' => m = ds.length - i ∧ i ≤ ds.length ∧ Ex H1 H' ∧ SD C X.K H' σ' (G i), ⟨ds.length, by simp, Nat.zero_le _, Ex.refl _, by rw [h0]; exact hs.mono e1⟩, ?_⟩
  rintro i m σ' H' ⟨rfl, hi, e2, hs'⟩
  obtain ⟨j1, j2, j3⟩ := hJ H' e2 i
  by_cases hl : i < ds.length
  · refine .inr ⟨j1 hl, fun σ2 H2 => Ex H1 H2 ∧ SD C X.K H2 σ2 (G (i + 1)), fun σ2 H2 ⟨e3, hs2⟩ => ⟨ds.length - (i + 1), by omega, rfl, hl, e3, hs2⟩, fun x H2 hy => ?_⟩
    obtain ⟨e3, d, hd, rd⟩ := j3 x H2 hl hy
    exact ⟨i, d, hd, rd, hs'.mono e3, fun σ3 hs3 => ⟨i, d, hd, hs3, fun σ4 H4 e4 hs4 => ⟨(e2.trans e3).trans e4, hs4⟩⟩⟩
  · have e : i = ds.length := by omega
    subst e
    exact .inl ⟨j2 (Nat.le_refl _), q σ' H' (e1.trans e2) hs'⟩
/-- a loop that returns at its turn j0 -/
theorem d1_forR {tg : Expr} {body : List Stmt} (j0 : Nat) (G B : Nat → Env') (hw : Walks' C X tg e Γ ds) (h0 : G 0 = Γ) (hj0 : j0 < ds.length) (hg : ∀ j d, j ≤ j0 → ds[j]? = some d → Dg C X tg d (G j) (B j)) (hb : ∀ j d, j < j0 → ds[j]? = some d → Ds C X body (B j) (.nx (G (j + 1))))
    (hr : ∀ d', ds[j0]? = some d' → Ds C X body (B j0) (.rt d))
    (hp : PassesOwn (model X.prog X.w) X.A X.env X.xe) (hc : X.calm = true) (hs : ∀ x, foldedSetIterable e X.env x = pure x := by intro _; rfl) : D1 C X (.For tg e body [] pos) Γ (.rt d) := by
  obtain ⟨wi, pw, ew⟩ := hw
  let g : TG := fun v σ H Q => ∃ j d, j ≤ j0 ∧ ds[j]? = some d ∧ Rp C X.K H v d ∧ SD C X.K H σ (G j) ∧ ∀ σ', SD C X.K H σ' (B j) → Q σ' H
  have pg : PG X tg g := ⟨fun pins s σ H v u Q I r ⟨j, d, hjj, hj, rd, hs, q⟩ => by
    obtain ⟨g1, p1, e1⟩ := hg j d hjj hj
    exact p1.run pins s σ H v u Q I r (e1 v σ H rd hs Q q)⟩
  let t : TS := fun D σ H => ∃ j d', j ≤ j0 ∧ ds[j]? = some d' ∧ SD C X.K H σ (B j) ∧ (j < j0 → ∀ σ' H', Ex H H' → SD C X.K H' σ' (G (j + 1)) → D.nx σ' H') ∧ (j = j0 → ∀ v H', Ex H H' → Rp C X.K H' v d → D.rt v H')
  have pt : PSs X body t := ⟨fun pins s σ H D I ⟨j, d', hjj, hj, hs, q1, q2⟩ => by
    by_cases hlt : j < j0
    · obtain ⟨t1, p1, e1⟩ := hb j d' hlt hj
      exact p1.run pins s σ H D I (e1 σ H hs D (q1 hlt))
    · have e : j = j0 := by omega
      subst e
      obtain ⟨t1, p1, e1⟩ := hr d' hj
      exact p1.run pins s σ H D I (e1 σ H hs D (q2 rfl))⟩
  refine ⟨_, ps_for hp hc pw pg pt hs, fun σ H hs D q => ew σ H hs _ fun J H1 e1 hJ => ?_⟩
  refine ⟨fun i m σ' H' => m = ds.length - i ∧ i ≤ j0 ∧ Ex H1 H' ∧ SD C X.K H' σ' (G i), ⟨ds.length, by simp, Nat.zero_le _, Ex.refl _, by rw [h0]; exact hs.mono e1⟩, ?_⟩
  rintro i m σ' H' ⟨rfl, hi, e2, hs'⟩
  obtain ⟨j1, j2, j3⟩ := hJ H' e2 i
  have hl : i < ds.length := by omega
  refine .inr ⟨j1 hl, fun σ2 H2 => i < j0 ∧ Ex H1 H2 ∧ SD C X.K H2 σ2 (G (i + 1)), fun σ2 H2 ⟨h3, e3, hs2⟩ => ⟨ds.length - (i + 1), by omega, rfl, h3, e3, hs2⟩, fun x H2 hy => ?_⟩
  obtain ⟨e3, d', hd, rd⟩ := j3 x H2 hl hy
  exact ⟨i, d', hi, hd, rd, hs'.mono e3, fun σ3 hs3 => ⟨i, d', hi, hd, hs3, fun hlt σ4 H4 e4 hs4 => ⟨hlt, (e2.trans e3).trans e4, hs4⟩, fun _ v H' e4 r4 => q v H' (((e1.trans e2).trans e3).trans e4) r4⟩⟩
end
end K28
set_option Elab.async false
set_option linter.all false
set_option maxRecDepth 100000
namespace K28
open PySem PySem.Spec PyProof.Rows L2 Evl

/-! ### data in which no list stands: what is done to lists does not touch it -/
mutual
def lf : Dt → Bool
  | .tup xs => lfs xs
  | .lst _ => false
  | .frl _ => false
  | .lot t r => lf t && lf r
  | .tun xs => lfs xs
  | _ => true
def lfs : List Dt → Bool
  | [] => true
  | d :: ds => lf d && lfs ds
end
/-- all that is no list is as it was -/
def ExL (H H' : Hp) : Prop := ∀ b o, H b = some o → (∀ xs, o ≠ .lst xs) → H' b = some o
section
variable {C : Addr} {K : PySem.W.Frag} {H H' : Hp}
theorem ExL.t (e : ExL H H') {a : Addr} {xs : List V} (h : SqT K H a xs) : SqT K H' a xs := by
  obtain (h | ⟨o, h⟩) | h := h
  · exact .inl (.inl (e _ _ h fun _ z => by cases z))
  · exact .inl (.inr ⟨o, e _ _ h fun _ z => by cases z⟩)
  · exact .inr h
mutual
theorem Rp.lmono (e : ExL H H') : ∀ {v : V} {d : Dt}, Rp C K H v d → lf d = true → Rp C K H' v d
  | _, _, .non, _ => .non
  | _, _, .bl b, _ => .bl b
  | _, _, .int i, _ => .int i
  | _, _, .str x, _ => .str x
  | _, _, .tup h r, p => .tup (e.t h) (RpAll.lmono e r (by rw [lf] at p; exact p))
  | _, _, .lst .., p => by rw [lf] at p; cases p
  | _, _, .lot h l1 l2 r1 r2 n, p => by
    rw [lf, Bool.and_eq_true] at p
    exact .lot (e _ _ h fun _ z => by cases z) l1 l2 (Rp.lmono e r1 p.1) (Rp.lmono e r2 p.2) n
  | _, _, .ty n, _ => .ty n
  | _, _, .cls, _ => .cls
  | _, _, .frl .., p => by rw [lf] at p; cases p
  | _, _, .dic h, _ => .dic (e _ _ h fun _ z => by cases z)
  | _, _, .ttup h, _ => .ttup (e _ _ h fun _ z => by cases z)
  | _, _, .adr a, _ => .adr a
  | _, _, .tun h n r, p => .tun (e _ _ h fun _ z => by cases z) n (RpAll.lmono e r (by rw [lf] at p; exact p))
theorem RpAll.lmono (e : ExL H H') : ∀ {vs : List V} {ds : List Dt}, RpAll C K H vs ds → lfs ds = true → RpAll C K H' vs ds
  | _, _, .nil, _ => .nil
  | _, _, .cons h r, p => by
    rw [lfs, Bool.and_eq_true] at p
    exact .cons (Rp.lmono e h p.1) (RpAll.lmono e r p.2)
end
theorem ExL.of_upd {l : Addr} {xs ys : List V} (h : H l = some (.lst xs)) : ExL H (upd H l (.lst ys)) := fun b o e n => by
  by_cases hb : b = l
  · subst hb
    rw [h] at e; cases e
    exact absurd rfl (n xs)
  · rw [upd_ne hb]; exact e
theorem lfs_append : ∀ {as bs : List Dt}, lfs as = true → lfs bs = true → lfs (as ++ bs) = true
  | [], _, _, h => h
  | a :: as, _, h, h' => by
    rw [lfs, Bool.and_eq_true] at h
    rw [List.cons_append, lfs, h.1, lfs_append h.2 h']
    rfl
theorem lfs_map {α : Type} {F : α → Dt} : ∀ {l : List α}, (∀ x ∈ l, lf (F x) = true) → lfs (l.map F) = true
  | [], _ => by rw [List.map_nil, lfs]
  | a :: l, h => by
    rw [List.map_cons, lfs, h a (List.mem_cons_self ..), lfs_map fun x hx => h x (List.mem_cons_of_mem _ hx)]
    rfl
theorem RpAll.snoc {vs : List V} {ds : List Dt} {v : V} {d : Dt} (r : RpAll C K H vs ds) (h : Rp C K H v d) : RpAll C K H (vs ++ [v]) (ds ++ [d]) := r.append (.cons h .nil)
end

/-! ### comprehensions -/
section
variable {C : Addr} {X : Cx} {Γ : Env'} {elt iter tg : Expr} {pos spos : Pos} {ds : List Dt} {scope : Scope} {own : List (Str × Nat)} {ifs : List Expr}
/-- the block of a comprehension: any frame of it -/
abbrev blkX (X : Cx) (scope : Scope) (s : Shared) (H : Hp) (c : Addr) (cl : List (Str × Addr)) (fp : List Addr) : Cx := X.blk s H scope (compEnvC scope cl c X.env) fp
def tyes : TT := fun _ H Q => Q true H
/-- the reading of a comprehension over data -/
theorem lc_read {wi : TI} {g : TG} {tt : TT} {te : TE} {vs : List Nat} (T : Dt → Bool) (F : Dt → Dt) (B : Dt → Env') (hlen : ds.length ≤ 100000)
    (ew : ∀ σ H, SD C X.K H σ Γ → ∀ R : It → Hp → Prop, (∀ (J : It) H1, Ex H H1 →
      (∀ H2, Ex H1 H2 → ∀ i, (i < ds.length → J.go i H2) ∧ (ds.length ≤ i → J.stop i H2) ∧ ∀ x H', i < ds.length → J.yld i H2 x H' → Ex H2 H' ∧ ∃ d, ds[i]? = some d ∧ Rp C X.K H' x d) → R J H1) → wi σ H R)
    (eg : ∀ d ∈ ds, ∀ v σ H, Rp C X.K H v d → SD C X.K H σ (wipeD Γ vs) → ∀ Q : L2.St → Hp → Prop, (∀ σ', SD C X.K H σ' (B d) → L2.wipe σ' vs = L2.wipe σ vs → Q σ' H) → g v σ H Q)
    (et : ∀ d ∈ ds, Evt C X.K tt (B d) (T d)) (ee : ∀ d ∈ ds, T d = true → Evd C X.K te (B d) (F d)) (hlf : ∀ d ∈ ds, T d = true → lf (F d) = true) (ww : ∀ σ : L2.St, L2.wipe (L2.wipe σ vs) vs = L2.wipe σ vs) :
    Evd C X.K (tLc wi g tt te vs) Γ (.lst ((ds.filter T).map F)) := fun σ H hs Q q => ew σ H hs _ fun J H1 e1 hJ D hD => by
  have hs1 := hs.mono e1
  refine ⟨fun i m H' => m = ds.length - i ∧ i ≤ ds.length ∧ Ex H1 H' ∧ ∃ acc, H' D = some (.lst acc) ∧ RpAll C X.K H' acc (((ds.take i).filter T).map F), ⟨ds.length, by simp, Nat.zero_le _, Ex.new hD, [], upd_same, .nil⟩, ?_⟩
  rintro i m H' ⟨rfl, hi, e2, acc, ha, ra⟩
  obtain ⟨j1, j2, j3⟩ := hJ H' e2 i
  by_cases hl : i < ds.length
  · refine .inr ⟨j1 hl, fun H2 => Ex H1 H2 ∧ ∃ acc, H2 D = some (.lst acc) ∧ RpAll C X.K H2 acc (((ds.take (i + 1)).filter T).map F), fun H2 ⟨h1, h2⟩ => ⟨ds.length - (i + 1), by omega, rfl, hl, h1, h2⟩, fun x H2 hy => ?_⟩
    obtain ⟨e3, d, hd, rd⟩ := j3 x H2 hl hy
    have hm : d ∈ ds := List.mem_of_getElem? hd
    have tk : ds.take (i + 1) = ds.take i ++ [d] := by rw [List.take_add_one, hd]; rfl
    refine eg d hm x (L2.wipe σ vs) H2 rd ((hs1.wipe vs).mono (e2.trans e3)) _ fun σ' hs' hw => ⟨by rw [hw, ww], et d hm σ' H2 hs' _ fun H3 e4 => ?_⟩
    have e5 : Ex H1 H3 := (e2.trans e3).trans e4
    have ra3 := ra.mono (e3.trans e4)
    have lfa : ∀ k : Nat, lfs (((ds.take k).filter T).map F) = true := fun k => lfs_map fun y hy => by
      obtain ⟨h1, h2⟩ := List.mem_filter.mp hy
      exact hlf y (List.mem_of_mem_take h1) h2
    cases ht : T d with
    | true =>
      refine iteT (ee d hm ht σ' H3 (hs'.mono e4) _ fun v H4 e6 r4 => ⟨acc, (e3.trans (e4.trans e6)) _ _ ha, ?_, ?_, acc ++ [v], upd_same, ?_⟩)
      · rw [ra.length, List.length_map]
        exact sz_lt (Nat.lt_of_le_of_lt (Nat.le_trans (List.length_filter_le _ _) (by rw [List.length_take]; omega)) (Nat.lt_of_lt_of_le hl hlen))
      · exact (e5.trans e6).mut hD
      · have hL : H4 D = some (.lst acc) := (e3.trans (e4.trans e6)) _ _ ha
        rw [tk, List.filter_append, List.map_append, List.filter_cons_of_pos ht]
        exact ((ra3.mono e6).lmono (ExL.of_upd hL) (lfa i)).append (.cons (r4.lmono (ExL.of_upd hL) (hlf d hm ht)) .nil)
    | false =>
      refine iteF ⟨e5, acc, (e3.trans e4) _ _ ha, ?_⟩
      rw [tk, List.filter_append, List.filter_cons_of_neg (by rw [ht]; exact Bool.false_ne_true)]
      simpa using ra3
  · have e : i = ds.length := by omega
    subst e
    refine .inl ⟨j2 (Nat.le_refl _), q _ H' (e1.trans e2) (.lst ha ?_)⟩
    rw [List.take_length] at ra
    exact ra
/-- what an element's block is asked, for each datum walked -/
theorem lc_uni {es : Expr} {I : Type} {P : I → Env' → Dt → Prop} : True := True.intro
/-- [elt for tg in iter if test] over data, as a value -/
theorem dv_lcIf (own : List (Str × Nat)) {test : Expr} (T : Dt → Bool) (F : Dt → Dt) (B : Dt → Env') (hw : Walks' C X tg iter Γ ds) (hc : X.calm = true) (hN : X.N.Nodup) (ok : BlkOk X.N X.env.scope scope own) (hlen : ds.length ≤ 100000)
    (hg : ∀ d ∈ ds, ∀ s H c cl fp, ∃ g, PG (blkX X scope s H c cl fp) tg g ∧ ∀ v σ H, Rp C X.K H v d → SD C X.K H σ (wipeD Γ (own.map (·.2))) → ∀ Q : L2.St → Hp → Prop, (∀ σ', SD C X.K H σ' (B d) → L2.wipe σ' (own.map (·.2)) = L2.wipe σ (own.map (·.2)) → Q σ' H) → g v σ H Q)
    (ht : ∀ d ∈ ds, ∀ s H c cl fp, Dp' C (blkX X scope s H c cl fp) test (B d) (T d))
    (he : ∀ d ∈ ds, T d = true → ∀ s H c cl fp, Dv C (blkX X scope s H c cl fp) elt (B d) (F d))
    (hlf : ∀ d ∈ ds, T d = true → lf (F d) = true) (ww : ∀ σ : L2.St, L2.wipe (L2.wipe σ (own.map (·.2))) (own.map (·.2)) = L2.wipe σ (own.map (·.2))) (hs : ∀ x, foldedSetIterable iter X.env x = pure x := by intro _; rfl) :
    Dv C X (.ListComp elt [⟨tg, iter, [test], 0⟩] scope pos) Γ (.lst ((ds.filter T).map F)) := by
  obtain ⟨wi, pw, ew⟩ := hw
  let g : TG := fun v σ H Q => ∃ d ∈ ds, Rp C X.K H v d ∧ SD C X.K H σ (wipeD Γ (own.map (·.2))) ∧ ∀ σ', SD C X.K H σ' (B d) → L2.wipe σ' (own.map (·.2)) = L2.wipe σ (own.map (·.2)) → Q σ' H
  let tt : TT := fun σ H Q => ∃ d ∈ ds, SD C X.K H σ (B d) ∧ ∀ H2, Ex H H2 → Q (T d) H2
  let te : TE := fun σ H Q => ∃ d ∈ ds, T d = true ∧ SD C X.K H σ (B d) ∧ ∀ v H2, Ex H H2 → Rp C X.K H2 v (F d) → Q v H2
  refine ⟨tLc wi g tt te (own.map (·.2)), pe_lc hc hN pw ok (fun s H c cl fp => ⟨fun pins s' σ H' v u Q I r h => ?_⟩) (fun s H c cl fp => pts_one ⟨fun pins s' σ H' Q I h => ?_⟩) (fun s H c cl fp => ⟨fun pins s' σ H' Q I h => ?_⟩) hs,
    lc_read (X := X) T F B hlen ew (fun d hd v σ H r hs Q q => ⟨d, hd, r, hs, q⟩) (fun d hd σ H hs Q q => ⟨d, hd, hs, q⟩) (fun d hd h σ H hs Q q => ⟨d, hd, h, hs, q⟩) hlf ww⟩
  · obtain ⟨d, hd, rd, hs', q⟩ := h
    obtain ⟨g1, p1, e1⟩ := hg d hd s H c cl fp
    exact p1.run pins s' σ H' v u Q I r (e1 v σ H' rd hs' Q q)
  · obtain ⟨d, hd, hs', q⟩ := h
    obtain ⟨g1, p1, e1⟩ := ht d hd s H c cl fp
    exact p1.run pins s' σ H' Q I (e1 σ H' hs' Q q)
  · obtain ⟨d, hd, h1, hs', q⟩ := h
    obtain ⟨g1, p1, e1⟩ := he d hd h1 s H c cl fp
    exact p1.run pins s' σ H' Q I (e1 σ H' hs' Q q)
/-- without a test -/
theorem dv_lcG (own : List (Str × Nat)) (F : Dt → Dt) (B : Dt → Env') (hw : Walks' C X tg iter Γ ds) (hc : X.calm = true) (hN : X.N.Nodup) (ok : BlkOk X.N X.env.scope scope own) (hlen : ds.length ≤ 100000)
    (hg : ∀ d ∈ ds, ∀ s H c cl fp, ∃ g, PG (blkX X scope s H c cl fp) tg g ∧ ∀ v σ H, Rp C X.K H v d → SD C X.K H σ (wipeD Γ (own.map (·.2))) → ∀ Q : L2.St → Hp → Prop, (∀ σ', SD C X.K H σ' (B d) → L2.wipe σ' (own.map (·.2)) = L2.wipe σ (own.map (·.2)) → Q σ' H) → g v σ H Q)
    (he : ∀ d ∈ ds, ∀ s H c cl fp, Dv C (blkX X scope s H c cl fp) elt (B d) (F d))
    (hlf : ∀ d ∈ ds, lf (F d) = true) (ww : ∀ σ : L2.St, L2.wipe (L2.wipe σ (own.map (·.2))) (own.map (·.2)) = L2.wipe σ (own.map (·.2))) (hs : ∀ x, foldedSetIterable iter X.env x = pure x := by intro _; rfl) :
    ∃ t, (PE X (.ListComp elt [⟨tg, iter, [], 0⟩] scope pos) t ∧ ∀ (i : Nat) (y : Str) (py : Pos), X.N[i]? = some y → X.env.scope.names.lookup y = some .local → swapsWith (.ListComp elt [⟨tg, iter, [], 0⟩] scope pos) (some (.Name y py)) spos.line X.env = pure true →
      PS X (.Assign [.Name y py] (.ListComp elt [⟨tg, iter, [], 0⟩] scope pos) spos) (tAsg t (gName i))) ∧ Evd C X.K t Γ (.lst (ds.map F)) := by
  obtain ⟨wi, pw, ew⟩ := hw
  let g : TG := fun v σ H Q => ∃ d ∈ ds, Rp C X.K H v d ∧ SD C X.K H σ (wipeD Γ (own.map (·.2))) ∧ ∀ σ', SD C X.K H σ' (B d) → L2.wipe σ' (own.map (·.2)) = L2.wipe σ (own.map (·.2)) → Q σ' H
  let te : TE := fun σ H Q => ∃ d ∈ ds, SD C X.K H σ (B d) ∧ ∀ v H2, Ex H H2 → Rp C X.K H2 v (F d) → Q v H2
  have pg : ∀ (s : Shared) (H : Hp) (c : Addr) (cl : List (Str × Addr)) (fp : List Addr), PG (X.blk s H scope (compEnvC scope cl c X.env) fp) tg g := fun s H c cl fp => ⟨fun pins s' σ H' v u Q I r ⟨d, hd, rd, hs', q⟩ => by
    obtain ⟨g1, p1, e1⟩ := hg d hd s H c cl fp
    exact p1.run pins s' σ H' v u Q I r (e1 v σ H' rd hs' Q q)⟩
  have pe : ∀ (s : Shared) (H : Hp) (c : Addr) (cl : List (Str × Addr)) (fp : List Addr), PE (X.blk s H scope (compEnvC scope cl c X.env) fp) elt te := fun s H c cl fp => ⟨fun pins s' σ H' Q I ⟨d, hd, hs', q⟩ => by
    obtain ⟨g1, p1, e1⟩ := he d hd s H c cl fp
    exact p1.run pins s' σ H' Q I (e1 σ H' hs' Q q)⟩
  refine ⟨tLc wi g tYes te (own.map (·.2)), ⟨pe_lc hc hN pw ok pg (fun s H c cl fp => pts_nil) pe hs, fun i y py hi hy hsw => ps_setLc hc hN hi hy hsw pw ok pg (fun s H c cl fp => pts_nil) pe hs⟩, ?_⟩
  have h := lc_read (X := X) (C := C) (Γ := Γ) (tt := tYes) (te := te) (g := g) (vs := own.map (·.2)) (fun _ => true) F B hlen ew (fun d hd v σ H r hs Q q => ⟨d, hd, r, hs, q⟩) (fun d hd σ H hs Q q => q H (Ex.refl H)) (fun d hd _ σ H hs Q q => ⟨d, hd, hs, q⟩) (fun d hd _ => hlf d hd) ww
  rw [List.filter_eq_self.mpr fun _ _ => rfl] at h
  exact h
end
end K28
set_option Elab.async false
set_option linter.all false
set_option maxRecDepth 100000
set_option maxHeartbeats 0
namespace K28
open PySem PySem.Spec PyProof.Rows L2 Evl

def top (i : Nat) : Stmt := PySem.Challenge.pw_drawarms_k28_whole_discs_and_rings.main.body.getD i (.Pass ⟨0, 0, 0, 0⟩)
abbrev s_is_whole : Stmt := top 11
abbrev s_are_wholes : Stmt := top 12
abbrev s_divisor_of : Stmt := top 13
abbrev s_lowest : Stmt := top 14
abbrev s_is_lowest : Stmt := top 15
abbrev s_is_led_up : Stmt := top 16
abbrev s_first_above : Stmt := top 17
abbrev s_sign_of : Stmt := top 18
abbrev s_is_place : Stmt := top 21
abbrev s_check_place : Stmt := top 22
abbrev s_is_ratio : Stmt := top 23
abbrev s_check_ratio : Stmt := top 24
abbrev s_bend : Stmt := top 26
abbrev s_is_row : Stmt := top 27
abbrev s_value_of : Stmt := top 28
abbrev s_joint : Stmt := top 29
abbrev s_is_fraction : Stmt := top 31
abbrev s_is_ring : Stmt := top 32
abbrev s_dot : Stmt := top 36
abbrev s_plane_of : Stmt := top 38
abbrev s_spots_of : Stmt := top 40
abbrev s_mean_side : Stmt := top 45
abbrev s_signs_along : Stmt := top 48
abbrev s_with_side : Stmt := top 49
abbrev s_around : Stmt := top 50
abbrev s_merged : Stmt := top 52
abbrev s_spots_on : Stmt := top 53
abbrev s_all_fields : Stmt := top 54
abbrev s_signs_at : Stmt := top 55
abbrev s_signs_near_far : Stmt := top 56
abbrev s_is_tree : Stmt := top 62
abbrev s_trees_in : Stmt := top 63
abbrev s_leaf_rows : Stmt := top 64
abbrev s_leaf_holds : Stmt := top 65
abbrev s_tree_holds : Stmt := top 66
abbrev s_check_many : Stmt := top 68
abbrev s_check_lot : Stmt := top 69
abbrev s_rounds_of_two : Stmt := top 70
abbrev s_lot_with : Stmt := top 71
abbrev s_has_signs : Stmt := top 72
abbrev s_holds : Stmt := top 73
abbrev s_check_two_lots : Stmt := top 74
abbrev s_both : Stmt := top 75
abbrev s_either : Stmt := top 76
abbrev s_rest : Stmt := top 77
abbrev s_row_outside : Stmt := top 78
abbrev s_opposite : Stmt := top 79
abbrev s_ring_sides : Stmt := top 80
abbrev s_disc_tree : Stmt := top 81
abbrev s_ring_tree : Stmt := top 82
abbrev s_fields_in : Stmt := top 84
abbrev s_near_fields_in : Stmt := top 85
abbrev s_is_open : Stmt := top 86
abbrev s_open_in : Stmt := top 87
abbrev s_is_empty : Stmt := top 88
abbrev s_has_near_place : Stmt := top 89
abbrev s_rounds_asked : Stmt := top 90
abbrev s_lies_inside : Stmt := top 91
abbrev s_is_same : Stmt := top 92
abbrev s_is_open_somewhere : Stmt := top 93
abbrev s_is_bounded : Stmt := top 94
abbrev s__law_sack : Stmt := top 96
abbrev s__law_grab : Stmt := top 97
abbrev s__law_one : Stmt := top 98
abbrev s__law_wide : Stmt := top 99
abbrev s__law_whole : Stmt := top 100
abbrev s__law_gcd : Stmt := top 101
abbrev s__law_low : Stmt := top 102
abbrev s__law_minus : Stmt := top 103
abbrev s__law_spot : Stmt := top 104
abbrev s__law_near_spot : Stmt := top 105
abbrev s__law_apart : Stmt := top 106
abbrev s__law_part : Stmt := top 107
abbrev s__law_under : Stmt := top 108
abbrev s__law_ring : Stmt := top 109
abbrev s__law_ring_row : Stmt := top 110
abbrev s__law_right : Stmt := top 111
abbrev s_law : Stmt := top 112
abbrev s_Lot_init : Stmt := inClass (top 67) 0
abbrev s_Lot_tree : Stmt := inClass (top 67) 1
abbrev s_Lot_rounds : Stmt := inClass (top 67) 2

/-! ### the head: what stands behind the top, by names -/
structure Df where
  at_ : PySem.W.Frag → Addr
  name : Str
  qual : Str
  st : Stmt
abbrev FnV' : Type := Option (Str × Str × Arguments × FuncBody × Scope × Addr × List (Str × Addr) × Value × Addr)
def nine (f : FuncData) : FnV' := some (f.name, f.qualname, f.params, f.body, f.scope, f.globals, f.closure, f.defaults, f.builtins)
def fnA (K : PySem.W.Frag) (a : Addr) : FnV' := match K.lookup a with
  | some ⟨_, _, .func f, _⟩ => nine f
  | _ => none
def Df.val (d : Df) : FnV' := some (d.name, d.qual, defArgs d.st, .stmts (defBody d.st), defScope d.st, mainGlobals, [], .none, builtinsNs)
def Df.ok (K : PySem.W.Frag) (d : Df) : Bool := PySem.W.keepIn K (.ref (d.at_ K)) && (match K.lookup (d.at_ K) with
  | some ⟨_, _, .func f, _⟩ => PySem.W.codeIn K f.code d.qual
  | _ => false)
theorem Df.fun_ {K : PySem.W.Frag} {d : Df} (e : fnA K (d.at_ K) = d.val) (c : d.ok K = true) : ∃ fd, Fun K d.name d.qual d.st (d.at_ K) fd := by
  have both := He.ba c
  unfold fnA at e
  rcases z : K.lookup (d.at_ K) with _ | ⟨oc, od, dt, osl⟩
  · have y := both.2
    rw [z] at y
    cases y
  · rw [z] at e
    cases dt with
    | func f =>
      rcases f with ⟨u1, u2, u3, u4, u5, u6, u7, u8, u9, u10, u11, u12, u13, u14, u15⟩
      have nine_eq := Option.some.inj (show (some (u1, u2, u3, u4, u5, u6, u7, u8, u15) : FnV') = some (d.name, d.qual, defArgs d.st, .stmts (defBody d.st), defScope d.st, mainGlobals, [], .none, builtinsNs) from e)
      simp only [Prod.mk.injEq] at nine_eq
      rcases nine_eq with ⟨rfl, rfl, rfl, rfl, rfl, rfl, rfl, rfl, rfl⟩
      exact ⟨_, ⟨oc, od, u9, u10, u11, u12, u13, u14, osl, rfl, z, by have y := both.2; rw [z] at y; exact y⟩, both.1⟩
    | _ => cases e
def propAt (K : PySem.W.Frag) (C f : Str) : Addr := match PySem.W.recIn K (He.ma K (He.ga K C) f) "property" with
  | some (.ref g :: _) => g
  | _ => 0
/-- a property of the class: what pe_prop asks -/
def propB (K : PySem.W.Frag) (C f : Str) : Bool := He.eqO (PySem.W.findIn K (.ref (He.ga K C)) f) (some (some (.ref (He.ma K (He.ga K C) f)))) &&
  (He.eqO (PySem.W.specialIn K (.ref (He.ma K (He.ga K C) f)) "__get__") (some (some (.builtin "property.__get__"))) && (decide (PySem.W.takesIn K (.ref (He.ma K (He.ga K C) f)) = some true) && (match PySem.W.recIn K (He.ma K (He.ga K C) f) "property" with
  | some (.ref _ :: _) => true
  | _ => false)))
theorem propB_ok {K : PySem.W.Frag} {C f : Str} (h : propB K C f = true) : PropOf K (He.ga K C) f (He.ma K (He.ga K C) f) (propAt K C f) := by
  obtain ⟨h1, h⟩ := He.ba h
  obtain ⟨h2, h⟩ := He.ba h
  obtain ⟨h3, h⟩ := He.ba h
  refine ⟨He.eqO_ok h1, He.eqO_ok h2, of_decide_eq_true h3, ?_⟩
  unfold propAt
  cases e : PySem.W.recIn K (He.ma K (He.ga K C) f) "property" with
  | none => exact absurd h (by rw [e]; decide)
  | some l =>
    rw [e] at h
    cases l with
    | nil => cases h
    | cons a r => cases a <;> first | exact ⟨r, rfl⟩ | cases h
/-- what is besides asked of the written part -/
def exB (K : PySem.W.Frag) : Bool :=
  He.eqO (PySem.W.nsIn K mainGlobals "gcd") (some (some (.builtin "math.gcd"))) &&
  (He.tupB K "FAR" [.int 1, .int 0, .int 0] &&
  (He.eqO (PySem.W.findIn K (.ref (He.ga K "Lot")) "__class__") (some (some (.builtin "object.__class__"))) &&
  (He.eqO (PySem.W.specialIn K (.builtin "object.__class__") "__get__") (some (some (.builtin "getset_descriptor.__get__"))) &&
  (decide (PySem.W.takesIn K (.builtin "object.__class__") = some true) &&
  (decide (PySem.W.mroIn K (He.ga K "Lot") (.type "object") = some true) &&
  (decide (PySem.W.kitOne K (.ref (He.ga K "Lot")) (.ref (He.ga K "Lot")) = some true) &&
  (propB K "Lot" "tree" && (propB K "Lot" "rounds" &&
  (decide (PySem.W.kitOne K (.type "int") (.type "int") = some true) && (decide (PySem.W.kitOne K (.type "int") (.type "bool") = some false) &&
  (decide (PySem.W.kitOne K (.type "tuple") (.type "tuple") = some true) && decide (PySem.W.kitOne K (.type "str") (.type "str") = some true))))))))))))
abbrev AlK : Type := Bool × List FnV'
def obsK (fa : List He.Fa) (fn : List Df) (K : PySem.W.Frag) : AlK := (((fa.all fun f => f.ok K) && fn.all fun d => d.ok K) && exB K, fn.map fun d => fnA K (d.at_ K))
def valK (fn : List Df) : AlK := (true, fn.map Df.val)
def SaysK (fa : List He.Fa) (fn : List Df) (K : PySem.W.Frag) : Prop := obsK fa fn K = valK fn
def obsKG (n : List Addr) (fa : List He.Fa) (fn : List Df) (g : Addr → Option Obj) : AlK := obsK fa fn (He.frG g n)
def hookK (n : List Addr) (fa : List He.Fa) (fn : List Df) : PySem.W.Hook where
  α := AlK
  obs := fun s => obsKG n fa fn s.heap.get?
  val := fun _ => valK fn
  says := fun _ h => ∃ K : PySem.W.Frag, K.In h ∧ SaysK fa fn K
  of := fun _ _ e => ⟨_, He.frG_in, e⟩
  keeps := fun _ _ _ y k => let ⟨K, i, c⟩ := y; ⟨K, i.keeps k, c⟩
theorem obsKG_eq {n : List Addr} {fa : List He.Fa} {fn : List Df} {g : Addr → Option Obj} {s : Shared} (h : ∀ a, g a = s.heap.get? a) : obsKG n fa fn g = (hookK n fa fn).obs s := by
  cases (funext h : g = s.heap.get?)
  rfl
section
variable {fa : List He.Fa} {fn : List Df} {K : PySem.W.Frag}
theorem SaysK.fact (c : SaysK fa fn K) (i : Nat) {f : He.Fa} (h : fa[i]? = some f := by rfl) : f.ok K = true := by
  have c1 := (He.ba (He.ba (show (((fa.all fun f => f.ok K) && fn.all fun d => d.ok K) && exB K) = true from congrArg (fun z : AlK => z.1) c)).1).1
  exact (List.all_eq_true.mp c1) _ (List.mem_of_getElem? h)
theorem SaysK.more (c : SaysK fa fn K) : exB K = true := (He.ba (show (((fa.all fun f => f.ok K) && fn.all fun d => d.ok K) && exB K) = true from congrArg (fun z : AlK => z.1) c)).2
theorem SaysK.def_ (c : SaysK fa fn K) (i : Nat) {d : Df} (h : fn[i]? = some d := by rfl) : ∃ fd, Fun K d.name d.qual d.st (d.at_ K) fd := by
  have c2 := (He.ba (He.ba (show (((fa.all fun f => f.ok K) && fn.all fun d => d.ok K) && exB K) = true from congrArg (fun z : AlK => z.1) c)).1).2
  have e : fn.map (fun d => fnA K (d.at_ K)) = fn.map Df.val := congrArg (fun z : AlK => z.2) c
  have e2 : (fn.map fun d => fnA K (d.at_ K))[i]? = (fn.map Df.val)[i]? := by rw [e]
  simp only [List.getElem?_map, h] at e2
  exact Df.fun_ (Option.some.inj e2) (List.all_eq_true.mp c2 d (List.mem_of_getElem? h))
end

def as : List Addr := ([2, 3, 43, 50, 51, 52, 53, 56, 63, 65, 66, 68, 69, 70, 71, 72, 75, 82, 84, 85, 87, 88, 89, 90, 91, 94, 101, 103, 104, 106, 107, 108, 109, 110, 113, 120, 122, 123, 125, 126, 127, 128, 129, 132, 139, 141, 142, 144, 145, 146, 147, 148, 151, 158, 160, 161, 163, 164, 165, 166] : List Nat) ++ ([167, 170, 177, 179, 180, 182, 183, 184, 185, 186, 189, 191, 192, 194, 195, 196, 199, 200, 201, 203, 204, 206, 207, 208, 211, 212, 213, 215, 216, 218, 219, 220, 222, 223, 225, 226, 227, 230, 231, 232, 234, 235, 237, 238, 239, 240, 242, 243, 245, 246, 247, 249, 250, 252, 253, 254, 256, 257, 259, 260] : List Nat) ++ ([261, 263, 264, 266, 267, 268, 270, 271, 273, 274, 275, 277, 278, 280, 281, 282, 284, 285, 287, 288, 289, 291, 292, 294, 295, 296, 298, 299, 301, 302, 303, 305, 306, 308, 309, 310, 311, 312, 313, 315, 316, 318, 319, 320, 322, 323, 325, 326, 327, 329, 330, 332, 333, 334, 336, 337, 339, 340, 341, 344] : List Nat) ++ ([345, 346, 348, 349, 351, 352, 353, 355, 356, 358, 359, 360, 362, 363, 365, 366, 367, 370, 371, 372, 374, 375, 377, 378, 379, 381, 382, 384, 385, 386, 389, 390, 391, 394, 395, 396, 398, 399, 401, 402, 403, 406, 407, 408, 411, 412, 413, 416, 417, 418, 421, 422, 423, 426, 427, 428, 431, 432, 433, 436] : List Nat) ++ ([437, 438, 440, 441, 443, 444, 445, 448, 449, 450, 452, 453, 455, 456, 457, 460, 461, 469, 471, 472, 474, 475, 476, 478, 479, 481, 482, 483, 484, 486, 487, 489, 490, 491, 492, 493, 494, 495, 496, 499, 501, 502, 504, 505, 506, 508, 509, 511, 512, 513, 515, 516, 518, 519, 520, 522, 523, 525, 526, 527] : List Nat) ++ ([529, 530, 532, 533, 534, 536, 537, 539, 540, 541, 543, 544, 546, 547, 548, 550, 551, 553, 554, 555, 557, 558, 560, 561, 562, 564, 565, 567, 568, 569, 571, 572, 574, 575, 576, 579, 580, 581, 583, 584, 586, 587, 588, 590, 591, 593, 594, 595, 598, 599, 600, 603, 604, 605, 608, 609, 610, 612, 613, 615] : List Nat) ++ ([616, 617, 620, 621, 622, 624, 625, 627, 628, 629, 631, 632, 634, 635, 636, 638, 639, 641, 642, 643, 646, 647, 648, 650, 651, 653, 654, 655, 657, 658, 660, 661, 662, 665, 666, 667, 669, 670, 672, 673, 674, 676, 677, 679, 680, 681, 683, 684, 686, 687, 688, 690, 691, 693, 694, 695, 697, 698, 700, 701] : List Nat) ++ ([702, 704, 705, 707, 708, 709, 712, 713, 714, 717, 718, 719, 721, 722, 724, 725, 726, 728, 729, 731, 732, 733, 735, 736, 738, 739, 740, 742, 743, 745, 746, 747, 749, 750, 752, 753, 754, 756, 757, 759, 760, 761, 763, 764, 766, 767, 768, 771, 772, 773, 776, 777] : List Nat)
def fn : List Df := [⟨fun K => He.ga K "is_whole", "is_whole", "is_whole", s_is_whole⟩,
  ⟨fun K => He.ga K "are_wholes", "are_wholes", "are_wholes", s_are_wholes⟩,
  ⟨fun K => He.ga K "divisor_of", "divisor_of", "divisor_of", s_divisor_of⟩,
  ⟨fun K => He.ga K "lowest", "lowest", "lowest", s_lowest⟩,
  ⟨fun K => He.ga K "is_lowest", "is_lowest", "is_lowest", s_is_lowest⟩,
  ⟨fun K => He.ga K "is_led_up", "is_led_up", "is_led_up", s_is_led_up⟩,
  ⟨fun K => He.ga K "first_above", "first_above", "first_above", s_first_above⟩,
  ⟨fun K => He.ga K "sign_of", "sign_of", "sign_of", s_sign_of⟩,
  ⟨fun K => He.ga K "is_place", "is_place", "is_place", s_is_place⟩,
  ⟨fun K => He.ga K "check_place", "check_place", "check_place", s_check_place⟩,
  ⟨fun K => He.ga K "is_ratio", "is_ratio", "is_ratio", s_is_ratio⟩,
  ⟨fun K => He.ga K "check_ratio", "check_ratio", "check_ratio", s_check_ratio⟩,
  ⟨fun K => He.ga K "bend", "bend", "bend", s_bend⟩,
  ⟨fun K => He.ga K "is_row", "is_row", "is_row", s_is_row⟩,
  ⟨fun K => He.ga K "value_of", "value_of", "value_of", s_value_of⟩,
  ⟨fun K => He.ga K "joint", "joint", "joint", s_joint⟩,
  ⟨fun K => He.ga K "is_fraction", "is_fraction", "is_fraction", s_is_fraction⟩,
  ⟨fun K => He.ga K "is_ring", "is_ring", "is_ring", s_is_ring⟩,
  ⟨fun K => He.ga K "dot", "dot", "dot", s_dot⟩,
  ⟨fun K => He.ga K "plane_of", "plane_of", "plane_of", s_plane_of⟩,
  ⟨fun K => He.ga K "spots_of", "spots_of", "spots_of", s_spots_of⟩,
  ⟨fun K => He.ga K "mean_side", "mean_side", "mean_side", s_mean_side⟩,
  ⟨fun K => He.ga K "signs_along", "signs_along", "signs_along", s_signs_along⟩,
  ⟨fun K => He.ga K "with_side", "with_side", "with_side", s_with_side⟩,
  ⟨fun K => He.ga K "around", "around", "around", s_around⟩,
  ⟨fun K => He.ga K "merged", "merged", "merged", s_merged⟩,
  ⟨fun K => He.ga K "spots_on", "spots_on", "spots_on", s_spots_on⟩,
  ⟨fun K => He.ga K "all_fields", "all_fields", "all_fields", s_all_fields⟩,
  ⟨fun K => He.ga K "signs_at", "signs_at", "signs_at", s_signs_at⟩,
  ⟨fun K => He.ga K "signs_near_far", "signs_near_far", "signs_near_far", s_signs_near_far⟩,
  ⟨fun K => He.ga K "is_tree", "is_tree", "is_tree", s_is_tree⟩,
  ⟨fun K => He.ga K "trees_in", "trees_in", "trees_in", s_trees_in⟩,
  ⟨fun K => He.ga K "leaf_rows", "leaf_rows", "leaf_rows", s_leaf_rows⟩,
  ⟨fun K => He.ga K "leaf_holds", "leaf_holds", "leaf_holds", s_leaf_holds⟩,
  ⟨fun K => He.ga K "tree_holds", "tree_holds", "tree_holds", s_tree_holds⟩,
  ⟨fun K => He.ga K "check_many", "check_many", "check_many", s_check_many⟩,
  ⟨fun K => He.ga K "check_lot", "check_lot", "check_lot", s_check_lot⟩,
  ⟨fun K => He.ga K "rounds_of_two", "rounds_of_two", "rounds_of_two", s_rounds_of_two⟩,
  ⟨fun K => He.ga K "lot_with", "lot_with", "lot_with", s_lot_with⟩,
  ⟨fun K => He.ga K "has_signs", "has_signs", "has_signs", s_has_signs⟩,
  ⟨fun K => He.ga K "holds", "holds", "holds", s_holds⟩,
  ⟨fun K => He.ga K "check_two_lots", "check_two_lots", "check_two_lots", s_check_two_lots⟩,
  ⟨fun K => He.ga K "both", "both", "both", s_both⟩,
  ⟨fun K => He.ga K "either", "either", "either", s_either⟩,
  ⟨fun K => He.ga K "rest", "rest", "rest", s_rest⟩,
  ⟨fun K => He.ga K "row_outside", "row_outside", "row_outside", s_row_outside⟩,
  ⟨fun K => He.ga K "opposite", "opposite", "opposite", s_opposite⟩,
  ⟨fun K => He.ga K "ring_sides", "ring_sides", "ring_sides", s_ring_sides⟩,
  ⟨fun K => He.ga K "disc_tree", "disc_tree", "disc_tree", s_disc_tree⟩,
  ⟨fun K => He.ga K "ring_tree", "ring_tree", "ring_tree", s_ring_tree⟩,
  ⟨fun K => He.ga K "fields_in", "fields_in", "fields_in", s_fields_in⟩,
  ⟨fun K => He.ga K "near_fields_in", "near_fields_in", "near_fields_in", s_near_fields_in⟩,
  ⟨fun K => He.ga K "is_open", "is_open", "is_open", s_is_open⟩,
  ⟨fun K => He.ga K "open_in", "open_in", "open_in", s_open_in⟩,
  ⟨fun K => He.ga K "is_empty", "is_empty", "is_empty", s_is_empty⟩,
  ⟨fun K => He.ga K "has_near_place", "has_near_place", "has_near_place", s_has_near_place⟩,
  ⟨fun K => He.ga K "rounds_asked", "rounds_asked", "rounds_asked", s_rounds_asked⟩,
  ⟨fun K => He.ga K "lies_inside", "lies_inside", "lies_inside", s_lies_inside⟩,
  ⟨fun K => He.ga K "is_same", "is_same", "is_same", s_is_same⟩,
  ⟨fun K => He.ga K "is_open_somewhere", "is_open_somewhere", "is_open_somewhere", s_is_open_somewhere⟩,
  ⟨fun K => He.ga K "is_bounded", "is_bounded", "is_bounded", s_is_bounded⟩,
  ⟨fun K => He.ga K "_law_sack", "_law_sack", "_law_sack", s__law_sack⟩,
  ⟨fun K => He.ga K "_law_grab", "_law_grab", "_law_grab", s__law_grab⟩,
  ⟨fun K => He.ga K "_law_one", "_law_one", "_law_one", s__law_one⟩,
  ⟨fun K => He.ga K "_law_wide", "_law_wide", "_law_wide", s__law_wide⟩,
  ⟨fun K => He.ga K "_law_whole", "_law_whole", "_law_whole", s__law_whole⟩,
  ⟨fun K => He.ga K "_law_gcd", "_law_gcd", "_law_gcd", s__law_gcd⟩,
  ⟨fun K => He.ga K "_law_low", "_law_low", "_law_low", s__law_low⟩,
  ⟨fun K => He.ga K "_law_minus", "_law_minus", "_law_minus", s__law_minus⟩,
  ⟨fun K => He.ga K "_law_spot", "_law_spot", "_law_spot", s__law_spot⟩,
  ⟨fun K => He.ga K "_law_near_spot", "_law_near_spot", "_law_near_spot", s__law_near_spot⟩,
  ⟨fun K => He.ga K "_law_apart", "_law_apart", "_law_apart", s__law_apart⟩,
  ⟨fun K => He.ga K "_law_part", "_law_part", "_law_part", s__law_part⟩,
  ⟨fun K => He.ga K "_law_under", "_law_under", "_law_under", s__law_under⟩,
  ⟨fun K => He.ga K "_law_ring", "_law_ring", "_law_ring", s__law_ring⟩,
  ⟨fun K => He.ga K "_law_ring_row", "_law_ring_row", "_law_ring_row", s__law_ring_row⟩,
  ⟨fun K => He.ga K "_law_right", "_law_right", "_law_right", s__law_right⟩,
  ⟨fun K => He.ga K "law", "law", "law", s_law⟩,
  ⟨fun K => He.ma K (He.ga K "Lot") "__init__", "__init__", "Lot.__init__", s_Lot_init⟩,
  ⟨fun K => propAt K "Lot" "tree", "tree", "Lot.tree", s_Lot_tree⟩,
  ⟨fun K => propAt K "Lot" "rounds", "rounds", "Lot.rounds", s_Lot_rounds⟩]
def fa : List He.Fa := [.glo "is_whole", .glo "are_wholes", .glo "divisor_of", .glo "lowest", .glo "is_lowest", .glo "is_led_up", .glo "first_above", .glo "sign_of", .glo "is_place", .glo "check_place", .glo "is_ratio", .glo "check_ratio", .glo "bend", .glo "is_row", .glo "value_of", .glo "joint", .glo "is_fraction", .glo "is_ring", .glo "dot", .glo "plane_of", .glo "spots_of", .glo "mean_side", .glo "signs_along", .glo "with_side", .glo "around", .glo "merged", .glo "spots_on", .glo "all_fields", .glo "signs_at", .glo "signs_near_far", .glo "is_tree", .glo "trees_in", .glo "leaf_rows", .glo "leaf_holds", .glo "tree_holds", .glo "check_many", .glo "check_lot", .glo "rounds_of_two", .glo "lot_with", .glo "has_signs", .glo "holds", .glo "check_two_lots", .glo "both", .glo "either", .glo "rest", .glo "row_outside", .glo "opposite", .glo "ring_sides", .glo "disc_tree", .glo "ring_tree", .glo "fields_in", .glo "near_fields_in", .glo "is_open", .glo "open_in", .glo "is_empty", .glo "has_near_place", .glo "rounds_asked", .glo "lies_inside", .glo "is_same", .glo "is_open_somewhere", .glo "is_bounded", .glo "_law_sack", .glo "_law_grab", .glo "_law_one", .glo "_law_wide", .glo "_law_whole", .glo "_law_gcd", .glo "_law_low", .glo "_law_minus", .glo "_law_spot", .glo "_law_near_spot", .glo "_law_apart", .glo "_law_part", .glo "_law_under", .glo "_law_ring", .glo "_law_ring_row", .glo "_law_right", .glo "law", .free "isinstance", .free "len", .free "all", .free "any", .free "tuple", .free "list", .free "int", .free "bool", .free "str", .free "abs", .free "max", .free "min", .free "sum", .free "range", .free "sorted", .free "set", .free "repr", .free "divmod", .free "enumerate", .int "MOST_LEAVES" 24, .int "MOST_DEEP" 6, .int "MOST_TREES" 8, .int "MOST_ROUNDS" 8, .glo "FAR", .glo "Lot", .cls "Lot", .mkr "Lot", .noat "Lot" "_tree", .noat "Lot" "_rounds"]
abbrev R : PySem.W.OpenRow := PySem.W.OpenLaw.row PySem.Challenge.rw_drawarms_k28_whole_discs_and_rings
abbrev hk : PySem.W.Hook := hookK as fa fn
def ob (s : PySem.W.SharedT) : AlK := obsKG as fa fn (HandSHeadRun.getT s)
theorem ob_eq (s : PySem.W.SharedT) : ob s = hk.obs s.abs := obsKG_eq (HandSHeadRun.getT_eq s)
def loose0 : List PySem.Str := ["ArmError", "InvalidPlace", "InvalidRatio", "InvalidRing", "InvalidLot", "InvalidFraction", "NotALot", "TooMany", "is_whole", "are_wholes", "divisor_of", "lowest", "is_lowest", "is_led_up", "first_above", "sign_of", "FAR", "is_place", "check_place", "is_ratio"]
def loose1 : List PySem.Str := ["check_ratio", "bend", "is_row", "value_of", "joint", "is_fraction", "is_ring", "STILL", "FAR_SPOT", "dot", "cross", "plane_of", "sign_with_root", "spots_of", "side_on", "turn_on", "is_far_spot", "signs_on", "mean_side", "side_behind"]
def loose2 : List PySem.Str := ["signs_behind", "signs_along", "with_side", "around", "merged", "spots_on", "all_fields", "signs_at", "signs_near_far", "MOST_LEAVES", "MOST_DEEP", "MOST_TREES", "MOST_ROUNDS", "is_tree", "trees_in", "leaf_rows", "leaf_holds", "tree_holds", "Lot", "check_many"]
def loose3 : List PySem.Str := ["check_lot", "rounds_of_two", "lot_with", "has_signs", "holds", "check_two_lots", "both", "either", "rest", "row_outside", "opposite", "ring_sides", "disc_tree", "ring_tree", "fields_in", "near_fields_in", "is_open", "open_in", "is_empty", "has_near_place"]
def loose4 : List PySem.Str := ["rounds_asked", "lies_inside", "is_same", "is_open_somewhere", "is_bounded", "_law_sack", "_law_grab", "_law_one", "_law_wide", "_law_whole", "_law_gcd", "_law_low", "_law_minus", "_law_spot", "_law_near_spot", "_law_apart", "_law_part", "_law_under", "_law_ring", "_law_ring_row"]
def loose5 : List PySem.Str := ["_law_right"]
def loose : List PySem.Str := loose0 ++ loose1 ++ loose2 ++ loose3 ++ loose4 ++ loose5
abbrev qv : Program := PySem.W.view R.prog [0, 112]
theorem run (w : World) : HandSHeadRun.RunEqI R qv hk ob 8000 loose w := by
  unfold HandSHeadRun.RunEqI
  kernel_rfl
end K28
set_option Elab.async false
set_option linter.all false
set_option maxRecDepth 100000
set_option maxHeartbeats 0
namespace K28
open PySem PySem.Spec PyProof.Rows L2 Evl

/-! ### a truth value less a truth value -/
section
variable {w : World} {prog : Program} {A : Around} {s : Shared} {E : Value → Shared → Prop}
theorem bb_sub (a b : Bool) : Gives (Builtin.«int.__sub__» ⟨[.bool a, .bool b], []⟩) (.int ((if a = true then (1 : Int) else 0) - if b = true then (1 : Int) else 0)) :=
  .of_wp fun _ _ _ s _ h => by
    rcases s with ⟨_, _, _, _, _⟩
    wp_walk
    exact ⟨_, rfl, h⟩
theorem sub_bools {a b : Bool} {Q : Value → Shared → Prop} (h : Q (.int ((if a = true then (1 : Int) else 0) - if b = true then (1 : Int) else 0) s.toks) { s with toks := s.toks + 1 }) :
    wpAny (model prog w) A (binaryOp .Sub (.bool a) (.bool b)) Q E s :=
  binaryOp_gives (op := .Sub) (T := "bool") (a := .bool a) (b := .bool b) rfl rfl F.fills_bool_sub F.slot_bool_sub F.entry_int_sub (F.args_int_sub_2 _ _) (bb_sub a b) trivial h
end
def b2 (k : Bool) : Int := if k = true then 1 else 0
section
variable {C : Addr} {X : Cx} {Γ : Env'} {a b c e o : Expr} {es : List Expr} {pos p apos : Pos} {d da db : Dt} {ds us : List Dt}
theorem op_sub_bb : OpR X (binaryOp .Sub) (fun x y H Q => ∃ i k, x = .bl i ∧ y = .bl k ∧ Q (.int (b2 i - b2 k)) H) := by
  intro _ _ _ H _ _ _ _ _ I rx ry ⟨i, k, ex, ey, q⟩
  subst ex ey
  cases rx
  cases ry
  exact sub_bools ⟨.int (b2 i - b2 k), H, I.tok _, ⟨_, rfl⟩, q⟩
theorem dv_subB {i j : Bool} (ha : Dv C X a Γ (.bl i)) (hb : Dv C X b Γ (.bl j)) : Dv C X (.BinOp a .Sub b pos) Γ (.int (b2 i - b2 j)) :=
  dv_op op_sub_bb ha hb fun _ _ H _ r1 r2 q => by cases r1; cases r2; exact ⟨i, j, rfl, rfl, q _ H (Ex.refl H) (.int _)⟩
/-- lists put together -/
theorem dv_cat {us ws : List Dt} (ha : Dv C X a Γ (.lst us)) (hb : Dv C X b Γ (.lst ws)) (h : us.length + ws.length ≤ 100000) : Dv C X (.BinOp a .Add b pos) Γ (.lst (us ++ ws)) :=
  dv_op op_cat ha hb fun _ _ H _ r1 r2 q => by
    cases r1 with
    | lst h1 x1 =>
      cases r2 with
      | lst h2 x2 => exact ⟨_, _, _, _, rfl, rfl, h1, h2, by rw [x1.length, x2.length]; exact sz_of h, fun p hp => q _ _ (Ex.new hp) (.lst upd_same ((x1.mono (Ex.new hp)).append (x2.mono (Ex.new hp))))⟩

/-! ### the class of lots -/
/-- a property of lots -/
theorem dv_prop {k : Nat} {f : Str} {pp g : Addr} {fd : FuncData} {t r : Dt} {R : List Dt → Dt → Prop} (he : Dv C X e Γ (.lot t r)) (c : Cls X.K C) (hp : PropOf X.K C f pp g) (F : FnOk X.prog X.w X.K X.mg X.base CX0 k g fd ["self"] (spD C X.K R)) (hR : R [.lot t r] d)
    (hr : Room (k + 1) X.A) (hb : Binds X.K fd ["self"] []) (hab : attributeBase e f X.env (eval e X.env) = eval e X.env := by rfl) : Dv C X (.Attribute e f pos) Γ d := by
  obtain ⟨ta, pa, ea⟩ := he
  exact ⟨_, pe_prop pa c hp F hr hb .nil pass0 hab, fun σ H hs Q q => ea σ H hs _ fun x H1 e1 r1 => by
    cases r1 with
    | lot h l1 l2 r1 r2 n => exact ⟨_, _, _, rfl, h, [.lot t r], d, hR, .cons (.lot h l1 l2 r1 r2 n) .nil, fun v H2 e2 r => q v H2 (e1.trans e2) r⟩⟩
/-- a field of lots -/
theorem dv_fldT {t r : Dt} (he : Dv C X e Γ (.lot t r)) (c : Cls X.K C) (n : NoAttr X.K C "_tree") (hab : attributeBase e "_tree" X.env (eval e X.env) = eval e X.env := by rfl) : Dv C X (.Attribute e "_tree" pos) Γ t := by
  obtain ⟨ta, pa, ea⟩ := he
  exact ⟨_, pe_fld pa hab, fun σ H hs Q q => ea σ H hs _ fun x H1 e1 r1 => by
    cases r1 with
    | lot h l1 l2 r1 r2 _ => exact ⟨_, C, _, _, _, rfl, h, c, n, l1, q _ H1 e1 r1⟩⟩
theorem dv_fldR {t r : Dt} (he : Dv C X e Γ (.lot t r)) (c : Cls X.K C) (n : NoAttr X.K C "_rounds") (hab : attributeBase e "_rounds" X.env (eval e X.env) = eval e X.env := by rfl) : Dv C X (.Attribute e "_rounds" pos) Γ r := by
  obtain ⟨ta, pa, ea⟩ := he
  exact ⟨_, pe_fld pa hab, fun σ H hs Q q => ea σ H hs _ fun x H1 e1 r1 => by
    cases r1 with
    | lot h l1 l2 r1 r2 _ => exact ⟨_, C, _, _, _, rfl, h, c, n, l2, q _ H1 e1 r2⟩⟩

/-! ### where a thing stands in a tuple -/
theorem read_item {h : Heap} {its : List Value} {ds : List PyData} (e : its.map (SeqAt.readOf h) = ds) {i : Nat} (hi : i < its.length) {z : PyData} (hz : ds[i]? = some z) : SeqAt.readOf h its[i] = z := by
  subst e
  simpa [hi] using hz
theorem mt_tindexD (hu : X.A.units + 65 < cLine) : MtR X "tuple.index" (fun x xs H Q => ∃ (a : Addr) (y : V) (d : PyData) (ds : List PyData) (j : Nat) (z : PyData), x = .ref a ∧ xs = [y] ∧ L2.Dp X.K H (.ref a) (.tuple ds) ∧ L2.Dp X.K H y d ∧
    SeqAt.shaped (.tuple ds) = true ∧ SeqAt.shaped d = true ∧ ds[j]? = some z ∧ PyData.eqv z d = true ∧ (∀ (m : Nat) (z' : PyData), m < j → ds[m]? = some z' → PyData.eqv z' d = false) ∧ Q (.int (j : Nat)) H) := by
  rintro pins s σ H _ _ _ us Q I rx rxs ⟨a, y, d, ds, j, z, rfl, rfl, ht, hy, st, sd, hz, here, before, q⟩
  cases rx
  obtain ⟨uy, rfl, ry⟩ := vals1 rxs
  obtain ⟨bs, ready⟩ := L2.Dp.reads I d y uy hy ry
  have cl := SeqAt.canLay_of_shaped st
  cases ht with
  | tup hs items =>
    obtain ⟨its, rv, ⟨⟨cls, dd, data, sls⟩, at_a, hc, n, hdt⟩, _⟩ := I.tuple hs
    cases (show cls = _ from hc)
    cases (show data = _ from hdt)
    obtain ⟨as, all⟩ := L2.Dp.readsAll I ds _ its items rv
    have read := SeqAt.readsAll_map ds its as cl all
    have same : ds.length = its.length := by rw [← read, List.length_map]
    have lj : j < its.length := by
      rw [← same]
      exact (List.getElem?_eq_some_iff.mp hz).1
    refine call_meets PySem.F.slot_tuple_index ⟨_, at_a, rfl⟩ PySem.F.entry_tuple_index (PySem.F.args_tuple_index_2 _ _)
      (TI.tuple_indexAt a its.toArray n dd sls uy (fun u => PyData.eqv (SeqAt.readOf s.heap u) d) j (by simpa using lj) ?found ?earlier)
      ⟨at_a, SeqAt.items_eqAt (vs := its.toArray) all ready cl (SeqAt.canLay_of_shaped sd) (room_in_shaped sd hu), .int (j : Nat), H, I.tok _, ⟨_, rfl⟩, q⟩
    case found =>
      show (SeqAt.readOf s.heap its[j]).eqv d = true
      rw [read_item read lj hz, here]
    case earlier =>
      intro m hm hmj
      have lm : m < its.length := by simpa using hm
      show (SeqAt.readOf s.heap its[m]).eqv d = false
      rw [read_item read lm (List.getElem?_eq_getElem (same ▸ lm)), before m _ hmj (List.getElem?_eq_getElem (same ▸ lm))]
end
end K28
set_option Elab.async false
set_option linter.all false
set_option maxRecDepth 100000
set_option maxHeartbeats 0
namespace K28
open PySem PySem.Spec PyProof.Rows L2 Evl

/-! ### enumerate over a tuple -/
section
variable {w : World} {prog : Program} {A : Around} {s : Shared} {E : Value → Shared → Prop}
theorem meets_enum1 {v : Value} {o : Obj} {H : Heap → Prop} (B : Begins v o H) :
    Meets (Builtin.«enumerate.__new__» ⟨[.type "enumerate", v], []⟩) (fun _ R s => H s.heap ∧
      R (.ok (.ret (.ref (s.heap.push o).objs.size))) { s with heap := (s.heap.push o).push { cls := .type "enumerate", data := .fields #[.none, .bool false, .ref s.heap.objs.size, rawInt 0, .none, .none] } }) :=
  .of_wp fun prog w _ _ s hh => by
    rcases s with ⟨hp, g, d, tk, os⟩
    have hsub := sub_enumerate
    have start : ∀ {B' : Around} {F : Value → Shared → Prop} {Z : Value → Shared → Prop}, Z (.ref hp.objs.size) ⟨hp.push o, g, d, tk, os⟩ → wpAny (model prog w) B' (pyIter v) Z F ⟨hp, g, d, tk, os⟩ :=
      fun z => B.iter prog w _ _ ⟨hp, g, d, tk, os⟩ _ hh.1 z
    wp_walk using start
    apply wpAny_stack_any
    intro st
    apply wpAny_pure
    split
    · rename_i c _ _ _ _ _
      cases c == Value.type "enumerate" <;> (wp_walk using start; exact ⟨_, rfl, hh.2⟩)
    · wp_walk using start
      exact ⟨_, rfl, hh.2⟩
theorem enum1_begins {v : Value} {o : Obj} {H : Heap → Prop} {Q : Value → Shared → Prop} (B : Begins v o H) (h1 : H s.heap)
    (h : ∀ h', IsEnum h' (s.heap.objs.size + 1) s.heap.objs.size 0 .none → h'.get? s.heap.objs.size = some o → h'.objs.size = s.heap.objs.size + 2 →
      (∀ b u, s.heap.get? b = some u → h'.get? b = some u) → Q (.ref (s.heap.objs.size + 1)) { s with heap := h' }) :
    wpAny (model prog w) A (call (.type "enumerate") [v]) Q E s := by
  refine callType_new F.called_enumerate (by decide) (F.typeCall_enumerate_1 _) (F.newCall_enumerate_1 _) (fun obj => F.args_object_init_2 obj _) F.entry_enumerate_new (meets_enum1 B) ⟨h1, ?_⟩
  have next : (s.heap.push o).objs.size = s.heap.objs.size + 1 := Heap.size_push ..
  have stands := Heap.get?_push_size (s.heap.push o) (o := { cls := .type "enumerate", data := .fields #[.none, .bool false, .ref s.heap.objs.size, rawInt 0, .none, .none] }) rfl
  rw [next] at stands
  have src : (s.heap.push o).get? s.heap.objs.size = some o := Heap.get?_push_size _ B.free
  show _ ∧ _
  rw [next]
  exact ⟨⟨_, stands, rfl⟩, h _ stands (Heap.get?_push_of_some _ src) (by rw [Heap.size_push, next]) fun b u x => Heap.get?_push_of_some _ (Heap.get?_push_of_some _ x)⟩
end
/-- the tuple at a, its items in new pairs with their places -/
def ItE (K : PySem.W.Frag) (a : Addr) : It :=
  ⟨fun i H => ∃ (xs : List V) (x : V), SqT K H a xs ∧ xs[i]? = some x, fun i H v H' => ∃ T x, v = .ref T ∧ H T = none ∧ H' = upd H T (.tup [.int (i : Nat), x]) ∧ ∀ xs, SqT K H a xs → xs[i]? = some x, fun i H => ∃ xs : List V, SqT K H a xs ∧ xs.length ≤ i⟩
/-- where its iterator stands -/
def TnE (e it a : Addr) (i : Nat) (h : Heap) : Prop := (∃ old, IsEnum h e it ((i : Nat) : Int) old) ∧ h.IsTupleIter it a i ∧ e ≠ it
theorem apart_of {h : Heap} {b c : Addr} {o u : Obj} {n m : String} (h1 : h.get? b = some o) (h2 : h.get? c = some u) (c1 : o.cls = .type n) (c2 : u.cls = .type m) (d : n ≠ m) : b ≠ c := by
  rintro rfl
  rw [h1] at h2
  cases h2
  rw [c1] at c2
  injection c2 with z
  exact d z
/-- the end of a tuple's iterator -/
theorem endDraws {prog : Program} {w : World} {A : Around} (hh : A.handled = none) (it t : Addr) (items : Array Value) (i : Nat) (hi : items.size ≤ i) :
    Draws prog w A it [it, t] i (fun _ _ => True) (fun j h => j = i ∧ h.IsTupleIter it t i ∧ h.IsTuple t items) where
  live := fun _ _ st => let ⟨o, ho, _⟩ := st.2.1; ⟨o, ho⟩
  frame := fun _ _ _ st hk => ⟨st.1, (let ⟨o, ho, r⟩ := st.2.1; ⟨o, hk it (by simp) o ho, r⟩), (let ⟨o, ho, r⟩ := st.2.2; ⟨o, hk t (by simp) o ho, r⟩)⟩
  item := fun j s Q E hj st _ => absurd hj (by rw [st.1]; exact Nat.lt_irrefl _)
  done := fun s Q E st hE => wpAny_nextOf_tuple_end hh st.2.1 st.2.2 (by simp; omega) hE
theorem turn_enumT {P : Program} {w : World} {K : PySem.W.Frag} {elts : List Expr} {kk : Nat} {tpos : Pos} (a e it : Addr) :
    Turn P w K (.Tuple elts kk tpos) (ItE K a) [e, it] e (TnE e it a) where
  mem := by simp
  obj := fun i h st b hb => by
    obtain ⟨⟨old, he⟩, ⟨o, ho, _, hd⟩, _⟩ := st
    rcases (show b = e ∨ b = it by simpa using hb) with rfl | rfl
    · exact ⟨_, he, fun v q => nomatch q⟩
    · exact ⟨o, ho, fun v q => by rw [hd] at q; cases q⟩
  keep := fun i h h' st k => by
    obtain ⟨⟨old, he⟩, ⟨o, ho, r⟩, hne⟩ := st
    exact ⟨⟨old, k e (by simp) _ he⟩, ⟨o, k it (by simp) o ho, r⟩, hne⟩
  item := by
    rintro X rfl rfl rfl calm i pins s σ H E I free ⟨⟨old, at_e⟩, at_it, ne⟩ ⟨xs, x, sq, hx⟩
    obtain ⟨its, rv, T, room⟩ := I.tuple sq
    obtain ⟨u, got, rel⟩ := rv.get hx
    have T' : s.heap.IsTuple a its.toArray := T
    obtain ⟨oi, hoi, ci, _⟩ := id at_it
    obtain ⟨oa, hoa, ca, _⟩ := id T
    have a_it : a ≠ it := apart_of hoa hoi ca ci (by decide)
    have a_e : a ≠ e := apart_of (n := "tuple") (m := "enumerate") hoa at_e ca rfl (by decide)
    have inside : i < its.toArray.size := by
      rw [List.size_toArray]
      exact (List.getElem?_eq_some_iff.mp got).1
    have old_e := Heap.lt_size at_e
    have old_it := Heap.lt_size hoi
    refine wpAny_pyNext_enum_itemD (Draws.tuple (prog := X.prog) (w := X.w) (A := X.A.in1) (I.ok.hd calm) it a a_it its.toArray) at_e ⟨at_it, T'⟩ inside ne (by simp [ne, Ne.symm a_e]) fun y h1 tk hy ho left new hsz same => ?_
    have y_u : y = u := Option.some.inj ((show its[i]? = some y by simpa using hy).symm.trans got)
    subst y_u
    refine ⟨_, rfl, wpAny_letOwnedTupleGo_enum (s := { s with heap := h1, toks := tk + 1 }) ho fun h2 at_e2 sb => ?_⟩
    have pair : h2.get? s.heap.objs.size = some { cls := .type "tuple", data := .seq #[.int i tk, y] } := (sb.2 _ (Nat.ne_of_gt old_e)).trans new
    have away : ∀ (b : Addr) (ob : Obj), b ∉ [e, it] → s.heap.get? b = some ob → h2.get? b = some ob := fun b ob hb z => by
      have be : b ≠ e := fun k => hb (by simp [k])
      have bi : b ≠ it := fun k => hb (by simp [k])
      exact (sb.2 b be).trans (same b ob be bi z)
    have J := I.turnedNew (t' := tk + 1) (ch := [e, it]) (ob := .tup [.int (i : Nat), x]) away free (Nat.le_refl _)
      ⟨by show 2 ≤ sizeLine; decide, [.int i tk, y], .cons ⟨_, rfl⟩ (.cons rel .nil), _, pair, rfl, _, rfl⟩
    obtain ⟨o3, at3, r3⟩ := left.1
    have e2 : IsEnum h2 e it ((i + 1 : Nat) : Int) y := by
      rw [Int.natCast_add]
      exact at_e2
    refine ⟨.ref s.heap.objs.size, _, J, rfl, ⟨_, x, rfl, I.hok.fresh (Nat.le_refl _), rfl, fun ys hys => (I.tuple_inj hys sq).symm ▸ hx⟩, ⟨⟨y, e2⟩, ⟨o3, (sb.2 it (Ne.symm ne)).trans at3, r3⟩, ne⟩, fun b hb => ?_⟩
    have old_b : b < s.heap.objs.size := by
      rw [List.mem_cons, List.mem_singleton] at hb
      cases hb with
      | inl z => exact z ▸ old_e
      | inr z => exact z ▸ old_it
    exact (upd_ne (Nat.ne_of_lt old_b)).trans (free b hb).1
  done := by
    rintro X rfl rfl rfl calm i pins s σ H E I free ⟨⟨old, at_e⟩, at_it, ne⟩ ⟨xs, sq, out⟩
    obtain ⟨its, rv, T, room⟩ := I.tuple sq
    have T' : s.heap.IsTuple a its.toArray := T
    have none_left : its.toArray.size ≤ i := by
      rw [List.size_toArray, ← rv.length]
      exact out
    have f := free it (by simp)
    exact wpAny_pyNext_enum_endD (endDraws (prog := X.prog) (w := X.w) (A := X.A.in1) (I.ok.hd calm) it a its.toArray i none_left) at_e ⟨rfl, at_it, T'⟩ fun _ eb => ⟨rfl, I.turned (t' := s.toks) (fun b o hb z => eb b o hb z) f.1 f.2.1 f.2.2.2.1 f.2.2.2.2.1 f.2.2.2.2.2⟩
  self := fun _ _ _ _ _ st z => st.1.elim fun _ he => wpAny_pyIter_enum he z
def iEnumT (K : PySem.W.Frag) (ta : TA) : TI := fun σ H R => ta σ H fun vs H1 => ∃ a xs, vs = [.ref a] ∧ SqT K H1 a xs ∧ R (ItE K a) H1
theorem pi_enumT {X : Cx} {e : Expr} {ta : TA} {p pos tpos : Pos} {elts : List Expr} {kk : Nat} (hg : Gl X "enumerate") (hm : X.mg "enumerate" = none) (ha : PA X [e] ta) (hs : starEach [e] X.env = [(false, eval e X.env)] := by rfl) :
    PI X (.Tuple elts kk tpos) (.Call (.Name "enumerate" p) [e] [] pos) (iEnumT X.K ta) := by
  constructor
  intro pins s σ H R I h
  refine Call_ (ld_blt I hg hm boot_enumerate (PyProof.Rows.callWith_type1 (thn (ha.run pos pins s σ H _ I h) fun us s1 ⟨vs, H1, I1, r1, a, xs, ex, hq, q⟩ => ?_) hs rfl))
  subst ex
  rw [Vals.ref1 r1]
  obtain ⟨its, rv, pT, hz⟩ := I1.tuple hq
  have hT : s1.heap.IsTuple a its.toArray := pT
  refine enum1_begins (begins_tuple a its.toArray) hT fun h' he ho hsz hk => wpAny_pyIter_enum he ?_
  refine ⟨s1.heap.objs.size + 1, [s1.heap.objs.size + 1, s1.heap.objs.size], _, _, H1, rfl, I1.kept (t' := s1.toks) hk, turn_enumT a (s1.heap.objs.size + 1) s1.heap.objs.size, ⟨⟨.none, he⟩, ⟨_, ho, rfl, rfl⟩, Nat.succ_ne_self _⟩, fun b hb => ?_, q⟩
  rw [List.mem_cons, List.mem_singleton] at hb
  have new : s1.heap.objs.size ≤ b := by rcases hb with z | z <;> rw [z] <;> omega
  exact I1.fpOk new (I1.hok.fresh new)
/-- pairs of places and items, from i on -/
def enD : Nat → List Dt → List Dt
  | _, [] => []
  | i, d :: ds => .tup [.int (i : Int), d] :: enD (i + 1) ds
theorem enD_length : ∀ (ds : List Dt) (i : Nat), (enD i ds).length = ds.length
  | [], _ => rfl
  | _ :: ds, i => congrArg Nat.succ (enD_length ds (i + 1))
theorem enD_get : ∀ (ds : List Dt) (i j : Nat) (d : Dt), ds[j]? = some d → (enD i ds)[j]? = some (.tup [.int ((i + j : Nat) : Int), d])
  | [], _, _, _, h => nomatch h
  | _ :: ds, i, 0, d, h => by
    simp at h
    subst h
    rfl
  | _ :: ds, i, j + 1, d, h => by
    have q := enD_get ds (i + 1) j d (by simpa using h)
    rw [show i + 1 + j = i + (j + 1) by omega] at q
    simpa [enD] using q
section
variable {C : Addr} {X : Cx} {Γ : Env'} {e : Expr} {pos p tpos : Pos} {elts : List Expr} {kk : Nat} {ds : List Dt}
theorem wk_enumT (h : Dv C X e Γ (.tup ds)) (hm : X.mg "enumerate" = none) (hg : Gl X "enumerate" := by rfl) (hs : starEach [e] X.env = [(false, eval e X.env)] := by rfl) : Walks' C X (.Tuple elts kk tpos) (.Call (.Name "enumerate" p) [e] [] pos) Γ (enD 0 ds) := by
  obtain ⟨t, pe, ev⟩ := h
  refine ⟨_, pi_enumT hg hm (pa_cons pe pa_nil hs) hs, fun σ H hσ R q => ev σ H hσ _ fun v H1 e1 r => ?_⟩
  cases r with
  | @tup a xs _ hx rx =>
    refine ⟨a, xs, rfl, hx, q (ItE X.K a) H1 e1 fun H2 e2 i => ⟨fun hi => ?_, fun hi => ?_, fun x H' hi hy => ?_⟩⟩
    · rw [enD_length] at hi
      have hl : i < xs.length := by rw [rx.length]; exact hi
      exact ⟨xs, xs[i], ex_t e2 hx, by simp [hl]⟩
    · rw [enD_length] at hi
      exact ⟨xs, ex_t e2 hx, by rw [rx.length]; exact hi⟩
    · obtain ⟨T, y, rfl, hn, rfl, hy⟩ := hy
      obtain ⟨d, h1, h2⟩ := rx.getv (hy xs (ex_t e2 hx))
      have q1 := enD_get ds 0 i d h1
      rw [Nat.zero_add] at q1
      exact ⟨Ex.new hn, _, q1, .tup (.inl (.inl upd_same)) (.cons (.int _) (.cons (h2.mono (e2.trans (Ex.new hn))) .nil))⟩
theorem wk_enumL (h : Dv C X e Γ (.lst ds)) (hm : X.mg "enumerate" = none) (hg : Gl X "enumerate" := by rfl) (hs : starEach [e] X.env = [(false, eval e X.env)] := by rfl) : Walks' C X (.Tuple elts kk tpos) (.Call (.Name "enumerate" p) [e] [] pos) Γ (enD 0 ds) := by
  obtain ⟨t, pe, ev⟩ := h
  refine ⟨_, pi_enum hg hm (pa_cons pe pa_nil hs) hs, fun σ H hσ R q => ev σ H hσ _ fun v H1 e1 r => ?_⟩
  cases r with
  | @lst a xs _ hx0 rx =>
    have hx : SqL X.K H1 a xs := .inl (.inl hx0)
    refine ⟨a, xs, rfl, hx, q (Ite X.K a) H1 e1 fun H2 e2 i => ⟨fun hi => ?_, fun hi => ?_, fun x H' hi hy => ?_⟩⟩
    · rw [enD_length] at hi
      have hl : i < xs.length := by rw [rx.length]; exact hi
      exact ⟨xs, xs[i], ex_l e2 hx, by simp [hl]⟩
    · rw [enD_length] at hi
      exact ⟨xs, ex_l e2 hx, by rw [rx.length]; exact hi⟩
    · obtain ⟨T, y, rfl, hn, rfl, hy⟩ := hy
      obtain ⟨d, h1, h2⟩ := rx.getv (hy xs (ex_l e2 hx))
      have q1 := enD_get ds 0 i d h1
      rw [Nat.zero_add] at q1
      exact ⟨Ex.new hn, _, q1, .tup (.inl (.inl upd_same)) (.cons (.int _) (.cons (h2.mono (e2.trans (Ex.new hn))) .nil))⟩
end
end K28
set_option Elab.async false
set_option linter.all false
set_option maxRecDepth 100000
set_option maxHeartbeats 0
namespace K28
open PySem PySem.Spec PyProof.Rows L2 Evl

/-! ### sorting tuples of ints of any sign -/
/-- the rank of ints between -S and S -/
def rk (S : Int) (ns : List Int) : Int := TS.code (2 * S) (ns.map (· + S))
def BdS (S : Int) (ns : List Int) : Prop := ∀ m ∈ ns, -S ≤ m ∧ m < S
theorem BdS.bd {S : Int} {ns : List Int} (h : BdS S ns) : TS.Bd (2 * S) (ns.map (· + S)) := fun m hm => by
  rw [List.mem_map] at hm
  obtain ⟨x, hx, e⟩ := hm
  have := h x hx
  omega
section
variable {w : World} {prog : Program} {A : Around} {s : Shared} {E : Value → Shared → Prop}
theorem lexZ {S : Int} {b : Bool} : ∀ {xs ys : List Value} {ns ms : List Int} {Q : Bool → Shared → Prop} (i : Nat), IntsAre xs ns → IntsAre ys ms → ns.length = ms.length → BdS S ns → BdS S ms → Q (decide (rk S ns < rk S ms)) s →
    PySem.W.KatLex prog w A b false Q (xs.zip ys) i s
  | _, _, [], [], Q, i, .nil, .nil, _, _, _, h => by
    rw [show decide (rk S [] < rk S []) = false from decide_eq_false (Int.lt_irrefl _)] at h
    exact PySem.W.kat_nil h
  | _, _, _ :: _, [], _, _, .cons .., .nil, hl, _, _, _ => by simp at hl
  | _, _, [], _ :: _, _, _, .nil, .cons .., hl, _, _, _ => by simp at hl
  | _, _, n :: ns, m :: ms, Q, i, .cons _ t hx, .cons _ u hy, hl, h1, h2, h => by
    have hl' := Nat.succ.inj hl
    have ll : (ns.map (· + S)).length = (ms.map (· + S)).length := by simpa using hl'
    have b1 : BdS S ns := fun z hz => h1 z (List.mem_cons_of_mem _ hz)
    have b2 : BdS S ms := fun z hz => h2 z (List.mem_cons_of_mem _ hz)
    apply PySem.W.kat_cons
    apply wpAny_eqBool_int
    by_cases e : n = m
    · subst e
      rw [beq_self_eq_true]
      refine PySem.W.kat_yes (lexZ _ hx hy hl' b1 b2 ?_)
      have q : decide (rk S (n :: ns) < rk S (n :: ms)) = decide (rk S ns < rk S ms) := decide_eq_decide.mpr (TS.code_same ll)
      rw [← q]
      exact h
    · rw [beq_eq_false_iff_ne.mpr e]
      refine PySem.W.kat_no (TS.oneLt_ints _ ?_)
      have q : decide (rk S (n :: ns) < rk S (m :: ms)) = decide (n < m) := by
        refine decide_eq_decide.mpr ⟨fun z => ?_, fun z => TS.code_lt ll b1.bd b2.bd (show n + S < m + S by omega)⟩
        by_cases c : n < m
        · exact c
        · have c2 : m + S < n + S := by omega
          have c3 : TS.code (2 * S) ((m + S) :: ms.map (· + S)) < TS.code (2 * S) ((n + S) :: ns.map (· + S)) := TS.code_lt ll.symm b2.bd b1.bd c2
          have z' : TS.code (2 * S) ((n + S) :: ns.map (· + S)) < TS.code (2 * S) ((m + S) :: ms.map (· + S)) := z
          omega
      rw [← q]
      exact h
/-- the values are tuples of d ints within S -/
def TupsZ (h : Heap) (d : Nat) (S : Int) (vs : List Value) : Prop := ∀ v ∈ vs, ∃ ns, TS.TupInts h v ns ∧ ns.length = d ∧ BdS S ns
theorem firstsZ {h : Heap} {d : Nat} {S : Int} (hd : 1 ≤ d) : ∀ vs : List Value, TupsZ h d S vs → ∃ fs, PySem.W.KatTups h vs fs ∧ fs.length = vs.length ∧ ∀ f ∈ fs, ∃ n t, f = Value.int n t
  | [], _ => ⟨[], .nil, rfl, fun f hf => absurd hf (by simp)⟩
  | v :: vs, x => by
    obtain ⟨fs, k, hl, hi⟩ := firstsZ hd vs fun u hu => x u (List.mem_cons_of_mem _ hu)
    obtain ⟨ns, ⟨a, xs, rfl, ⟨o, ho, hc, n, hdt⟩, i⟩, hn, _⟩ := x v List.mem_cons_self
    cases q : xs.toList with
    | nil =>
      rw [q] at i
      have l := i.length
      simp only [List.length_nil] at l
      omega
    | cons y ys =>
      obtain ⟨m, t, hy⟩ := i.all y (by rw [q]; exact List.mem_cons_self)
      have g : xs.toList[0]? = some y := by rw [q]; rfl
      refine ⟨y :: fs, .cons ho hc hdt (by simpa using g) k, congrArg Nat.succ hl, fun f hf => ?_⟩
      cases List.mem_cons.mp hf with
      | inl z => exact ⟨m, t, z ▸ hy⟩
      | inr z => exact hi f z
theorem kindZ {d : Nat} {S : Int} {vs : List Value} (hd : 1 ≤ d) (h2 : 2 ≤ vs.length) (x : TupsZ s.heap d S vs) (r : Value → Int) (hr : ∀ v ∈ vs, ∀ ns, TS.TupInts s.heap v ns → r v = rk S ns) (Q : PyProof.Rows.SortKind → Shared → Prop)
    (h : ∀ κ, TS.Cmp prog w A s κ (PyProof.Rows.pairsOf vs) r → Q κ s) : wpAny (model prog w) A (PyProof.Rows.keyKind' vs.toArray) Q E s := by
  obtain ⟨fs, k, hl, hi⟩ := firstsZ hd vs x
  have first_int : ∀ f ∈ fs, ∃ n t, f = Value.int n t := hi
  refine PySem.W.kat_kind (T := Value.type "int") k (by omega) (fun f hf => let ⟨_, _, e⟩ := first_int f hf; e ▸ PySem.W.Looks.of_pure rfl) rfl (h _ fun p q hp hq Q' E' hQ => ?_)
  rw [PyProof.Rows.pairsOf_toList] at hp hq
  have inp := mem_zip_self hp
  have inq := mem_zip_self hq
  obtain ⟨ns, tp, lp, bp⟩ := x _ inp.2
  obtain ⟨ms, tq, lq, bq⟩ := x _ inq.2
  rw [hr _ inp.2 _ tp, hr _ inq.2 _ tq] at hQ
  rcases tp with ⟨a, xs, ea, ⟨oa, ha, _, _, da⟩, ia⟩
  rcases tq with ⟨b, ys, eb, ⟨ob, hb, _, _, db⟩, ib⟩
  rw [ea, eb]
  have la := ia.length
  have lb := ib.length
  rw [Array.length_toList] at la lb
  refine PySem.W.kat_lt ha da hb db ?_
  rw [show decide (xs.size < ys.size) = false from decide_eq_false fun _ => by omega]
  exact lexZ 0 ia ib (lp.trans lq.symm) bp bq hQ
/-- list.sort -/
theorem sortZ {a : Addr} {vs : List Value} {n d : Nat} {S : Int} {Q : Value → Shared → Prop} (ho : s.heap.get? a = some (PyProof.Rows.seqObj "list" vs.toArray n)) (h64 : vs.length < 64) (hd : 1 ≤ d) (x : TupsZ s.heap d S vs)
    (h : ∀ out : Array Value, out.toList.Perm vs → out.toList.Pairwise (fun u v => rk S (TS.intsOf s.heap u) ≤ rk S (TS.intsOf s.heap v)) → Q .none { s with heap := PyProof.Rows.sortedHeap s.heap a vs out }) :
    wpAny (model prog w) A (call (.builtin "list.sort") [Value.ref a]) Q E s := by
  have keep : ∀ b o, s.heap.get? b = some o → o.cls = .type "tuple" → (TS.midHeap s.heap a vs).get? b = some o := fun b o e hc => by
    refine TS.midHeap_old ?_ e
    exact apart_of (n := "tuple") (m := "list") e ho hc rfl (by decide)
  refine wpAny_call_entry PyProof.Rows.slot_list_sort ⟨_, ho, rfl⟩ PyProof.Rows.entry_list_sort (SK.plain_sort (r := fun v => rk S (TS.intsOf s.heap v)) ho h64 (fun h2 Q hQ => ?_) fun ps out h1 h2 h3 => ?_) (PyProof.Rows.args_list_sort _)
  · refine kindZ (s := { s with heap := TS.midHeap s.heap a vs }) (S := S) hd h2 (fun v hv => let ⟨ns, t, r⟩ := x v hv; ⟨ns, t.keeps keep, r⟩) _ (fun v hv ns t => ?_) Q hQ
    obtain ⟨ns0, t0, _⟩ := x v hv
    show rk S (TS.intsOf s.heap v) = rk S ns
    rw [t0.ints, ← (t0.keeps keep).ints, t.ints]
  · obtain ⟨p, o⟩ := TS.out_rank (r := fun v => rk S (TS.intsOf s.heap v)) h1 h2 h3
    exact ⟨_, rfl, h out p o⟩
end
theorem perm_map {α β : Type} {f : α → β} {l m : List β} (p : l.Perm m) : ∀ L1 : List α, m = L1.map f → ∃ L' : List α, L'.Perm L1 ∧ l = L'.map f := by
  induction p with
  | nil =>
    intro L1 e
    cases L1 with
    | nil => exact ⟨[], .nil, rfl⟩
    | cons _ _ => simp at e
  | cons x _ ih =>
    intro L1 e
    cases L1 with
    | nil => simp at e
    | cons y ys =>
      rw [List.map_cons] at e
      injection e with e1 e2
      obtain ⟨L', p', e'⟩ := ih ys e2
      exact ⟨y :: L', p'.cons y, by rw [e', e1]; rfl⟩
  | swap x y l =>
    intro L1 e
    match L1, e with
    | a :: b :: r, e =>
      simp only [List.map_cons] at e
      injection e with e1 e2
      injection e2 with e2 e3
      exact ⟨b :: a :: r, List.Perm.swap a b r, by rw [e1, e2, e3]; rfl⟩
  | trans _ _ ih1 ih2 =>
    intro L1 e
    obtain ⟨L2, p2, e2⟩ := ih2 L1 e
    obtain ⟨L3, p3, e3⟩ := ih1 L2 e2
    exact ⟨L3, p3.trans p2, e3⟩
/-- the rows of a list of addressed tuples, sorted: what sorted() of a collection of them leaves -/
def SortedOf (S : Int) (L L' : List (Addr × List Int)) : Prop := L'.Perm L ∧ L'.Pairwise (fun q r => rk S q.2 ≤ rk S r.2)
section
variable {X : Cx} {pins : List (Addr × Obj)} {σ : L2.St} {H : Hp} {s s1 : Shared}
/-- behind the collection of refs: the new list, its sort -/
theorem sort_refs {A : Around} {d : Nat} {S : Int} {L L1 : List (Addr × List Int)} {vs : List Value} {Q : VK} {E : Value → Shared → Prop} (I : Inv X pins σ H s) (k1 : ∀ b o, s.heap.get? b = some o → s1.heap.get? b = some o) (hz : s.heap.objs.size ≤ s1.heap.objs.size)
    (g1 : s1.gens = s.gens) (o1 : s1.os = s.os) (hvs : vs = L1.map fun q => Value.ref q.1) (pm : L1.Perm L) (h64 : L.length < 64) (hd : 1 ≤ d) (hk : ∀ p ∈ L, SqT X.K H p.1 (p.2.map V.int)) (hb : ∀ p ∈ L, p.2.length = d ∧ BdS S p.2)
    (q : ∀ (L' : List (Addr × List Int)) (p : Addr), SortedOf S L L' → H p = none → Q (.ref p) (upd H p (.lst (L'.map fun q => V.ref q.1)))) :
    wpAny (model X.prog X.w) A (newList vs) (fun l s2 => wpAny (model X.prog X.w) A (holding [l] (call (.builtin "list.sort") [l])) (fun _ s3 => EP X pins σ Q l s3) E s2) E s1 := by
  subst hvs
  have hvl : (L1.map fun q => Value.ref q.1).length < 64 := by rw [List.length_map, pm.length_eq]; exact h64
  refine wpAny_newList ?_ (by rw [sizeLine_eq]; omega)
  have hoL : (s1.heap.push (PyProof.Rows.seqObj "list" (L1.map fun q => Value.ref q.1).toArray 0)).get? s1.heap.objs.size = some (PyProof.Rows.seqObj "list" (L1.map fun q => Value.ref q.1).toArray 0) := Heap.get?_push_size _ rfl
  have tk : ∀ q ∈ L, TS.TupInts (s1.heap.push (PyProof.Rows.seqObj "list" (L1.map fun q => Value.ref q.1).toArray 0)) (.ref q.1) q.2 := fun q hq =>
    (tupI_raw I (hk q hq)).keeps fun b u e _ => Heap.get?_push_of_some _ (k1 b u e)
  have x : TupsZ (s1.heap.push (PyProof.Rows.seqObj "list" (L1.map fun q => Value.ref q.1).toArray 0)) d S (L1.map fun q => Value.ref q.1) := fun v hv => by
    obtain ⟨p, hp, rfl⟩ := List.mem_map.mp hv
    have hp' := pm.mem_iff.mp hp
    exact ⟨p.2, tk p hp', (hb p hp').1, (hb p hp').2⟩
  refine wpAny_holding (sortZ (s := { s1 with heap := s1.heap.push (PyProof.Rows.seqObj "list" (L1.map fun q => Value.ref q.1).toArray 0) }) hoL hvl hd x fun out a1 a2 => ?_)
  obtain ⟨c, hc⟩ := PyProof.Rows.sortedHeap_at (vs := L1.map fun q => Value.ref q.1) (out := out) hoL
  obtain ⟨L', p', e'⟩ := perm_map a1 L1 rfl
  have pL : L'.Perm L := p'.trans pm
  have pw : L'.Pairwise (fun q r => rk S q.2 ≤ rk S r.2) := by
    rw [e', List.pairwise_map] at a2
    have at_ : ∀ q ∈ L', TS.intsOf _ (.ref q.1) = q.2 := fun q hq => (tk q (pL.mem_iff.mp hq)).ints
    exact a2.imp_of_mem fun {q r} hq hr hle => by
      rw [← at_ q hq, ← at_ r hr]
      exact hle
  have kp : ∀ b u, s.heap.get? b = some u → (PyProof.Rows.sortedHeap (s1.heap.push (PyProof.Rows.seqObj "list" (L1.map fun q => Value.ref q.1).toArray 0)) s1.heap.objs.size (L1.map fun q => Value.ref q.1) out).get? b = some u := fun b u e => by
    have z := k1 b u e
    have old := Heap.lt_size z
    exact (PyProof.Rows.sortedHeap_old (Nat.ne_of_lt old) (by rw [Heap.size_push]; exact Nat.lt_succ_of_lt old)).trans (Heap.get?_push_of_some _ z)
  have hn : H s1.heap.objs.size = none := I.hok.fresh hz
  have hlen : (L'.map fun q => V.ref q.1).length ≤ sizeLine := by rw [List.length_map, pL.length_eq, sizeLine_eq]; omega
  have J : Inv X pins σ (upd H s1.heap.objs.size (.lst (L'.map fun q => V.ref q.1))) { s with heap := PyProof.Rows.sortedHeap (s1.heap.push (PyProof.Rows.seqObj "list" (L1.map fun q => Value.ref q.1).toArray 0)) s1.heap.objs.size (L1.map fun q => Value.ref q.1) out, gens := s1.gens, drawn := s1.drawn, toks := s1.toks } :=
    I.call (ch := []) (Un.laid kp hz hn) (I.hok.laid kp hz ⟨hlen, out.toList, c, by rw [e']; exact vals_of_refs L', by rw [Array.toArray_toList]; exact hc⟩) (by rw [g1]; exact I.bare) (fun _ z => nomatch z)
  refine ⟨.ref s1.heap.objs.size, _, ?_, rfl, q L' _ ⟨pL, pw⟩ hn⟩
  rw [← o1] at J
  exact J
/-- sorted(set) of tuples of d ints within S -/
def rSortSet (K : PySem.W.Frag) (P : Program) (w : World) (d : Nat) (S : Int) : List V → Hp → VK → Prop := fun vs H Q => ∃ (a : Addr) (L : List (Addr × List Int)), vs = [V.ref a] ∧ H a = some (SetTO P w a L) ∧ (∀ p ∈ L, SqT K H p.1 (p.2.map V.int)) ∧ (∀ p ∈ L, p.2.length = d ∧ BdS S p.2) ∧
  ∀ (L' : List (Addr × List Int)) (p : Addr), (L.map (·.2)).Nodup → SortedOf S L L' → H p = none → Q (.ref p) (upd H p (.lst (L'.map fun q => V.ref q.1)))
theorem cr_sortSet {d : Nat} {S : Int} (hc : X.calm = true) (hd : 1 ≤ d) : CallR X (.builtin "sorted") (rSortSet X.K X.prog X.w d S) := by
  rintro pins s σ H _ us Q I r ⟨a, L, rfl, at_a, hk, hb, q⟩
  obtain ⟨es, ep, t, R⟩ := (show SetT0 X.prog X.w s.heap a L from (I.hok a _ at_a).1).full fun p hp => Inv.isT I (hk p hp)
  cases Vals.ref1 r
  obtain ⟨o, ho, ex, dt⟩ := R.ob
  have size := R.size
  have few := R.few
  apply Calls.call_function_entry PyProof.Rows.kind_sorted PyProof.Rows.plain_sorted PyProof.Rows.entry_sorted (PyProof.Rows.args_sorted1 _)
  unfold Builtin.«sorted»
  apply wpAny_bind (m := checkCount "sorted" 1 1 _)
  apply wpAny_pure
  refine wpAny_bind (collect_set (A := X.A.in1) (I.ok.hd hc) ⟨o, ho, ex.1, dt⟩ R.fits (by unfold scanBound; omega) R.tab.ris R.led fun s1 vs k1 hz g1 o1 pm => ?_)
  have refs : es.toList.map (·.2) = L.map fun z => Value.ref z.1 := by
    simp only [R.rows, rowsOf, List.map_map]
    all_goals rfl
  obtain ⟨L1, p1, e1⟩ := perm_map (refs ▸ pm) L rfl
  exact wpAny_bind (wpAny_mono (sort_refs I k1 hz g1 o1 e1 p1 few hd hk hb fun L' p so hp => q L' p R.nd so hp) (fun l s2 h2 => wpAny_bind (wpAny_mono h2 (fun _ s3 h3 => wpAny_pure ⟨_, rfl, h3⟩) fun _ _ z => z)) fun _ _ z => z)
end
end K28
set_option Elab.async false
set_option linter.all false
set_option maxRecDepth 100000
set_option maxHeartbeats 0
namespace K28
open PySem PySem.Spec PyProof.Rows L2 Evl

/-! ### sorted, as data -/
abbrev iT (ns : List Int) : Dt := .tup (ns.map .int)
theorem rk_inj {S : Int} : ∀ {ns ms : List Int}, ns.length = ms.length → BdS S ns → BdS S ms → rk S ns = rk S ms → ns = ms
  | [], [], _, _, _, _ => rfl
  | [], _ :: _, h, _, _, _ => by simp at h
  | _ :: _, [], h, _, _, _ => by simp at h
  | n :: ns, m :: ms, h, h1, h2, e => by
    have hl : ns.length = ms.length := by simpa using h
    have ll : (ns.map (· + S)).length = (ms.map (· + S)).length := by simpa using hl
    have b1 : BdS S ns := fun z hz => h1 z (List.mem_cons_of_mem _ hz)
    have b2 : BdS S ms := fun z hz => h2 z (List.mem_cons_of_mem _ hz)
    have e' : TS.code (2 * S) ((n + S) :: ns.map (· + S)) = TS.code (2 * S) ((m + S) :: ms.map (· + S)) := e
    have c : n = m := by
      rcases Int.lt_trichotomy n m with c | c | c
      · have := TS.code_lt (B := 2 * S) ll b1.bd b2.bd (show n + S < m + S by omega)
        omega
      · exact c
      · have := TS.code_lt (B := 2 * S) ll.symm b2.bd b1.bd (show m + S < n + S by omega)
        omega
    subst c
    have q1 := (TS.code_same (B := 2 * S) (d := n + S) ll)
    have q2 := (TS.code_same (B := 2 * S) (d := n + S) ll.symm)
    have r : rk S ns = rk S ms := by
      show TS.code (2 * S) (ns.map (· + S)) = TS.code (2 * S) (ms.map (· + S))
      omega
    rw [rk_inj hl b1 b2 r]
def srt (S : Int) (l : List (List Int)) : List (List Int) := l.mergeSort fun a b => decide (rk S a ≤ rk S b)
theorem srt_perm (S : Int) (l : List (List Int)) : (srt S l).Perm l := List.mergeSort_perm _ _
theorem srt_pw (S : Int) (l : List (List Int)) : (srt S l).Pairwise fun a b => rk S a ≤ rk S b := by
  have h := List.pairwise_mergeSort (le := fun a b : List Int => decide (rk S a ≤ rk S b)) (fun a b c h1 h2 => by simp only [decide_eq_true_eq] at *; omega) (fun a b => by simp only [Bool.or_eq_true, decide_eq_true_eq]; omega) l
  exact h.imp fun h => of_decide_eq_true h
theorem srt_eq {S : Int} {d : Nat} {l m : List (List Int)} (p : m.Perm l) (pw : m.Pairwise fun a b => rk S a ≤ rk S b) (h : ∀ x ∈ l, x.length = d ∧ BdS S x) : m = srt S l := by
  refine List.Perm.eq_of_pairwise (le := fun a b => rk S a ≤ rk S b) (fun a b ha hb h1 h2 => ?_) pw (srt_pw S l) (p.trans (srt_perm S l).symm)
  have a1 := h a (p.mem_iff.mp ha)
  have b1 := h b ((srt_perm S l).mem_iff.mp hb)
  exact rk_inj (a1.1.trans b1.1.symm) a1.2 b1.2 (Int.le_antisymm h1 h2)
theorem SortedOf.rows {S : Int} {d : Nat} {L L' : List (Addr × List Int)} (s : SortedOf S L L') (h : ∀ p ∈ L, p.2.length = d ∧ BdS S p.2) : L'.map (·.2) = srt S (L.map (·.2)) := by
  refine srt_eq (d := d) (s.1.map _) (List.pairwise_map.mpr s.2) fun x hx => ?_
  obtain ⟨p, hp, rfl⟩ := List.mem_map.mp hx
  exact h p hp
section
variable {C : Addr} {K : PySem.W.Frag} {H : Hp}
/-- the rows of tuples of ints that stand at refs -/
theorem rows_of : ∀ {vs : List V} {rs : List (List Int)}, RpAll C K H vs (rs.map iT) → ∃ ks : List (Addr × List Int), vs = ks.map (fun p => V.ref p.1) ∧ ks.map (·.2) = rs ∧ ∀ p ∈ ks, SqT K H p.1 (p.2.map V.int)
  | _, [], .nil => ⟨[], rfl, rfl, fun p hp => absurd hp (by simp)⟩
  | _, r :: rs, .cons h t => by
    obtain ⟨ks, rfl, e, hk⟩ := rows_of t
    cases h with
    | @tup a xs _ hx rx =>
      rw [RpAll.ints rx] at hx
      refine ⟨(a, r) :: ks, rfl, by rw [List.map_cons, e], fun p hp => ?_⟩
      obtain z | z := List.mem_cons.mp hp
      · exact z ▸ hx
      · exact hk p z
theorem rows_to : ∀ {ks : List (Addr × List Int)}, (∀ p ∈ ks, SqT K H p.1 (p.2.map V.int)) → RpAll C K H (ks.map fun p => V.ref p.1) ((ks.map (·.2)).map iT)
  | [], _ => .nil
  | p :: ks, h => .cons (.tup (h p List.mem_cons_self) (RpAll.ofInts _)) (rows_to fun q hq => h q (List.mem_cons_of_mem _ hq))
theorem rows_toTT : ∀ {ks : List (Addr × List Int)}, (∀ p ∈ ks, H p.1 = some (.tup (p.2.map V.int))) → RpAll C K H (ks.map fun p => V.ref p.1) ((ks.map (·.2)).map .ttup)
  | [], _ => .nil
  | p :: ks, h => .cons (.ttup (h p List.mem_cons_self)) (rows_toTT fun q hq => h q (List.mem_cons_of_mem _ hq))
theorem Rp.ofTT {v : V} {ns : List Int} (r : Rp C K H v (.ttup ns)) : Rp C K H v (iT ns) := by
  cases r with
  | ttup h => exact .tup (.inl (.inl h)) (RpAll.ofInts ns)
end
/-- without repetitions, as a set has them -/
def SameSet (l m : List (List Int)) : Prop := ∀ x, x ∈ l ↔ x ∈ m
section
variable {C : Addr} {X : Cx} {Γ : Env'} {a b c e : Expr} {es : List Expr} {pos p p2 pos2 : Pos} {d da db : Dt} {ds us : List Dt}
theorem dv_ofTT {ns : List Int} (h : Dv C X e Γ (.ttup ns)) : Dv C X e Γ (iT ns) := let ⟨t, pe, ev⟩ := h; ⟨t, pe, fun σ H hs Q q => ev σ H hs Q fun v H2 e2 r => q v H2 e2 r.ofTT⟩
/-- a display of ints -/
theorem dv_tupT {k} {ns : List Int} (h : Da C X es Γ (ns.map .int)) (hl : ns.length ≤ 1000) : Dv C X (.Tuple es k pos) Γ (.ttup ns) := by
  obtain ⟨ta, pa, ea⟩ := h
  exact ⟨_, pe_tup pa, fun σ H hs Q q => ea σ H hs _ fun vs H1 e1 r => ⟨by rw [r.length, List.length_map]; exact Nat.le_trans hl (by decide), fun p hp => q _ _ (e1.trans (Ex.new hp)) (.ttup (by rw [RpAll.ints r]; exact upd_same))⟩⟩
/-- sorted(set(e)), e a list of tuples of d ints: U, its members once each -/
theorem dv_sortSet {S : Int} {n : Nat} {rs U : List (List Int)} (he : Dv C X e Γ (.lst (rs.map iT))) (hc : X.calm = true) (hu : X.A.units + 64 < cLine) (hn : 1 ≤ n) (h64 : rs.length < 64) (hb : ∀ r ∈ rs, r.length = n ∧ BdS S r) (hU : U.Nodup) (hS : SameSet U rs)
    (hm : X.mg "set" = none) (hm2 : X.mg "sorted" = none) (hg : Gl X "set" := by rfl) (hg2 : Gl X "sorted" := by rfl) (hs1 : starEach [e] X.env = (false, eval e X.env) :: starEach [] X.env := by rfl) (hp1 : (backTo pos (starEach [] X.env)).any (·.1) = false := by rfl)
    (hs2 : starEach [.Call (.Name "set" p) [e] [] pos] X.env = (false, eval (.Call (.Name "set" p) [e] [] pos) X.env) :: starEach [] X.env := by rfl) (hp2 : (backTo pos2 (starEach [] X.env)).any (·.1) = false := by rfl) :
    Dv C X (.Call (.Name "sorted" p2) [.Call (.Name "set" p) [e] [] pos] [] pos2) Γ (.lst ((srt S U).map iT)) := by
  obtain ⟨te, pe, ee⟩ := he
  refine ⟨_, pe_callB (cr_sortSet (d := n) (S := S) hc hn) hg2 hm2 (by decide +kernel) (pa_cons (pe_callTy (cr_setOfT hc hu) hg hm (by decide +kernel) (pa_cons pe pa_nil hs1) (by decide) (by decide) hs1 hp1) pa_nil hs2) (by decide) (by decide) hs2 hp2, fun σ H hs Q q => ee σ H hs _ fun v H1 e1 r1 => ?_⟩
  cases r1 with
  | @lst l xs _ hl rx =>
    obtain ⟨ks, rfl, ek, hk⟩ := rows_of rx
    have hb' : ∀ p ∈ ks, p.2.length = n ∧ BdS S p.2 := fun p hp => hb p.2 (by rw [← ek]; exact List.mem_map.mpr ⟨p, hp, rfl⟩)
    refine ⟨l, ks, rfl, .inl (.inl hl), hk, by rw [← List.length_map (f := (·.2)), ek]; exact h64, fun A L hA hL hall => ?_⟩
    have e2 : Ex H1 (upd H1 A (SetTO X.prog X.w A L)) := Ex.new hA
    refine ⟨A, L, rfl, upd_same, fun p hp => ex_t e2 (hk p (hL p hp)), fun p hp => hb' p (hL p hp), fun L' P0 nd so hP => ?_⟩
    have e3 : Ex (upd H1 A (SetTO X.prog X.w A L)) (upd (upd H1 A (SetTO X.prog X.w A L)) P0 (.lst (L'.map fun q => V.ref q.1))) := Ex.new hP
    refine q _ _ ((e1.trans e2).trans e3) (.lst upd_same ?_)
    have h1 : L'.map (·.2) = srt S U := by
      refine srt_eq (d := n) ?_ (List.pairwise_map.mpr so.2) fun x hx => hb x ((hS x).mp hx)
      have pL : (L'.map (·.2)).Perm (L.map (·.2)) := so.1.map _
      refine pL.trans ((List.perm_ext_iff_of_nodup nd hU).mpr fun x => ?_)
      rw [hS x, ← ek]
      constructor
      · intro hx
        obtain ⟨p, hp, rfl⟩ := List.mem_map.mp hx
        exact List.mem_map.mpr ⟨p, hL p hp, rfl⟩
      · intro hx
        obtain ⟨p, hp, rfl⟩ := List.mem_map.mp hx
        exact hall p hp
    rw [← h1]
    exact rows_to fun p hp => ex_t (e2.trans e3) (hk p (hL p (so.1.mem_iff.mp hp)))
/-- d[k] -/
theorem dv_dic {ks : List (List Int)} {ns : List Int} (ha : Dv C X a Γ (.dic ks)) (hb : Dv C X b Γ (.ttup ns)) (h : ns ∈ ks) (hu : X.A.units + 1 < cLine) (hp : NoSl b := by exact fun _ _ => rfl) : Dv C X (.Subscript a b pos) Γ (.bl true) := by
  obtain ⟨ta, pa, ea⟩ := ha
  obtain ⟨tb, pb, eb⟩ := hb
  refine ⟨_, pe_dget hu pa pb hp, fun σ H hs Q q => ea σ H hs _ fun x H1 e1 r1 => eb σ H1 (hs.mono e1) _ fun y H2 e2 r2 => ?_⟩
  cases r1 with
  | @dic A _ hA =>
    cases r2 with
    | @ttup B _ hB =>
      have hB' : H2 B = some (.tup ((ns.map Sum.inl).map kV)) := by rw [hB, List.map_map]; rfl
      have hv : valV (ks.map fun k => ((k.map Sum.inl : List Key), V.bl true)) (ns.map Sum.inl) = some (.bl true) := by
        have inj : ∀ x y : List Int, (x.map Sum.inl : List Key) = y.map Sum.inl → x = y := by
          intro x
          induction x with
          | nil => intro y e; cases y <;> simp_all
          | cons i x ih =>
            intro y e
            cases y with
            | nil => simp at e
            | cons j y =>
              simp only [List.map_cons, List.cons.injEq, Sum.inl.injEq] at e
              rw [e.1, ih y e.2]
        clear hA ea pa
        induction ks with
        | nil => simp at h
        | cons k ks ih =>
          rw [List.map_cons]
          by_cases c : k = ns
          · rw [valV_pos (by rw [c])]
          · rw [valV_neg (fun z => c (inj _ _ z))]
            exact ih ((List.mem_cons.mp h).resolve_left fun z => c z.symm)
      refine ⟨A, .bl true, rfl, ?_, q _ H2 (e1.trans e2) (.bl true)⟩
      rw [← hv]
      exact DGet.t (e2 _ _ hA) hB'
/-- sorted(d), d a dict of tuples of n ints -/
theorem cb_sortDic {S : Int} {n : Nat} {ks : List (List Int)} (hc : X.calm = true) (hn : 1 ≤ n) (h64 : ks.length < 64) (hb : ∀ r ∈ ks, r.length = n ∧ BdS S r) : CallD C X (.builtin "sorted") [.dic ks] (.lst ((srt S ks).map .ttup)) := by
  refine ⟨fun xs H Q => ∃ a, xs = [V.ref a] ∧ H a = some (.dT (ks.map fun k => (k.map Sum.inl, V.bl true))) ∧ ∀ (L' : List (Addr × List Int)) (p : Addr), L'.map (·.2) = srt S ks → (∀ q ∈ L', H q.1 = some (.tup (q.2.map V.int))) → H p = none → Q (.ref p) (upd H p (.lst (L'.map fun q => V.ref q.1))), ?_, fun vs H Q r q => ?_⟩
  · intro pins s σ H us ws Q I r h
    obtain ⟨a, rfl, ha, q⟩ := h
    rw [Vals.ref1 r]
    obtain ⟨z, hs, xs, pr, o, es, ep, ho, hx, hdt, he, _⟩ := (show ObjOk X.prog X.w H s.heap a (.dT (ks.map fun k => (k.map Sum.inl, V.bl true))) from I.hok a _ ha)
    have l1 : es.size = xs.length := by
      have e := congrArg List.length he
      rw [List.length_map, Array.length_toList] at e
      exact e
    have l2 := Paired.length pr
    rw [List.length_map] at l2
    -- the rows: the keys' addresses, their ints
    have rows : ∀ {ks : List (List Int)} {xs : List (List Key × Addr × Value)}, Paired (fun (p : List Key × V) (q : List Key × Addr × Value) => p.1 = q.1 ∧ H q.2.1 = some (.tup (p.1.map kV)) ∧ RelV p.2 q.2.2) (ks.map fun k => (k.map Sum.inl, V.bl true)) xs →
        ∃ L : List (Addr × List Int), L.map (·.1) = xs.map (·.2.1) ∧ L.map (·.2) = ks ∧ ∀ p ∈ L, H p.1 = some (.tup (p.2.map V.int)) := by
      intro ks
      induction ks with
      | nil => intro xs pr; cases pr; exact ⟨[], rfl, rfl, fun p hp => absurd hp (by simp)⟩
      | cons k ks ih =>
        intro xs pr
        rw [List.map_cons] at pr
        cases pr with
        | @cons _ x _ xs h t =>
          obtain ⟨L, e1, e2, h3⟩ := ih t
          refine ⟨(x.2.1, k) :: L, by rw [List.map_cons, List.map_cons, e1], by rw [List.map_cons, e2], fun p hp => ?_⟩
          obtain z | z := List.mem_cons.mp hp
          · have h2 := h.2.1
            rw [List.map_map] at h2
            exact z ▸ h2
          · exact h3 p z
    obtain ⟨L, e1, e2, hL⟩ := rows pr
    have lL : L.length = ks.length := by rw [← e2, List.length_map]
    apply Calls.call_function_entry PyProof.Rows.kind_sorted PyProof.Rows.plain_sorted PyProof.Rows.entry_sorted (PyProof.Rows.args_sorted1 _)
    unfold Builtin.«sorted»
    apply wpAny_bind (m := checkCount "sorted" 1 1 _)
    apply wpAny_pure
    refine wpAny_bind (PySem.W.kdu_collect (A := X.A.in1) (kdl_raw hs hx hdt) (I.ok.hd hc) ho (by rw [l1, ← l2, sizeLine_eq]; omega) fun h' tk acc hk hacc => ?_)
    have ea : acc.toList = L.map fun q => Value.ref q.1 := by
      have el : L.map (fun q => Value.ref q.1) = (xs.map (·.2.1)).map Value.ref := by rw [← e1, List.map_map]; rfl
      rw [el, List.map_map]
      apply List.ext_getElem?
      intro j
      rw [List.getElem?_map]
      have hsz : acc.toList.length = xs.length := by rw [Array.length_toList, hacc.1, l1]
      cases hj : acc.toList[j]? with
      | none =>
        have q1 := List.getElem?_eq_none_iff.mp hj
        have q2 : xs[j]? = none := List.getElem?_eq_none (by omega)
        rw [q2]
        rfl
      | some v =>
        obtain ⟨en, hen, hv⟩ := hacc.2 j v (by rw [← Array.getElem?_toList]; exact hj)
        have qe : (xs.map (entryOfKey (tupleKind (mixKind X.prog X.w))))[j]? = some en := by
          rw [← he, Array.getElem?_toList]
          exact hen
        rw [List.getElem?_map] at qe
        cases hb2 : xs[j]? with
        | none => rw [hb2] at qe; cases qe
        | some b =>
          rw [hb2] at qe
          have e3 : entryOfKey (tupleKind (mixKind X.prog X.w)) b = en := Option.some.inj qe
          rw [hv, ← e3]
          rfl
    have hb' : ∀ p ∈ L, p.2.length = n ∧ BdS S p.2 := fun p hp => hb p.2 (by rw [← e2]; exact List.mem_map.mpr ⟨p, hp, rfl⟩)
    exact wpAny_bind (wpAny_mono (sort_refs (s := { s with heap := h', toks := tk }) (s1 := { s with heap := h', toks := tk }) (d := n) (S := S) (I.kept hk) (fun _ _ z => z) (Nat.le_refl _) rfl rfl ea (List.Perm.refl L) (by rw [lL]; exact h64) hn (fun p hp => .inl (.inl (hL p hp))) hb'
      fun L' p so hp => q L' p (by rw [so.rows hb', e2]) (fun q hq => hL q (so.1.mem_iff.mp hq)) hp) (fun l s2 h2 => wpAny_bind (wpAny_mono h2 (fun _ s3 h3 => wpAny_pure ⟨_, rfl, h3⟩) fun _ _ z => z)) fun _ _ z => z)
  · obtain ⟨v, rfl, r1⟩ := r.one
    cases r1 with
    | @dic A _ hA =>
      refine ⟨A, rfl, hA, fun L' p e hL hp => q _ _ (Ex.new hp) (.lst upd_same ?_)⟩
      rw [← e]
      exact rows_toTT fun z hz => Ex.new hp _ _ (hL z hz)
/-- repr of data (nothing shown above it) -/
theorem cb_repr {d : Dt} (hg : X.A.guards = some []) (hu : X.A.units + 64 < cLine) (h1 : pl d = true) (hs : (py d).showable = true) (hnd : (py d).hasDict = false) (hdp : (py d).depth ≤ 60) (hd : ∃ xs, d = .lst xs) (hsz : (py d).shown.length ≤ sizeLine) : CallD C X (.builtin "repr") [d] (.str (py d).shown) := by
  obtain ⟨xs, rfl⟩ := hd
  refine ⟨fun vs H Q => ∃ a, vs = [V.ref a] ∧ L2.Dp X.K H (.ref a) (py (.lst xs)) ∧ Q (.str (py (.lst xs)).shown) H, ?_, fun vs H Q r q => ?_⟩
  · rintro pins s σ H _ _ Q I r ⟨a, rfl, hp, q⟩
    cases Vals.ref1 r
    obtain ⟨as, rd⟩ := L2.Dp.reads I _ _ _ hp (show RelV (.ref a) (.ref a) from rfl)
    exact repr_of_reads' rd hs (PyData.noDict_hsm hnd) hg (by omega) (fun _ _ e => e) (fun h' u tk hk => ⟨.str _, H, I.kept hk, ⟨_, rfl⟩, q⟩) hsz
  · obtain ⟨v, rfl, r1⟩ := r.one
    have hp := r1.dp h1
    cases r1 with
    | lst h rx => exact ⟨_, rfl, hp, q _ H (Ex.refl H) (.str _)⟩

/-! ### a new tuple that has no attributes -/
theorem Rp.ofTN {K : PySem.W.Frag} {H : Hp} {v : V} {xs : List Dt} (r : Rp C K H v (.tun xs)) : Rp C K H v (.tup xs) := by
  cases r with
  | tun h n rx => exact .tup (.inl (.inr ⟨_, h⟩)) rx
theorem dv_ofTN {xs : List Dt} (h : Dv C X e Γ (.tun xs)) : Dv C X e Γ (.tup xs) := let ⟨t, pe, ev⟩ := h; ⟨t, pe, fun σ H hs Q q => ev σ H hs Q fun v H2 e2 r => q v H2 e2 r.ofTN⟩
theorem cb_tunL : CallD C X (.type "tuple") [.lst us] (.tun us) := by
  refine ⟨fun xs H Q => ∃ p ys, xs = [V.ref p] ∧ SqL X.K H p ys ∧ ∀ l ob, ob.dict = none → H l = none → Q (.ref l) (upd H l (.frz ob (.tup ys))), ?_, fun vs H Q r q => ?_⟩
  · rintro pins s σ H _ _ Q I r ⟨p, ys, rfl, hq, q⟩
    cases Vals.ref1 r
    obtain ⟨its, r', pl, hz⟩ := I.list hq
    have hl := r'.length
    have fits : its.toArray.size ≤ sizeLine := by
      rw [List.size_toArray]
      omega
    refine call_tuple_list pl.isList (fun h' kp => ?_) fits
    have J : Inv X pins σ H { s with heap := h' } := I.kept (t' := s.toks) kp
    have J2 : Inv X pins σ (upd H h'.objs.size (.frz { cls := .type "tuple", data := .seq its.toArray } (.tup ys))) { s with heap := h'.push { cls := .type "tuple", data := .seq its.toArray } } :=
      J.laid (t' := s.toks) (fun b o e => Heap.get?_push_of_some _ e) (Nat.le_refl _) ⟨Heap.get?_push_size _ rfl, hz, its, r', IsTup.new _ _⟩
    exact ⟨.ref h'.objs.size, _, J2, rfl, q _ _ rfl (J.hok.fresh (Nat.le_refl _))⟩
  · obtain ⟨v, rfl, r1⟩ := r.one
    cases r1 with
    | lst hx rx => exact ⟨_, _, rfl, .inl (.inl hx), fun l ob hn hl => q _ _ (Ex.new hl) (.tun upd_same hn (rx.mono (Ex.new hl)))⟩

/-! ### keywords -/
/-- f(k = v, ..), every argument by its name -/
theorem pe_callK0 {CX : CXT} {k : Nat} {f : Addr} {fd : FuncData} {ps ks : List Str} {sp : Sp} {E : XK} {x : Str} {kws : List Keyword} {tk : TA} {g : List Value → List Value → List Value} {gV : List V → List V → List V} (F : FnOk X.prog X.w X.K X.mg X.base CX k f fd ps sp) (hr : Room k X.A) (hg : Gl X x)
    (hm : X.mg x = some (.ref f)) (hk : PySem.W.keepIn X.K (.ref f) = true) (hb : KBinds X.K fd ps ks g gV) (hx : Passes CX X E) (hkw : PK X kws tk) (hall : (backToKw pos (keywordEach kws X.env)).all (·.1.isSome) = true) (hks : (backToKw pos (keywordEach kws X.env)).filterMap (·.1) = ks)
    (hpl : ((backTo pos (starEach [] X.env)).any (·.1) || (backToKw pos (keywordEach kws X.env)).any (·.1.isNone)) = false) (hdb : (x == ("__debug__" : Str)) = false := by decide) : PE X (.Call (.Name x p) [] kws pos) (tCallK sp gV E tNil tk) := by
  constructor
  intro pins s σ H Q I h
  apply wpAny_Call_Name_kw
  refine ld_glob I hg hm ?_ hdb
  refine PySem.W.callWith_KW0 (h₀ := X.base) I.ok.mod.kin hk hall (thn (hkw.run pos pins s σ H _ I h) fun ws s2 ⟨zs, H2, I2, rz, q2⟩ => ⟨I2.kIn, ?_⟩) hpl
  rw [hks]
  exact run_fnk F hr hb hx I2 (vs := []) (us := []) .nil rz q2
end
end K28
set_option Elab.async false
set_option linter.all false
set_option maxRecDepth 100000
namespace K28
open PySem PySem.Spec PyProof.Rows L2 Evl

/-! ### sizes -/
def Sm (n : Nat) (x : Int) : Prop := x.natAbs < 2 ^ n
theorem Sm.mono {a b : Nat} {x : Int} (h : Sm a x) (l : a ≤ b) : Sm b x := Nat.lt_of_lt_of_le h (Nat.pow_le_pow_right (by decide) l)
theorem Sm.mul {a b : Nat} {x y : Int} (hx : Sm a x) (hy : Sm b y) : Sm (a + b) (x * y) := wide_lt hx hy
theorem two_max (a b : Nat) : 2 ^ a + 2 ^ b ≤ 2 ^ (max a b + 1) := by
  have h1 : 2 ^ a ≤ 2 ^ max a b := Nat.pow_le_pow_right (by decide) (Nat.le_max_left ..)
  have h2 : 2 ^ b ≤ 2 ^ max a b := Nat.pow_le_pow_right (by decide) (Nat.le_max_right ..)
  rw [Nat.pow_succ]
  omega
theorem Sm.add {a b : Nat} {x y : Int} (hx : Sm a x) (hy : Sm b y) : Sm (max a b + 1) (x + y) := by
  have := two_max a b
  unfold Sm at *
  omega
theorem Sm.sub {a b : Nat} {x y : Int} (hx : Sm a x) (hy : Sm b y) : Sm (max a b + 1) (x - y) := by
  have := two_max a b
  unfold Sm at *
  omega
theorem Sm.neg {a : Nat} {x : Int} (hx : Sm a x) : Sm a (-x) := by
  unfold Sm at *
  omega
theorem Sm.lit {x : Int} (h : decide (x.natAbs < 2 ^ 10) = true) : Sm 10 x := show x.natAbs < 2 ^ 10 from of_decide_eq_true h
theorem cmul {a b : Nat} {x y : Int} (hx : Sm a x) (hy : Sm b y) (h : a + b ≤ 900000) : CMulW x y := wide_mul (hx.mono (Nat.le_succ a)) (hy.mono (Nat.le_succ b)) (Nat.succ_pos _) (Nat.succ_pos _) (by omega)

/-! ### the module's facts -/
structure Md (C : Addr) (K : PySem.W.Frag) (mg : Str → Option Value) : Prop where
  isinstance : mg "isinstance" = none
  len : mg "len" = none
  all : mg "all" = none
  any : mg "any" = none
  tuple : mg "tuple" = none
  list : mg "list" = none
  int : mg "int" = none
  bool : mg "bool" = none
  str : mg "str" = none
  abs : mg "abs" = none
  max : mg "max" = none
  min : mg "min" = none
  sum : mg "sum" = none
  range : mg "range" = none
  sorted : mg "sorted" = none
  set : mg "set" = none
  repr : mg "repr" = none
  divmod : mg "divmod" = none
  enumerate : mg "enumerate" = none
  gcd : mg "gcd" = some (.builtin "math.gcd")
  L : LotCls C K
  lot : mg "Lot" = some (.ref C)
  far : Glob C K mg "FAR" (iT [1, 0, 0])
  leaves : Glob C K mg "MOST_LEAVES" (.int 24)
  deep : Glob C K mg "MOST_DEEP" (.int 6)
  trees : Glob C K mg "MOST_TREES" (.int 8)
  rounds : Glob C K mg "MOST_ROUNDS" (.int 8)
  kii : PySem.W.kitOne K (.type "int") (.type "int") = some true
  kib : PySem.W.kitOne K (.type "int") (.type "bool") = some false
  ktt : PySem.W.kitOne K (.type "tuple") (.type "tuple") = some true
  kss : PySem.W.kitOne K (.type "str") (.type "str") = some true
theorem bt_isinstance : bootBuiltins "isinstance" = some (.builtin "isinstance") := by decide +kernel
theorem bt_all : bootBuiltins "all" = some (.builtin "all") := by decide +kernel
theorem bt_any : bootBuiltins "any" = some (.builtin "any") := by decide +kernel
theorem bt_len : bootBuiltins "len" = some (.builtin "len") := by decide +kernel
theorem bt_tuple : bootBuiltins "tuple" = some (.type "tuple") := by decide +kernel
theorem bt_list : bootBuiltins "list" = some (.type "list") := by decide +kernel
theorem bt_int : bootBuiltins "int" = some (.type "int") := by decide +kernel
theorem bt_bool : bootBuiltins "bool" = some (.type "bool") := by decide +kernel
theorem bt_str : bootBuiltins "str" = some (.type "str") := by decide +kernel
theorem bt_abs : bootBuiltins "abs" = some (.builtin "abs") := by decide +kernel
theorem bt_max : bootBuiltins "max" = some (.builtin "max") := by decide +kernel
theorem bt_min : bootBuiltins "min" = some (.builtin "min") := by decide +kernel
theorem bt_sum : bootBuiltins "sum" = some (.builtin "sum") := by decide +kernel
theorem bt_repr : bootBuiltins "repr" = some (.builtin "repr") := by decide +kernel
theorem bt_sorted : bootBuiltins "sorted" = some (.builtin "sorted") := by decide +kernel
theorem bt_divmod : bootBuiltins "divmod" = some (.builtin "divmod") := by decide +kernel
/-! what is said another way -/
section
variable {C : Addr} {X : Cx} {Γ : Env'} {e : Expr} {d d' : Dt} {k k' : Bool} {sts : List Stmt}
theorem dv_is (h : Dv C X e Γ d) (q : d = d') : Dv C X e Γ d' := q ▸ h
theorem dp_is (h : Dp' C X e Γ k) (q : k = k') : Dp' C X e Γ k' := q ▸ h
theorem room_u {j : Nat} {A : Around} (hr : Room j A) : A.units + 65 < cLine := by have := hr.un; omega
theorem room_u64 {j : Nat} {A : Around} (hr : Room j A) : A.units + 64 < cLine := by have := hr.un; omega
end
/-- a comprehension with one name x at slot i, over data -/
theorem wipe1 (i : Nat) (σ : L2.St) : L2.wipe (L2.wipe σ [i]) [i] = L2.wipe σ [i] := by simp [L2.wipe]
section
variable {C : Addr} {X : Cx} {Γ : Env'} {elt iter test : Expr} {pos spos : Pos} {ds : List Dt} {scope : Scope} {x : Str} {px : Pos}
theorem tg1 (i : Nat) {s : Shared} {H : Hp} {c : Addr} {cl : List (Str × Addr)} {fp : List Addr} {d : Dt} (hi : X.N[i]? = some x) (hN : X.N.Nodup) (hx : (relabel scope X.env).names.lookup x = some .local) (h1 : (x == ("__debug__" : Str)) = false) :
    ∃ g, PG (blkX X scope s H c cl fp) (.Name x px) g ∧ ∀ v σ H, Rp C X.K H v d → SD C X.K H σ (wipeD Γ [i]) → ∀ Q : L2.St → Hp → Prop, (∀ σ', SD C X.K H σ' ((wipeD Γ [i]).set i (some d)) → L2.wipe σ' [i] = L2.wipe σ [i] → Q σ' H) → g v σ H Q :=
  ⟨_, pg_name (X := blkX X scope s H c cl fp) (i := i) hN hi (Or.inl hx) (Or.inr hx), fun v σ H r hs Q q => q _ (hs.set r i) (by simp [L2.wipe])⟩
theorem dv_lc1 (i : Nat) (F : Dt → Dt) (hw : Walks' C X (.Name x px) iter Γ ds) (hc : X.calm = true) (hN : X.N.Nodup) (hi : X.N[i]? = some x) (ok : BlkOk X.N X.env.scope scope [(x, i)]) (hx : (relabel scope X.env).names.lookup x = some .local) (hlen : ds.length ≤ 100000)
    (he : ∀ d ∈ ds, ∀ s H c cl fp, Dv C (blkX X scope s H c cl fp) elt ((wipeD Γ [i]).set i (some d)) (F d)) (hlf : ∀ d ∈ ds, lf (F d) = true) (hs : ∀ x, foldedSetIterable iter X.env x = pure x := by intro _; rfl) (h1 : (x == ("__debug__" : Str)) = false := by decide) :
    Dv C X (.ListComp elt [⟨.Name x px, iter, [], 0⟩] scope pos) Γ (.lst (ds.map F)) := by
  obtain ⟨t, ⟨p, _⟩, ev⟩ := dv_lcG (spos := pos) [(x, i)] F (fun d => (wipeD Γ [i]).set i (some d)) hw hc hN ok hlen (fun d hd s H c cl fp => tg1 i hi hN hx h1) he hlf (wipe1 i) hs
  exact ⟨t, p, ev⟩
theorem dv_lcT1 (i : Nat) (T : Dt → Bool) (F : Dt → Dt) (hw : Walks' C X (.Name x px) iter Γ ds) (hc : X.calm = true) (hN : X.N.Nodup) (hi : X.N[i]? = some x) (ok : BlkOk X.N X.env.scope scope [(x, i)]) (hx : (relabel scope X.env).names.lookup x = some .local) (hlen : ds.length ≤ 100000)
    (ht : ∀ d ∈ ds, ∀ s H c cl fp, Dp' C (blkX X scope s H c cl fp) test ((wipeD Γ [i]).set i (some d)) (T d))
    (he : ∀ d ∈ ds, T d = true → ∀ s H c cl fp, Dv C (blkX X scope s H c cl fp) elt ((wipeD Γ [i]).set i (some d)) (F d)) (hlf : ∀ d ∈ ds, T d = true → lf (F d) = true) (hs : ∀ x, foldedSetIterable iter X.env x = pure x := by intro _; rfl) (h1 : (x == ("__debug__" : Str)) = false := by decide) :
    Dv C X (.ListComp elt [⟨.Name x px, iter, [test], 0⟩] scope pos) Γ (.lst ((ds.filter T).map F)) :=
  dv_lcIf [(x, i)] T F (fun d => (wipeD Γ [i]).set i (some d)) hw hc hN ok hlen (fun d hd s H c cl fp => tg1 i hi hN hx h1) ht he hlf (wipe1 i) hs
/-- y = [..] on one line -/
theorem ds_lc1 (i j : Nat) (F : Dt → Dt) {y : Str} {py : Pos} {rest : List Stmt} {o : Ot} (hw : Walks' C X (.Name x px) iter Γ ds) (hc : X.calm = true) (hN : X.N.Nodup) (hi : X.N[i]? = some x) (ok : BlkOk X.N X.env.scope scope [(x, i)]) (hx : (relabel scope X.env).names.lookup x = some .local) (hlen : ds.length ≤ 100000)
    (he : ∀ d ∈ ds, ∀ s H c cl fp, Dv C (blkX X scope s H c cl fp) elt ((wipeD Γ [i]).set i (some d)) (F d)) (hlf : ∀ d ∈ ds, lf (F d) = true) (hj : X.N[j]? = some y) (hy : X.env.scope.names.lookup y = some .local)
    (hsw : swapsWith (.ListComp elt [⟨.Name x px, iter, [], 0⟩] scope pos) (some (.Name y py)) spos.line X.env = pure true) (k : Ds C X rest (Γ.set j (some (.lst (ds.map F)))) o)
    (hs : ∀ x, foldedSetIterable iter X.env x = pure x := by intro _; rfl) (h1 : (x == ("__debug__" : Str)) = false := by decide) : Ds C X (.Assign [.Name y py] (.ListComp elt [⟨.Name x px, iter, [], 0⟩] scope pos) spos :: rest) Γ o := by
  obtain ⟨t, ⟨_, p⟩, ev⟩ := dv_lcG (spos := spos) [(x, i)] F (fun d => (wipeD Γ [i]).set i (some d)) hw hc hN ok hlen (fun d hd s H c cl fp => tg1 i hi hN hx h1) he hlf (wipe1 i) hs
  exact ds_cons ⟨_, p j y py hj hy hsw, fun σ H hs D q => ev σ H hs _ fun v H1 e1 r => q _ H1 e1 ((hs.mono e1).set r j)⟩ k
end
end K28
set_option Elab.async false
set_option linter.all false
set_option maxRecDepth 100000
set_option maxHeartbeats 0
namespace K28
open PySem PySem.Spec PyProof.Rows L2 Evl
local macro_rules | `(tactic| walk_at "bd") => `(tactic| (refine' cmul ?ha ?hb ?hc; (case ha => repeat' (first | assumption | exact Sm.lit (by decide) | apply Sm.mul | apply Sm.add | apply Sm.sub | apply Sm.neg)); (case hb => repeat' (first | assumption | exact Sm.lit (by decide) | apply Sm.mul | apply Sm.add | apply Sm.sub | apply Sm.neg)); (case hc => decide)))
section
variable {C : Addr} {P : Program} {w : World} {K : PySem.W.Frag} {mg : Str → Option Value} {base : Heap}

/-! ### values -/
theorem Ds.wk {X : Cx} {sts : List Stmt} {Γ Γ1 Γ2 : Env'} (h : Ds C X sts Γ (.nx Γ1)) (l : Less Γ1 Γ2) : Ds C X sts Γ (.nx Γ2) := by
  obtain ⟨t, p, ev⟩ := h
  exact ⟨t, p, fun σ H hs D q => ev σ H hs D fun σ' H' e hs' => q σ' H' e (hs'.less l)⟩
def divOf (ns : List Int) : Nat := ns.foldl (fun g n => Nat.gcd g n.natAbs) 0
theorem divOf_take {ns : List Int} {j : Nat} {n : Int} (h : ns[j]? = some n) : divOf (ns.take (j + 1)) = Nat.gcd (divOf (ns.take j)) n.natAbs := by
  unfold divOf
  rw [List.take_add_one, List.foldl_append, h]
  rfl
def low (ns : List Int) : List Int := ns.map fun n => n / (divOf ns : Int)
def neg (ns : List Int) : List Int := ns.map fun n => -n
def up (ns : List Int) : List Int := if 0 < ns.headD 0 then ns else neg ns
def sg (i : Int) : Int := b2 (decide (0 < i)) - b2 (decide (i < 0))
theorem dvd_fold : ∀ (ns : List Int) (g : Nat), ns.foldl (fun g n => Nat.gcd g n.natAbs) g ∣ g ∧ ∀ n ∈ ns, ns.foldl (fun g n => Nat.gcd g n.natAbs) g ∣ n.natAbs
  | [], g => ⟨Nat.dvd_refl g, fun n hn => absurd hn (by simp)⟩
  | m :: ns, g => by
    obtain ⟨h1, h2⟩ := dvd_fold ns (Nat.gcd g m.natAbs)
    refine ⟨Nat.dvd_trans h1 (Nat.gcd_dvd_left ..), fun n hn => ?_⟩
    rcases List.mem_cons.mp hn with rfl | hn
    · exact Nat.dvd_trans h1 (Nat.gcd_dvd_right ..)
    · exact h2 n hn
theorem divOf_dvd {ns : List Int} {n : Int} (h : n ∈ ns) : divOf ns ∣ n.natAbs := (dvd_fold ns 0).2 n h
theorem divOf_pos {ns : List Int} {n : Int} (h : n ∈ ns) (hn : n ≠ 0) : 0 < divOf ns := by
  rcases Nat.eq_zero_or_pos (divOf ns) with z | z
  · have := divOf_dvd h
    rw [z] at this
    have := Nat.eq_zero_of_zero_dvd this
    omega
  · exact z
theorem divOf_sm {ns : List Int} {n : Int} {a : Nat} (h : n ∈ ns) (hn : n ≠ 0) (ha : Sm a n) : Sm a (divOf ns : Int) := by
  have h1 := Nat.le_of_dvd (by omega) (divOf_dvd h)
  unfold Sm at *
  omega
/-- a tuple that can be reduced -/
structure Gd (ns : List Int) : Prop where
  len : ns.length ≤ 1000
  sm : ∀ n ∈ ns, Sm 1000 n
  nz : ∃ n ∈ ns, n ≠ 0
theorem Gd.div {ns : List Int} (g : Gd ns) (n : Int) : CDivW n (divOf ns : Int) := by
  obtain ⟨m, hm, hn⟩ := g.nz
  have h1 := divOf_pos hm hn
  exact wide_div (by omega) (divOf_sm hm hn (g.sm m hm)) (by decide) (by decide)
def R_is_whole (ds : List Dt) (d : Dt) : Prop := ∃ i, ds = [.int i] ∧ d = .bl true
def R_are_wholes (ds : List Dt) (d : Dt) : Prop := ∃ ns n, ns.length ≤ 1000 ∧ ds = [iT ns, .int n] ∧ d = .bl (decide ((ns.length : Int) = n))
def R_divisor_of (ds : List Dt) (d : Dt) : Prop := ∃ ns, ns.length ≤ 1000 ∧ ds = [iT ns] ∧ d = .int (divOf ns : Int)
def R_lowest (ds : List Dt) (d : Dt) : Prop := ∃ ns, Gd ns ∧ ds = [iT ns] ∧ d = iT (low ns)
def R_is_lowest (ds : List Dt) (d : Dt) : Prop := ∃ ns, ns.length ≤ 1000 ∧ ds = [iT ns] ∧ d = .bl (decide ((divOf ns : Int) = 1))
def R_is_led_up (ds : List Dt) (d : Dt) : Prop := ∃ n ns, n ≠ 0 ∧ ds = [iT (n :: ns)] ∧ d = .bl (decide (0 < n))
def R_first_above (ds : List Dt) (d : Dt) : Prop := ∃ n ns, Gd (n :: ns) ∧ divOf (n :: ns) = 1 ∧ n ≠ 0 ∧ ds = [iT (n :: ns)] ∧ d = iT (up (n :: ns))
def R_sign_of (ds : List Dt) (d : Dt) : Prop := ∃ i, ds = [.int i] ∧ d = .int (sg i)

abbrev N_is_whole : List Str := ["value"]
theorem sc_is_whole : FnScope N_is_whole ["value"] (defScope s_is_whole) := ⟨rfl, rfl, rfl, by decide +kernel, rfl, by decide +kernel, by decide +kernel⟩
theorem ok_is_whole (M : Md C K mg) (T : Top K mg "is_whole" s_is_whole ["value"]) : CalD C P w K mg base 1 "is_whole" ["value"] R_is_whole := by
  refine T.ok sc_is_whole (fun ds d h => ?_) fun f cdv A outer s H E hr ds d h => ?_
  · obtain ⟨i, rfl, rfl⟩ := h
    rfl
  · obtain ⟨i, rfl, rfl⟩ := h
    refine ds_ret (dv_is (dv_and (dv_callB (cb_isi rfl M.kii) M.isinstance bt_isinstance (da_cons (dv_var 0 rfl rfl) (da_cons (dv_ty M.int bt_int) da_nil))) fun _ => (dv_one (dv_not (dv_callB (cb_isi rfl M.kib) M.isinstance bt_isinstance (da_cons (dv_var 0 rfl rfl) (da_cons (dv_ty M.bool bt_bool) da_nil)))))) ?_)
    rfl
abbrev N_are_wholes : List Str := ["value", "many", "number"]
theorem sc_are_wholes : FnScope N_are_wholes ["value", "many"] (defScope s_are_wholes) := ⟨rfl, rfl, rfl, by decide +kernel, rfl, by decide +kernel, by decide +kernel⟩
theorem ok_are_wholes (M : Md C K mg) (T : Top K mg "are_wholes" s_are_wholes ["value", "many"]) (c_is_whole : CalD C P w K mg base 1 "is_whole" ["value"] R_is_whole): CalD C P w K mg base 2 "are_wholes" ["value", "many"] R_are_wholes := by
  refine T.ok sc_are_wholes (fun ds d h => ?_) fun f cdv A outer s H E hr ds d h => ?_
  · obtain ⟨ns, n, hl, rfl, rfl⟩ := h
    rfl
  · obtain ⟨ns, n, hl, rfl, rfl⟩ := h
    refine ds_ret (dv_is (dv_and (dv_callB (cb_isi rfl M.ktt) M.isinstance bt_isinstance (da_cons (dv_var 0 rfl rfl) (da_cons (dv_ty M.tuple bt_tuple) da_nil))) fun _ => (dv_and (dv_cmp (dv_callB cb_lenT M.len bt_len (da_cons (dv_var 0 rfl rfl) da_nil)) (dv_var 1 rfl rfl) cd_eq (nomark _)) fun _ => (dv_one (dv_callB (cb_all (bs := ns.map fun _ => true) rfl) M.all bt_all (da_cons (dv_is (dv_lc1 2 (fun _ => .bl true) (ds := ns.map .int) (wk_tup (dv_var 0 rfl rfl)) rfl sc_are_wholes.nd rfl (blkOk_by (N := N_are_wholes) (sc := defScope s_are_wholes) (by decide +kernel)) rfl (by rw [List.length_map]; omega) (fun d hd s H c cl fp => ?_) (fun d hd => ?_)) (show _ = Dt.lst (List.map Dt.bl (ns.map fun _ => true)) by simp)) da_nil))))) ?_)
    · obtain ⟨i, _, rfl⟩ := List.mem_map.mp hd
      exact (dv_call c_is_whole (hr.mono (by decide)) (da_cons (dv_var 2 rfl rfl) da_nil) ⟨i, rfl, rfl⟩)
    · obtain ⟨i, _, rfl⟩ := List.mem_map.mp hd
      rfl
    simp
abbrev N_divisor_of : List Str := ["numbers", "found", "number"]
theorem sc_divisor_of : FnScope N_divisor_of ["numbers"] (defScope s_divisor_of) := ⟨rfl, rfl, rfl, by decide +kernel, rfl, by decide +kernel, by decide +kernel⟩
theorem ok_divisor_of (M : Md C K mg) (T : Top K mg "divisor_of" s_divisor_of ["numbers"]) : CalD C P w K mg base 1 "divisor_of" ["numbers"] R_divisor_of := by
  refine T.ok sc_divisor_of (fun ds d h => ?_) fun f cdv A outer s H E hr ds d h => ?_
  · obtain ⟨ns, hl, rfl, rfl⟩ := h
    rfl
  · obtain ⟨ns, hl, rfl, rfl⟩ := h
    refine ds_set 1 rfl sc_divisor_of.nd dv_int ?_
    refine ds_cons (d1_for (ds := ns.map .int) (fun j => [some (iT ns), some (.int (divOf (ns.take j) : Int)), none]) (fun j => [some (iT ns), some (.int (divOf (ns.take j) : Int)), (ns[j]?).map .int]) (wk_tup (dv_var 0 rfl rfl)) rfl (fun j d hd => ?_) (fun j d hd => ?_) PassesOwn.never rfl) ?_
    · rw [List.getElem?_map] at hd
      obtain ⟨n, hn, rfl⟩ := Option.map_eq_some_iff.mp hd
      rw [hn]
      exact dg_name 2 rfl sc_divisor_of.nd
    · rw [List.getElem?_map] at hd
      obtain ⟨n, hn, rfl⟩ := Option.map_eq_some_iff.mp hd
      rw [hn, divOf_take hn]
      refine Ds.wk (ds_set 1 rfl sc_divisor_of.nd (dv_callBf cb_gcd M.gcd (da_cons (dv_var 1 rfl rfl) (da_cons (dv_var 2 rfl rfl) da_nil))) ds_nil) ⟨rfl, ?_, True.intro⟩
      rw [Int.natAbs_natCast]
    · rw [List.length_map, List.take_length]
      exact ds_ret (dv_var 1 rfl rfl)
abbrev N_lowest : List Str := ["numbers", "divisor", "number"]
theorem sc_lowest : FnScope N_lowest ["numbers"] (defScope s_lowest) := ⟨rfl, rfl, rfl, by decide +kernel, rfl, by decide +kernel, by decide +kernel⟩
theorem ok_lowest (M : Md C K mg) (T : Top K mg "lowest" s_lowest ["numbers"]) (c_divisor_of : CalD C P w K mg base 1 "divisor_of" ["numbers"] R_divisor_of): CalD C P w K mg base 2 "lowest" ["numbers"] R_lowest := by
  refine T.ok sc_lowest (fun ds d h => ?_) fun f cdv A outer s H E hr ds d h => ?_
  · obtain ⟨ns, hg, rfl, rfl⟩ := h
    rfl
  · obtain ⟨ns, hg, rfl, rfl⟩ := h
    refine ds_set 1 rfl sc_lowest.nd (dv_call c_divisor_of (hr.mono (by decide)) (da_cons (dv_var 0 rfl rfl) da_nil) ⟨ns, hg.len, rfl, rfl⟩) ?_
    refine ds_ret (dv_is (dv_callTy cb_tupL M.tuple bt_tuple (da_cons (dv_lc1 2 (fun d => match d with | .int n => .int (n / (divOf ns : Int)) | _ => .non) (ds := ns.map .int) (wk_tup (dv_var 0 rfl rfl)) rfl sc_lowest.nd rfl (blkOk_by (N := N_lowest) (sc := defScope s_lowest) (by decide +kernel)) rfl (by rw [List.length_map]; have := hg.len; omega) (fun d hd s H c cl fp => ?_) (fun d hd => ?_)) da_nil)) ?_)
    · obtain ⟨i, _, rfl⟩ := List.mem_map.mp hd
      exact dv_fdiv (dv_var 2 rfl rfl) (dv_var 1 rfl rfl) (hg.div i)
    · obtain ⟨i, _, rfl⟩ := List.mem_map.mp hd
      rfl
    simp [low, iT]
abbrev N_is_lowest : List Str := ["numbers"]
theorem sc_is_lowest : FnScope N_is_lowest ["numbers"] (defScope s_is_lowest) := ⟨rfl, rfl, rfl, by decide +kernel, rfl, by decide +kernel, by decide +kernel⟩
theorem ok_is_lowest (M : Md C K mg) (T : Top K mg "is_lowest" s_is_lowest ["numbers"]) (c_divisor_of : CalD C P w K mg base 1 "divisor_of" ["numbers"] R_divisor_of): CalD C P w K mg base 2 "is_lowest" ["numbers"] R_is_lowest := by
  refine T.ok sc_is_lowest (fun ds d h => ?_) fun f cdv A outer s H E hr ds d h => ?_
  · obtain ⟨ns, hl, rfl, rfl⟩ := h
    rfl
  · obtain ⟨ns, hl, rfl, rfl⟩ := h
    refine ds_ret (dv_is (dv_cmp (dv_call c_divisor_of (hr.mono (by decide)) (da_cons (dv_var 0 rfl rfl) da_nil) ⟨ns, hl, rfl, rfl⟩) dv_int cd_eq (nomark _)) ?_)
    rfl
abbrev N_is_led_up : List Str := ["numbers", "number"]
theorem sc_is_led_up : FnScope N_is_led_up ["numbers"] (defScope s_is_led_up) := ⟨rfl, rfl, rfl, by decide +kernel, rfl, by decide +kernel, by decide +kernel⟩
theorem ok_is_led_up (M : Md C K mg) (T : Top K mg "is_led_up" s_is_led_up ["numbers"]) : CalD C P w K mg base 1 "is_led_up" ["numbers"] R_is_led_up := by
  refine T.ok sc_is_led_up (fun ds d h => ?_) fun f cdv A outer s H E hr ds d h => ?_
  · obtain ⟨n, ns, hn, rfl, rfl⟩ := h
    rfl
  · obtain ⟨n, ns, hn, rfl, rfl⟩ := h
    refine ds_end (d1_forR (ds := (n :: ns).map .int) 0 (fun j => [some (iT (n :: ns)), none]) (fun j => [some (iT (n :: ns)), some (.int n)]) (wk_tup (dv_var 0 rfl rfl)) rfl (by simp) (fun j d hj hd => ?_) (fun j d hj hd => absurd hj (Nat.not_lt_zero j)) (fun d hd => ?_) PassesOwn.never rfl)
    · obtain rfl : j = 0 := by omega
      simp at hd
      subst hd
      exact dg_name 1 rfl sc_is_led_up.nd
    · refine ds_ifT (dp_is (dp_cmp (dv_var 1 rfl rfl) dv_int cd_ne (nomark _)) ?_) (ds_ret (dv_cmp (dv_var 1 rfl rfl) dv_int cd_gt (nomark _)))
      simp [hn]
abbrev N_first_above : List Str := ["numbers", "found", "number"]
theorem sc_first_above : FnScope N_first_above ["numbers"] (defScope s_first_above) := ⟨rfl, rfl, rfl, by decide +kernel, rfl, by decide +kernel, by decide +kernel⟩
theorem low_one {ns : List Int} (h : divOf ns = 1) : low ns = ns := by
  unfold low
  rw [h]
  simp
theorem ok_first_above (M : Md C K mg) (T : Top K mg "first_above" s_first_above ["numbers"]) (c_lowest : CalD C P w K mg base 2 "lowest" ["numbers"] R_lowest) (c_is_led_up : CalD C P w K mg base 1 "is_led_up" ["numbers"] R_is_led_up) : CalD C P w K mg base 3 "first_above" ["numbers"] R_first_above := by
  refine T.ok sc_first_above (fun ds d h => ?_) fun f cdv A outer s H E hr ds d h => ?_
  · obtain ⟨n, ns, hg, h1, hn, rfl, rfl⟩ := h
    rfl
  · obtain ⟨n, ns, hg, h1, hn, rfl, rfl⟩ := h
    refine ds_set 1 rfl sc_first_above.nd (dv_call c_lowest (hr.mono (by decide)) (da_cons (dv_var 0 rfl rfl) da_nil) ⟨n :: ns, hg, rfl, rfl⟩) ?_
    rw [low_one h1]
    refine ds_ret (dv_if (k := decide (0 < n)) (dp_val (dv_call c_is_led_up (hr.mono (by decide)) (da_cons (dv_var 1 rfl rfl) da_nil) ⟨n, ns, hn, rfl, rfl⟩)) (fun hk => dv_is (dv_var 1 rfl rfl) ?_) (fun hk => dv_is (dv_callTy cb_tupL M.tuple bt_tuple (da_cons (dv_lc1 2 (fun d => match d with | .int n => .int (-n) | _ => .non) (ds := (n :: ns).map .int) (wk_tup (dv_var 1 rfl rfl)) rfl sc_first_above.nd rfl (blkOk_by (N := N_first_above) (sc := defScope s_first_above) (by decide +kernel)) rfl (by rw [List.length_map]; have := hg.len; omega) (fun d hd s H c cl fp => ?_) (fun d hd => ?_)) da_nil)) ?_))
    · unfold up
      rw [List.headD_cons, if_pos (of_decide_eq_true hk)]
    · obtain ⟨i, _, rfl⟩ := List.mem_map.mp hd
      exact dv_neg (dv_var 2 rfl rfl)
    · obtain ⟨i, _, rfl⟩ := List.mem_map.mp hd
      rfl
    · unfold up
      rw [List.headD_cons, if_neg (of_decide_eq_false hk)]
      simp [iT, neg]
abbrev N_sign_of : List Str := ["number"]
theorem sc_sign_of : FnScope N_sign_of ["number"] (defScope s_sign_of) := ⟨rfl, rfl, rfl, by decide +kernel, rfl, by decide +kernel, by decide +kernel⟩
theorem ok_sign_of (M : Md C K mg) (T : Top K mg "sign_of" s_sign_of ["number"]) : CalD C P w K mg base 1 "sign_of" ["number"] R_sign_of := by
  refine T.ok sc_sign_of (fun ds d h => ?_) fun f cdv A outer s H E hr ds d h => ?_
  · obtain ⟨i, rfl, rfl⟩ := h
    rfl
  · obtain ⟨i, rfl, rfl⟩ := h
    refine ds_ret (dv_is (dv_subB (dv_cmp (dv_var 0 rfl rfl) dv_int cd_gt (nomark _)) (dv_cmp (dv_var 0 rfl rfl) dv_int cd_lt (nomark _))) ?_)
    rfl
end
end K28
set_option Elab.async false
set_option linter.all false
set_option maxRecDepth 100000
set_option maxHeartbeats 0
namespace K28
open PySem PySem.Spec PyProof.Rows L2 Evl
local macro_rules | `(tactic| walk_at "bd") => `(tactic| (refine' cmul ?ha ?hb ?hc; (case ha => repeat' (first | assumption | exact Sm.lit (by decide) | apply Sm.mul | apply Sm.add | apply Sm.sub | apply Sm.neg)); (case hb => repeat' (first | assumption | exact Sm.lit (by decide) | apply Sm.mul | apply Sm.add | apply Sm.sub | apply Sm.neg)); (case hc => decide)))
section
variable {C : Addr} {P : Program} {w : World} {K : PySem.W.Frag} {mg : Str → Option Value} {base : Heap}

/-! ### places, rounds, arms -/
/-- a place: the far one, or one of a point -/
def Pl (p s r : Int) : Prop := (Sm 64 p ∧ Sm 64 s ∧ Sm 64 r) ∧ ((p = 1 ∧ s = 0 ∧ r = 0) ∨ (0 < r ∧ divOf [p, s, r] = 1))
def Nr (p s r : Int) : Prop := (Sm 64 p ∧ Sm 64 s ∧ Sm 64 r) ∧ 0 < r ∧ divOf [p, s, r] = 1
theorem Nr.pl {p s r : Int} (h : Nr p s r) : Pl p s r := ⟨h.1, .inr h.2⟩
/-- four numbers -/
structure Rw where
  q : Int
  l : Int
  m : Int
  k : Int
def Rw.t (r : Rw) : List Int := [r.q, r.l, r.m, r.k]
abbrev rD (r : Rw) : Dt := .tup [.int r.q, .int r.l, .int r.m, .int r.k]
structure BR (r : Rw) : Prop where
  q : Sm 200 r.q
  l : Sm 200 r.l
  m : Sm 200 r.m
  k : Sm 200 r.k
def bd (r : Rw) : Int := r.l * r.l + r.m * r.m - 4 * r.q * r.k
def val (r : Rw) (p s t : Int) : Int := if t = 0 then r.q else r.q * (p * p + s * s) + r.l * p * t + r.m * s * t + r.k * t * t
def jt (r o : Rw) : Int := r.l * o.l + r.m * o.m - 2 * (r.q * o.k + o.q * r.k)
/-- a row -/
structure Ro (r : Rw) : Prop where
  b : BR r
  one : divOf r.t = 1
  pos : 0 < bd r
/-- a fraction -/
structure Fr' (n m : Int) : Prop where
  sn : Sm 80 n
  sm : Sm 80 m
  n0 : 0 < n
  m0 : 0 < m
  one : divOf [n, m] = 1
def R_is_place (ds : List Dt) (d : Dt) : Prop := ∃ p s r, Pl p s r ∧ ds = [iT [p, s, r]] ∧ d = .bl true
def R_check_place (ds : List Dt) (d : Dt) : Prop := ∃ p s r, Pl p s r ∧ ds = [iT [p, s, r]] ∧ d = .non
def R_is_ratio (ds : List Dt) (d : Dt) : Prop := ∃ p s r, Nr p s r ∧ ds = [iT [p, s, r]] ∧ d = .bl true
def R_check_ratio (ds : List Dt) (d : Dt) : Prop := ∃ p s r, Nr p s r ∧ ds = [iT [p, s, r]] ∧ d = .non
def R_bend (ds : List Dt) (d : Dt) : Prop := ∃ r, BR r ∧ ds = [rD r] ∧ d = .int (bd r)
def R_is_row (ds : List Dt) (d : Dt) : Prop := ∃ r, Ro r ∧ ds = [rD r] ∧ d = .bl true
def R_value_of (ds : List Dt) (d : Dt) : Prop := ∃ r p s t, BR r ∧ (Sm 64 p ∧ Sm 64 s ∧ Sm 64 t) ∧ ds = [rD r, iT [p, s, t]] ∧ d = .int (val r p s t)
def R_joint (ds : List Dt) (d : Dt) : Prop := ∃ r o, BR r ∧ BR o ∧ ds = [rD r, rD o] ∧ d = .int (jt r o)
def R_is_fraction (ds : List Dt) (d : Dt) : Prop := ∃ n m, Fr' n m ∧ ds = [iT [n, m]] ∧ d = .bl true
def R_is_ring (ds : List Dt) (d : Dt) : Prop := ∃ n m n' m', Fr' n m ∧ Fr' n' m' ∧ n * m' < n' * m ∧ ds = [.tup [iT [n, m], iT [n', m']]] ∧ d = .bl true
/-- (p, s, r) == FAR -/
theorem eqv3 (a b c x y z : Int) : PyData.eqv (py (iT [a, b, c])) (py (iT [x, y, z])) = (decide (a = x) && (decide (b = y) && decide (c = z))) := by
  simp [iT, py, pys, PyData.eqv, PyData.eqvAll, Lean.Grind.beq_eq_decide_eq]

abbrev N_is_place : List Str := ["value"]
theorem sc_is_place : FnScope N_is_place ["value"] (defScope s_is_place) := ⟨rfl, rfl, rfl, by decide +kernel, rfl, by decide +kernel, by decide +kernel⟩
theorem ok_is_place (M : Md C K mg) (T : Top K mg "is_place" s_is_place ["value"]) (c_are_wholes : CalD C P w K mg base 2 "are_wholes" ["value", "many"] R_are_wholes) (c_is_lowest : CalD C P w K mg base 2 "is_lowest" ["numbers"] R_is_lowest): CalD C P w K mg base 3 "is_place" ["value"] R_is_place := by
  refine T.ok sc_is_place (fun ds d h => ?_) fun f cdv A outer s H E hr ds d h => ?_
  · obtain ⟨p, s, r, hp, rfl, rfl⟩ := h
    rfl
  · obtain ⟨p, s, r, hp, rfl, rfl⟩ := h
    refine ds_ret (dv_is (dv_and (dv_call c_are_wholes (hr.mono (by decide)) (da_cons (dv_var 0 rfl rfl) (da_cons dv_int da_nil)) ⟨[p, s, r], 3, by simp, rfl, rfl⟩) fun _ => (dv_one (dv_or (dv_cmp (dv_var 0 rfl rfl) (dv_glob M.far rfl) (cd_eqD (room_u64 hr) rfl rfl rfl rfl (eqv3 _ _ _ _ _ _)) (nomark _)) fun _ => (dv_one (dv_and (dv_cmp (dv_ixT (dv_var 0 rfl rfl) dv_int rfl) dv_int cd_gt (nomark _)) fun _ => (dv_one (dv_call c_is_lowest (hr.mono (by decide)) (da_cons (dv_var 0 rfl rfl) da_nil) ⟨[p, s, r], by simp, rfl, rfl⟩))))))) ?_)
    rcases hp.2 with ⟨h1, h2, h3⟩ | ⟨h1, h2⟩
    · simp [h1, h2, h3]
    · simp [h1, h2]
abbrev N_check_place : List Str := ["value"]
theorem sc_check_place : FnScope N_check_place ["value"] (defScope s_check_place) := ⟨rfl, rfl, rfl, by decide +kernel, rfl, by decide +kernel, by decide +kernel⟩
theorem ok_check_place (M : Md C K mg) (T : Top K mg "check_place" s_check_place ["value"]) (c_is_place : CalD C P w K mg base 3 "is_place" ["value"] R_is_place): CalD C P w K mg base 4 "check_place" ["value"] R_check_place := by
  refine T.okN sc_check_place (fun ds d h => ?_) fun f cdv A outer s H E hr ds d h => ?_
  · obtain ⟨p, s, r, hp, rfl, rfl⟩ := h
    rfl
  · obtain ⟨p, s, r, hp, rfl, rfl⟩ := h
    refine' ⟨rfl, _, ?_⟩
    rotate_left
    refine ds_ifF (dp_is (dp_not (dp_val (dv_call c_is_place (hr.mono (by decide)) (da_cons (dv_var 0 rfl rfl) da_nil) ⟨p, s, r, hp, rfl, rfl⟩))) ?_) ?_
    · rfl
    exact ds_nil
abbrev N_is_ratio : List Str := ["value"]
theorem sc_is_ratio : FnScope N_is_ratio ["value"] (defScope s_is_ratio) := ⟨rfl, rfl, rfl, by decide +kernel, rfl, by decide +kernel, by decide +kernel⟩
theorem ok_is_ratio (M : Md C K mg) (T : Top K mg "is_ratio" s_is_ratio ["value"]) (c_is_place : CalD C P w K mg base 3 "is_place" ["value"] R_is_place): CalD C P w K mg base 4 "is_ratio" ["value"] R_is_ratio := by
  refine T.ok sc_is_ratio (fun ds d h => ?_) fun f cdv A outer s H E hr ds d h => ?_
  · obtain ⟨p, s, r, hp, rfl, rfl⟩ := h
    rfl
  · obtain ⟨p, s, r, hp, rfl, rfl⟩ := h
    refine ds_ret (dv_is (dv_and (dv_call c_is_place (hr.mono (by decide)) (da_cons (dv_var 0 rfl rfl) da_nil) ⟨p, s, r, hp.pl, rfl, rfl⟩) fun _ => (dv_one (dv_cmp (dv_var 0 rfl rfl) (dv_glob M.far rfl) (cd_neD (room_u64 hr) rfl rfl rfl rfl (eqv3 _ _ _ _ _ _)) (nomark _)))) ?_)
    have h := hp.2.1
    have h2 : r ≠ 0 := by omega
    simp [h2]
abbrev N_check_ratio : List Str := ["value"]
theorem sc_check_ratio : FnScope N_check_ratio ["value"] (defScope s_check_ratio) := ⟨rfl, rfl, rfl, by decide +kernel, rfl, by decide +kernel, by decide +kernel⟩
theorem ok_check_ratio (M : Md C K mg) (T : Top K mg "check_ratio" s_check_ratio ["value"]) (c_is_ratio : CalD C P w K mg base 4 "is_ratio" ["value"] R_is_ratio): CalD C P w K mg base 5 "check_ratio" ["value"] R_check_ratio := by
  refine T.okN sc_check_ratio (fun ds d h => ?_) fun f cdv A outer s H E hr ds d h => ?_
  · obtain ⟨p, s, r, hp, rfl, rfl⟩ := h
    rfl
  · obtain ⟨p, s, r, hp, rfl, rfl⟩ := h
    refine' ⟨rfl, _, ?_⟩
    rotate_left
    refine ds_ifF (dp_is (dp_not (dp_val (dv_call c_is_ratio (hr.mono (by decide)) (da_cons (dv_var 0 rfl rfl) da_nil) ⟨p, s, r, hp, rfl, rfl⟩))) ?_) ?_
    · rfl
    exact ds_nil
abbrev N_bend : List Str := ["row"]
theorem sc_bend : FnScope N_bend ["row"] (defScope s_bend) := ⟨rfl, rfl, rfl, by decide +kernel, rfl, by decide +kernel, by decide +kernel⟩
theorem ok_bend (M : Md C K mg) (T : Top K mg "bend" s_bend ["row"]) : CalD C P w K mg base 1 "bend" ["row"] R_bend := by
  refine T.ok sc_bend (fun ds d h => ?_) fun f cdv A outer s H E hr ds d h => ?_
  · obtain ⟨r, ⟨hq, hl, hm, hk⟩, rfl, rfl⟩ := h
    rfl
  · obtain ⟨r, ⟨hq, hl, hm, hk⟩, rfl, rfl⟩ := h
    refine ds_ret (dv_is (dv_sub (dv_add (dv_mul (dv_ixT (dv_var 0 rfl rfl) dv_int rfl) (dv_ixT (dv_var 0 rfl rfl) dv_int rfl) (by walk_at "bd")) (dv_mul (dv_ixT (dv_var 0 rfl rfl) dv_int rfl) (dv_ixT (dv_var 0 rfl rfl) dv_int rfl) (by walk_at "bd"))) (dv_mul (dv_mul dv_int (dv_ixT (dv_var 0 rfl rfl) dv_int rfl) (by walk_at "bd")) (dv_ixT (dv_var 0 rfl rfl) dv_int rfl) (by walk_at "bd"))) ?_)
    rfl
abbrev N_is_row : List Str := ["value"]
theorem sc_is_row : FnScope N_is_row ["value"] (defScope s_is_row) := ⟨rfl, rfl, rfl, by decide +kernel, rfl, by decide +kernel, by decide +kernel⟩
theorem ok_is_row (M : Md C K mg) (T : Top K mg "is_row" s_is_row ["value"]) (c_are_wholes : CalD C P w K mg base 2 "are_wholes" ["value", "many"] R_are_wholes) (c_is_lowest : CalD C P w K mg base 2 "is_lowest" ["numbers"] R_is_lowest) (c_bend : CalD C P w K mg base 1 "bend" ["row"] R_bend): CalD C P w K mg base 3 "is_row" ["value"] R_is_row := by
  refine T.ok sc_is_row (fun ds d h => ?_) fun f cdv A outer s H E hr ds d h => ?_
  · obtain ⟨r, hr0, rfl, rfl⟩ := h
    rfl
  · obtain ⟨r, hr0, rfl, rfl⟩ := h
    refine ds_ret (dv_is (dv_and (dv_call c_are_wholes (hr.mono (by decide)) (da_cons (dv_var 0 rfl rfl) (da_cons dv_int da_nil)) ⟨r.t, 4, by simp [Rw.t], rfl, rfl⟩) fun _ => (dv_and (dv_call c_is_lowest (hr.mono (by decide)) (da_cons (dv_var 0 rfl rfl) da_nil) ⟨r.t, by simp [Rw.t], rfl, rfl⟩) fun _ => (dv_one (dv_cmp (dv_call c_bend (hr.mono (by decide)) (da_cons (dv_var 0 rfl rfl) da_nil) ⟨r, hr0.b, rfl, rfl⟩) dv_int cd_gt (nomark _))))) ?_)
    simp only [decide_eq_true hr0.pos, Dt.bl.injEq, Bool.and_true, Bool.true_and, hr0.one]
    rfl
abbrev N_value_of : List Str := ["row", "place", "p", "s", "r"]
theorem sc_value_of : FnScope N_value_of ["row", "place"] (defScope s_value_of) := ⟨rfl, rfl, rfl, by decide +kernel, rfl, by decide +kernel, by decide +kernel⟩
theorem ok_value_of (M : Md C K mg) (T : Top K mg "value_of" s_value_of ["row", "place"]) : CalD C P w K mg base 1 "value_of" ["row", "place"] R_value_of := by
  refine T.ok sc_value_of (fun ds d h => ?_) fun f cdv A outer s H E hr ds d h => ?_
  · obtain ⟨r, p, s, t, hb, hp, rfl, rfl⟩ := h
    rfl
  · obtain ⟨r, p, s, t, ⟨hq, hl, hm, hk⟩, ⟨hp, hs, ht⟩, rfl, rfl⟩ := h
    refine ds_asg (dv_var 1 rfl rfl) (dg_tup rfl (dgs_cons (dg_name 2 rfl sc_value_of.nd) (dgs_cons (dg_name 3 rfl sc_value_of.nd) (dgs_cons (dg_name 4 rfl sc_value_of.nd) dgs_nil)))) ?_
    refine ds_if2 (dp_cmp (dv_var 4 rfl rfl) dv_int cd_eq (nomark _)) (fun hk => ?_) fun hk => ?_
    · refine ds_ret (dv_is (dv_ixT (dv_var 0 rfl rfl) dv_int rfl) ?_)
      unfold val
      rw [if_pos (of_decide_eq_true hk)]
    · refine ds_ret (dv_is (dv_add (dv_add (dv_add (dv_mul (dv_ixT (dv_var 0 rfl rfl) dv_int rfl) (dv_add (dv_mul (dv_var 2 rfl rfl) (dv_var 2 rfl rfl) (by walk_at "bd")) (dv_mul (dv_var 3 rfl rfl) (dv_var 3 rfl rfl) (by walk_at "bd"))) (by walk_at "bd")) (dv_mul (dv_mul (dv_ixT (dv_var 0 rfl rfl) dv_int rfl) (dv_var 2 rfl rfl) (by walk_at "bd")) (dv_var 4 rfl rfl) (by walk_at "bd"))) (dv_mul (dv_mul (dv_ixT (dv_var 0 rfl rfl) dv_int rfl) (dv_var 3 rfl rfl) (by walk_at "bd")) (dv_var 4 rfl rfl) (by walk_at "bd"))) (dv_mul (dv_mul (dv_ixT (dv_var 0 rfl rfl) dv_int rfl) (dv_var 4 rfl rfl) (by walk_at "bd")) (dv_var 4 rfl rfl) (by walk_at "bd"))) ?_)
      unfold val
      rw [if_neg (of_decide_eq_false hk)]
abbrev N_joint : List Str := ["row", "other"]
theorem sc_joint : FnScope N_joint ["row", "other"] (defScope s_joint) := ⟨rfl, rfl, rfl, by decide +kernel, rfl, by decide +kernel, by decide +kernel⟩
theorem ok_joint (M : Md C K mg) (T : Top K mg "joint" s_joint ["row", "other"]) : CalD C P w K mg base 1 "joint" ["row", "other"] R_joint := by
  refine T.ok sc_joint (fun ds d h => ?_) fun f cdv A outer s H E hr ds d h => ?_
  · obtain ⟨r, o, ⟨hq, hl, hm, hk⟩, ⟨oq, ol, om, ok⟩, rfl, rfl⟩ := h
    rfl
  · obtain ⟨r, o, ⟨hq, hl, hm, hk⟩, ⟨oq, ol, om, ok⟩, rfl, rfl⟩ := h
    refine ds_ret (dv_is (dv_sub (dv_add (dv_mul (dv_ixT (dv_var 0 rfl rfl) dv_int rfl) (dv_ixT (dv_var 1 rfl rfl) dv_int rfl) (by walk_at "bd")) (dv_mul (dv_ixT (dv_var 0 rfl rfl) dv_int rfl) (dv_ixT (dv_var 1 rfl rfl) dv_int rfl) (by walk_at "bd"))) (dv_mul dv_int (dv_add (dv_mul (dv_ixT (dv_var 0 rfl rfl) dv_int rfl) (dv_ixT (dv_var 1 rfl rfl) dv_int rfl) (by walk_at "bd")) (dv_mul (dv_ixT (dv_var 1 rfl rfl) dv_int rfl) (dv_ixT (dv_var 0 rfl rfl) dv_int rfl) (by walk_at "bd"))) (by walk_at "bd"))) ?_)
    rfl
abbrev N_is_fraction : List Str := ["value"]
theorem sc_is_fraction : FnScope N_is_fraction ["value"] (defScope s_is_fraction) := ⟨rfl, rfl, rfl, by decide +kernel, rfl, by decide +kernel, by decide +kernel⟩
theorem ok_is_fraction (M : Md C K mg) (T : Top K mg "is_fraction" s_is_fraction ["value"]) (c_are_wholes : CalD C P w K mg base 2 "are_wholes" ["value", "many"] R_are_wholes) (c_is_lowest : CalD C P w K mg base 2 "is_lowest" ["numbers"] R_is_lowest): CalD C P w K mg base 3 "is_fraction" ["value"] R_is_fraction := by
  refine T.ok sc_is_fraction (fun ds d h => ?_) fun f cdv A outer s H E hr ds d h => ?_
  · obtain ⟨n, m, h, rfl, rfl⟩ := h
    rfl
  · obtain ⟨n, m, h, rfl, rfl⟩ := h
    refine ds_ret (dv_is (dv_and (dv_call c_are_wholes (hr.mono (by decide)) (da_cons (dv_var 0 rfl rfl) (da_cons dv_int da_nil)) ⟨[n, m], 2, by simp, rfl, rfl⟩) fun _ => (dv_and (dv_cmp (dv_ixT (dv_var 0 rfl rfl) dv_int rfl) dv_int cd_gt (nomark _)) fun _ => (dv_and (dv_cmp (dv_ixT (dv_var 0 rfl rfl) dv_int rfl) dv_int cd_gt (nomark _)) fun _ => (dv_one (dv_call c_is_lowest (hr.mono (by decide)) (da_cons (dv_var 0 rfl rfl) da_nil) ⟨[n, m], by simp, rfl, rfl⟩))))) ?_)
    simp [h.n0, h.m0, h.one]
abbrev N_is_ring : List Str := ["value"]
theorem sc_is_ring : FnScope N_is_ring ["value"] (defScope s_is_ring) := ⟨rfl, rfl, rfl, by decide +kernel, rfl, by decide +kernel, by decide +kernel⟩
theorem ok_is_ring (M : Md C K mg) (T : Top K mg "is_ring" s_is_ring ["value"]) (c_is_fraction : CalD C P w K mg base 3 "is_fraction" ["value"] R_is_fraction): CalD C P w K mg base 4 "is_ring" ["value"] R_is_ring := by
  refine T.ok sc_is_ring (fun ds d h => ?_) fun f cdv A outer s H E hr ds d h => ?_
  · obtain ⟨n, m, n2, m2, ⟨h1, h2, h3, h4, h5⟩, ⟨k1, k2, k3, k4, k5⟩, hl, rfl, rfl⟩ := h
    rfl
  · obtain ⟨n, m, n2, m2, ⟨h1, h2, h3, h4, h5⟩, ⟨k1, k2, k3, k4, k5⟩, hl, rfl, rfl⟩ := h
    refine ds_ifF (dp_is (dp_w (dw_or (dp_not (dp_val (dv_callB (cb_isi rfl M.ktt) M.isinstance bt_isinstance (da_cons (dv_var 0 rfl rfl) (da_cons (dv_ty M.tuple bt_tuple) da_nil))))) fun _ => (dw_or (dp_cmp (dv_callB cb_lenT M.len bt_len (da_cons (dv_var 0 rfl rfl) da_nil)) dv_int cd_ne (nomark _)) fun _ => (dw_or (dp_not (dp_val (dv_call c_is_fraction (hr.mono (by decide)) (da_cons (dv_ixT (dv_var 0 rfl rfl) dv_int rfl) da_nil) ⟨n, m, ⟨h1, h2, h3, h4, h5⟩, rfl, rfl⟩))) fun _ => (dw_or1 (dp_not (dp_val (dv_call c_is_fraction (hr.mono (by decide)) (da_cons (dv_ixT (dv_var 0 rfl rfl) dv_int rfl) da_nil) ⟨n2, m2, ⟨k1, k2, k3, k4, k5⟩, rfl, rfl⟩)))))))) ?_) ?_
    · rfl
    refine ds_ret (dv_is (dv_cmp (dv_mul (dv_ixT (dv_ixT (dv_var 0 rfl rfl) dv_int rfl) dv_int rfl) (dv_ixT (dv_ixT (dv_var 0 rfl rfl) dv_int rfl) dv_int rfl) (by walk_at "bd")) (dv_mul (dv_ixT (dv_ixT (dv_var 0 rfl rfl) dv_int rfl) dv_int rfl) (dv_ixT (dv_ixT (dv_var 0 rfl rfl) dv_int rfl) dv_int rfl) (by walk_at "bd")) cd_lt (nomark _)) ?_)
    simpa using hl
end
end K28
set_option Elab.async false
set_option linter.all false
set_option maxRecDepth 100000
set_option maxHeartbeats 0
namespace K28
open PySem PySem.Spec PyProof.Rows L2 Evl
local macro_rules | `(tactic| walk_at "bd") => `(tactic| (refine' cmul ?ha ?hb ?hc; (case ha => repeat' (first | assumption | exact Sm.lit (by decide) | apply Sm.mul | apply Sm.add | apply Sm.sub | apply Sm.neg)); (case hb => repeat' (first | assumption | exact Sm.lit (by decide) | apply Sm.mul | apply Sm.add | apply Sm.sub | apply Sm.neg)); (case hc => decide)))
section
variable {C : Addr} {P : Program} {w : World} {K : PySem.W.Frag} {mg : Str → Option Value} {base : Heap}

/-! ### balls -/
abbrev plD (r : Rw) : Dt := .tup [.tup [.int r.l, .int r.m, .int (r.q - r.k)], .int (r.q + r.k)]
def ms (r o : Rw) : Int := sg ((o.l * o.l + o.m * o.m + (o.q - o.k) * (o.q - o.k)) * (r.q + r.k) - (o.q + o.k) * (o.l * r.l + o.m * r.m + (o.q - o.k) * (r.q - r.k)))
def R_dot (ds : List Dt) (d : Dt) : Prop := ∃ a b c x y z, (Sm 250 a ∧ Sm 250 b ∧ Sm 250 c) ∧ (Sm 250 x ∧ Sm 250 y ∧ Sm 250 z) ∧ ds = [.tup [.int a, .int b, .int c], .tup [.int x, .int y, .int z]] ∧ d = .int (a * x + b * y + c * z)
def R_plane_of (ds : List Dt) (d : Dt) : Prop := ∃ r, ds = [rD r] ∧ d = plD r
def R_spots_of (ds : List Dt) (d : Dt) : Prop := ∃ r o, BR r ∧ BR o ∧ bd r * bd o - jt r o * jt r o < 0 ∧ ds = [rD r, rD o] ∧ d = .lst []
def R_mean_side (ds : List Dt) (d : Dt) : Prop := ∃ r o, BR r ∧ BR o ∧ ds = [plD r, plD o] ∧ d = .int (ms r o)
def R_signs_along (ds : List Dt) (d : Dt) : Prop := (∃ a, BR a ∧ ds = [.lst [plD a], .int 0] ∧ d = iT [0]) ∨ (∃ a b, BR a ∧ BR b ∧ ds = [.lst [plD a, plD b], .int 0] ∧ d = iT [0, ms b a]) ∨ (∃ a b, BR a ∧ BR b ∧ ds = [.lst [plD a, plD b], .int 1] ∧ d = iT [ms a b, 0])
def R_with_side (ds : List Dt) (d : Dt) : Prop := (∃ a z, ds = [iT [a], .int 0, .int z] ∧ d = .ttup [z]) ∨ (∃ a b z, ds = [iT [a, b], .int 0, .int z] ∧ d = .ttup [z, b]) ∨ (∃ a b z, ds = [iT [a, b], .int 1, .int z] ∧ d = .ttup [a, z])
def R_around (ds : List Dt) (d : Dt) : Prop := (∃ a, ds = [iT [a], .int 0] ∧ d = .lst [.ttup [-1], .ttup [0], .ttup [1]]) ∨ (∃ a b, ds = [iT [a, b], .int 0] ∧ d = .lst [.ttup [-1, b], .ttup [0, b], .ttup [1, b]]) ∨ (∃ a b, ds = [iT [a, b], .int 1] ∧ d = .lst [.ttup [a, -1], .ttup [a, 0], .ttup [a, 1]])
theorem BR.pl {r : Rw} (b : BR r) : (Sm 250 r.l ∧ Sm 250 r.m ∧ Sm 250 (r.q - r.k)) ∧ Sm 250 (r.q + r.k) :=
  ⟨⟨b.l.mono (by decide), b.m.mono (by decide), (b.q.sub b.k).mono (by decide)⟩, (b.q.add b.k).mono (by decide)⟩
theorem da_is {X : Cx} {es : List Expr} {Γ : Env'} {ds ds' : List Dt} (h : Da C X es Γ ds) (e : ds = ds') : Da C X es Γ ds' := e ▸ h
/-! enumerate in a comprehension -/
theorem wipe2 (i j : Nat) (σ : L2.St) : L2.wipe (L2.wipe σ [i, j]) [i, j] = L2.wipe σ [i, j] := by
  apply List.ext_getElem?
  intro k
  simp only [L2.wipe, List.getElem?_set, List.length_set]
  split <;> split <;> simp_all
def fstD : Dt → Dt
  | .tup (a :: _) => a
  | _ => .non
def sndD : Dt → Dt
  | .tup (_ :: b :: _) => b
  | _ => .non
theorem tg2 {X : Cx} {Γ : Env'} {scope : Scope} {x y : Str} {px py pt : Pos} {kt : Nat} (i j : Nat) {s : Shared} {H : Hp} {c : Addr} {cl : List (Str × Addr)} {fp : List Addr} {a b : Dt} (hc : X.calm = true) (hi : X.N[i]? = some x) (hj : X.N[j]? = some y) (hN : X.N.Nodup) (hx : (relabel scope X.env).names.lookup x = some .local)
    (hy : (relabel scope X.env).names.lookup y = some .local) (h1 : (x == ("__debug__" : Str)) = false) (h2 : (y == ("__debug__" : Str)) = false) :
    ∃ g, PG (blkX X scope s H c cl fp) (.Tuple [.Name x px, .Name y py] kt pt) g ∧ ∀ v σ H, Rp C X.K H v (.tup [a, b]) → SD C X.K H σ (wipeD Γ [i, j]) → ∀ Q : L2.St → Hp → Prop, (∀ σ', SD C X.K H σ' (((wipeD Γ [i, j]).set i (some a)).set j (some b)) → L2.wipe σ' [i, j] = L2.wipe σ [i, j] → Q σ' H) → g v σ H Q := by
  refine ⟨_, pg_tup (X := blkX X scope s H c cl fp) (n := 2) hc (pgs_cons (pg_name (X := blkX X scope s H c cl fp) (i := i) hN hi (Or.inl hx) (Or.inr hx)) (pgs_cons (pg_name (X := blkX X scope s H c cl fp) (i := j) hN hj (Or.inl hy) (Or.inr hy)) pgs_nil)), fun v σ H r hs Q q => ?_⟩
  cases r with
  | tup h rr =>
    obtain ⟨u, w, rfl, r1, r2⟩ := rr.two
    refine ⟨_, _, rfl, h, rfl, u, [w], rfl, w, [], rfl, rfl, q _ ((hs.set r1 i).set r2 j) ?_⟩
    apply List.ext_getElem?
    intro k
    simp only [L2.wipe, List.getElem?_set, List.length_set]
    split <;> split <;> simp_all
theorem dv_lcE {X : Cx} {Γ : Env'} {elt iter : Expr} {pos : Pos} {ds : List Dt} {scope : Scope} {x y : Str} {px py pt : Pos} {kt : Nat} (i j : Nat) (F : Dt → Dt) (hw : Walks' C X (.Tuple [.Name x px, .Name y py] kt pt) iter Γ ds) (hc : X.calm = true) (hN : X.N.Nodup) (hi : X.N[i]? = some x) (hj : X.N[j]? = some y)
    (ok : BlkOk X.N X.env.scope scope [(x, i), (y, j)]) (hx : (relabel scope X.env).names.lookup x = some .local) (hy : (relabel scope X.env).names.lookup y = some .local) (hlen : ds.length ≤ 100000) (hd : ∀ d ∈ ds, d = .tup [fstD d, sndD d])
    (he : ∀ d ∈ ds, ∀ s H c cl fp, Dv C (blkX X scope s H c cl fp) elt (((wipeD Γ [i, j]).set i (some (fstD d))).set j (some (sndD d))) (F d)) (hlf : ∀ d ∈ ds, lf (F d) = true) (hs : ∀ x, foldedSetIterable iter X.env x = pure x := by intro _; rfl) (h1 : (x == ("__debug__" : Str)) = false := by decide) (h2 : (y == ("__debug__" : Str)) = false := by decide) :
    Dv C X (.ListComp elt [⟨.Tuple [.Name x px, .Name y py] kt pt, iter, [], 0⟩] scope pos) Γ (.lst (ds.map F)) := by
  obtain ⟨t, ⟨p, _⟩, ev⟩ := dv_lcG (spos := pos) [(x, i), (y, j)] F (fun d => ((wipeD Γ [i, j]).set i (some (fstD d))).set j (some (sndD d))) hw hc hN ok hlen (fun d hm s H c cl fp => by
    obtain ⟨g, pg, eg⟩ := tg2 (C := C) (Γ := Γ) (px := px) (py := py) (pt := pt) (kt := kt) (s := s) (H := H) (c := c) (cl := cl) (fp := fp) (a := fstD d) (b := sndD d) i j hc hi hj hN hx hy h1 h2
    exact ⟨g, pg, fun v σ H r => eg v σ H (by rw [← hd d hm]; exact r)⟩) he hlf (wipe2 i j) hs
  exact ⟨t, p, ev⟩

abbrev N_dot : List Str := ["row", "other"]
theorem sc_dot : FnScope N_dot ["row", "other"] (defScope s_dot) := ⟨rfl, rfl, rfl, by decide +kernel, rfl, by decide +kernel, by decide +kernel⟩
theorem ok_dot (M : Md C K mg) (T : Top K mg "dot" s_dot ["row", "other"]) : CalD C P w K mg base 1 "dot" ["row", "other"] R_dot := by
  refine T.ok sc_dot (fun ds d h => ?_) fun f cdv A outer s H E hr ds d h => ?_
  · obtain ⟨a, b, c, x, y, z, ⟨ha, hb, hc⟩, ⟨hx, hy, hz⟩, rfl, rfl⟩ := h
    rfl
  · obtain ⟨a, b, c, x, y, z, ⟨ha, hb, hc⟩, ⟨hx, hy, hz⟩, rfl, rfl⟩ := h
    refine ds_ret (dv_is (dv_add (dv_add (dv_mul (dv_ixT (dv_var 0 rfl rfl) dv_int rfl) (dv_ixT (dv_var 1 rfl rfl) dv_int rfl) (by walk_at "bd")) (dv_mul (dv_ixT (dv_var 0 rfl rfl) dv_int rfl) (dv_ixT (dv_var 1 rfl rfl) dv_int rfl) (by walk_at "bd"))) (dv_mul (dv_ixT (dv_var 0 rfl rfl) dv_int rfl) (dv_ixT (dv_var 1 rfl rfl) dv_int rfl) (by walk_at "bd"))) ?_)
    rfl
abbrev N_plane_of : List Str := ["row", "q", "l", "m", "k"]
theorem sc_plane_of : FnScope N_plane_of ["row"] (defScope s_plane_of) := ⟨rfl, rfl, rfl, by decide +kernel, rfl, by decide +kernel, by decide +kernel⟩
theorem ok_plane_of (M : Md C K mg) (T : Top K mg "plane_of" s_plane_of ["row"]) : CalD C P w K mg base 1 "plane_of" ["row"] R_plane_of := by
  refine T.ok sc_plane_of (fun ds d h => ?_) fun f cdv A outer s H E hr ds d h => ?_
  · obtain ⟨r, rfl, rfl⟩ := h
    rfl
  · obtain ⟨r, rfl, rfl⟩ := h
    refine ds_asg (dv_var 0 rfl rfl) (dg_tup rfl (dgs_cons (dg_name 1 rfl sc_plane_of.nd) (dgs_cons (dg_name 2 rfl sc_plane_of.nd) (dgs_cons (dg_name 3 rfl sc_plane_of.nd) (dgs_cons (dg_name 4 rfl sc_plane_of.nd) dgs_nil))))) ?_
    refine ds_ret (dv_is (dv_tup (da_cons (dv_tup (da_cons (dv_var 2 rfl rfl) (da_cons (dv_var 3 rfl rfl) (da_cons (dv_sub (dv_var 1 rfl rfl) (dv_var 4 rfl rfl)) da_nil)))) (da_cons (dv_add (dv_var 1 rfl rfl) (dv_var 4 rfl rfl)) da_nil))) ?_)
    rfl

abbrev N_mean_side : List Str := ["plane", "other", "n", "e", "o", "f"]
theorem sc_mean_side : FnScope N_mean_side ["plane", "other"] (defScope s_mean_side) := ⟨rfl, rfl, rfl, by decide +kernel, rfl, by decide +kernel, by decide +kernel⟩
theorem ok_mean_side (M : Md C K mg) (T : Top K mg "mean_side" s_mean_side ["plane", "other"]) (c_sign_of : CalD C P w K mg base 1 "sign_of" ["number"] R_sign_of) (c_dot : CalD C P w K mg base 1 "dot" ["row", "other"] R_dot) : CalD C P w K mg base 2 "mean_side" ["plane", "other"] R_mean_side := by
  refine T.ok sc_mean_side (fun ds d h => ?_) fun f cdv A outer s H E hr ds d h => ?_
  · obtain ⟨r, o, hb, ho, rfl, rfl⟩ := h
    rfl
  · obtain ⟨r, o, hb, ho, rfl, rfl⟩ := h
    obtain ⟨⟨l1, l2, l3⟩, l4⟩ := hb.pl
    obtain ⟨⟨o1, o2, o3⟩, o4⟩ := ho.pl
    refine ds_asg (dv_tup (da_cons (dv_var 0 rfl rfl) (da_cons (dv_var 1 rfl rfl) da_nil))) (dg_tup rfl (dgs_cons (dg_tup rfl (dgs_cons (dg_name 2 rfl sc_mean_side.nd) (dgs_cons (dg_name 3 rfl sc_mean_side.nd) dgs_nil))) (dgs_cons (dg_tup rfl (dgs_cons (dg_name 4 rfl sc_mean_side.nd) (dgs_cons (dg_name 5 rfl sc_mean_side.nd) dgs_nil))) dgs_nil))) ?_

    refine ds_ret (dv_is (dv_call c_sign_of (hr.mono (by decide)) (da_cons (dv_sub (dv_mul (dv_call c_dot (hr.mono (by decide)) (da_cons (dv_var 4 rfl rfl) (da_cons (dv_var 4 rfl rfl) da_nil)) ⟨_, _, _, _, _, _, ⟨o1, o2, o3⟩, ⟨o1, o2, o3⟩, rfl, rfl⟩) (dv_var 3 rfl rfl) (by walk_at "bd")) (dv_mul (dv_var 5 rfl rfl) (dv_call c_dot (hr.mono (by decide)) (da_cons (dv_var 4 rfl rfl) (da_cons (dv_var 2 rfl rfl) da_nil)) ⟨_, _, _, _, _, _, ⟨o1, o2, o3⟩, ⟨l1, l2, l3⟩, rfl, rfl⟩) (by walk_at "bd"))) da_nil) ⟨_, rfl, rfl⟩) ?_)
    rfl
abbrev N_spots_of : List Str := ["row", "other", "square", "base", "one", "two", "three", "weight", "n", "e", "o", "f", "x", "y", "z", "way"]
theorem sc_spots_of : FnScope N_spots_of ["row", "other"] (defScope s_spots_of) := ⟨rfl, rfl, rfl, by decide +kernel, rfl, by decide +kernel, by decide +kernel⟩
theorem bd_sm {r : Rw} (b : BR r) : Sm 500 (bd r) := (((b.l.mul b.l).add (b.m.mul b.m)).sub (((Sm.lit (by decide)).mul b.q).mul b.k)).mono (by decide)
theorem jt_sm {r o : Rw} (b : BR r) (c : BR o) : Sm 500 (jt r o) := (((b.l.mul c.l).add (b.m.mul c.m)).sub ((Sm.lit (by decide)).mul ((b.q.mul c.k).add (c.q.mul b.k)))).mono (by decide)
theorem ok_spots_of (M : Md C K mg) (T : Top K mg "spots_of" s_spots_of ["row", "other"]) (c_plane_of : CalD C P w K mg base 1 "plane_of" ["row"] R_plane_of) (c_dot : CalD C P w K mg base 1 "dot" ["row", "other"] R_dot) (c_bend : CalD C P w K mg base 1 "bend" ["row"] R_bend) (c_joint : CalD C P w K mg base 1 "joint" ["row", "other"] R_joint) : CalD C P w K mg base 2 "spots_of" ["row", "other"] R_spots_of := by
  refine T.ok sc_spots_of (fun ds d h => ?_) fun f cdv A outer s H E hr ds d h => ?_
  · obtain ⟨r, o, hb, ho, hn, rfl, rfl⟩ := h
    rfl
  · obtain ⟨r, o, hb, ho, hn, rfl, rfl⟩ := h
    obtain ⟨⟨l1, l2, l3⟩, l4⟩ := hb.pl
    obtain ⟨⟨o1, o2, o3⟩, o4⟩ := ho.pl
    have b1 := bd_sm hb
    have b2 := bd_sm ho
    have b3 := jt_sm hb ho
    refine ds_asg (dv_tup (da_cons (dv_call c_plane_of (hr.mono (by decide)) (da_cons (dv_var 0 rfl rfl) da_nil) ⟨r, rfl, rfl⟩) (da_cons (dv_call c_plane_of (hr.mono (by decide)) (da_cons (dv_var 1 rfl rfl) da_nil) ⟨o, rfl, rfl⟩) da_nil))) (dg_tup rfl (dgs_cons (dg_tup rfl (dgs_cons (dg_name 8 rfl sc_spots_of.nd) (dgs_cons (dg_name 9 rfl sc_spots_of.nd) dgs_nil))) (dgs_cons (dg_tup rfl (dgs_cons (dg_name 10 rfl sc_spots_of.nd) (dgs_cons (dg_name 11 rfl sc_spots_of.nd) dgs_nil))) dgs_nil))) ?_
    refine ds_asg (dv_tup (da_cons (dv_call c_dot (hr.mono (by decide)) (da_cons (dv_var 8 rfl rfl) (da_cons (dv_var 8 rfl rfl) da_nil)) ⟨_, _, _, _, _, _, ⟨l1, l2, l3⟩, ⟨l1, l2, l3⟩, rfl, rfl⟩) (da_cons (dv_call c_dot (hr.mono (by decide)) (da_cons (dv_var 8 rfl rfl) (da_cons (dv_var 10 rfl rfl) da_nil)) ⟨_, _, _, _, _, _, ⟨l1, l2, l3⟩, ⟨o1, o2, o3⟩, rfl, rfl⟩) (da_cons (dv_call c_dot (hr.mono (by decide)) (da_cons (dv_var 10 rfl rfl) (da_cons (dv_var 10 rfl rfl) da_nil)) ⟨_, _, _, _, _, _, ⟨o1, o2, o3⟩, ⟨o1, o2, o3⟩, rfl, rfl⟩) da_nil)))) (dg_tup rfl (dgs_cons (dg_name 4 rfl sc_spots_of.nd) (dgs_cons (dg_name 5 rfl sc_spots_of.nd) (dgs_cons (dg_name 6 rfl sc_spots_of.nd) dgs_nil)))) ?_
    refine ds_set 2 rfl sc_spots_of.nd (dv_sub (dv_mul (dv_call c_bend (hr.mono (by decide)) (da_cons (dv_var 0 rfl rfl) da_nil) ⟨r, hb, rfl, rfl⟩) (dv_call c_bend (hr.mono (by decide)) (da_cons (dv_var 1 rfl rfl) da_nil) ⟨o, ho, rfl, rfl⟩) (by walk_at "bd")) (dv_mul (dv_call c_joint (hr.mono (by decide)) (da_cons (dv_var 0 rfl rfl) (da_cons (dv_var 1 rfl rfl) da_nil)) ⟨r, o, hb, ho, rfl, rfl⟩) (dv_call c_joint (hr.mono (by decide)) (da_cons (dv_var 0 rfl rfl) (da_cons (dv_var 1 rfl rfl) da_nil)) ⟨r, o, hb, ho, rfl, rfl⟩) (by walk_at "bd"))) ?_
    refine ds_ifT (dp_is (dp_cmp (dv_var 2 rfl rfl) dv_int cd_lt (nomark _)) ?_) (ds_ret (dv_lst da_nil))
    exact decide_eq_true hn
abbrev N_signs_along : List Str := ["planes", "index", "own", "at", "plane"]
theorem sc_signs_along : FnScope N_signs_along ["planes", "index"] (defScope s_signs_along) := ⟨rfl, rfl, rfl, by decide +kernel, rfl, by decide +kernel, by decide +kernel⟩
theorem ok_signs_along (M : Md C K mg) (T : Top K mg "signs_along" s_signs_along ["planes", "index"]) (c_mean_side : CalD C P w K mg base 2 "mean_side" ["plane", "other"] R_mean_side) : CalD C P w K mg base 3 "signs_along" ["planes", "index"] R_signs_along := by
  refine T.ok sc_signs_along (fun ds d h => ?_) fun f cdv A outer s H E hr ds d h => ?_
  · rcases h with ⟨_, _, rfl, _⟩ | ⟨_, _, _, _, rfl, _⟩ | ⟨_, _, _, _, rfl, _⟩ <;> rfl
  · rcases h with ⟨a, ha, rfl, rfl⟩ | ⟨a, b, ha, hb, rfl, rfl⟩ | ⟨a, b, ha, hb, rfl, rfl⟩
    · refine ds_set 2 rfl sc_signs_along.nd (dv_ixL (dv_var 0 rfl rfl) (dv_var 1 rfl rfl) rfl) ?_
      refine ds_ret (dv_is (dv_callTy cb_tupL M.tuple bt_tuple (da_cons (dv_lcE 3 4 (fun d => match fstD d with | .int 0 => .int (0) | _ => .non) (ds := enD 0 [plD a]) (wk_enumL (dv_var 0 rfl rfl) M.enumerate) rfl sc_signs_along.nd rfl rfl (blkOk_by (N := N_signs_along) (sc := defScope s_signs_along) (by decide +kernel)) rfl rfl (by simp [enD]) (fun d hd => ?_) (fun d hd s H c cl fp => ?_) (fun d hd => ?_)) da_nil)) ?_)
      · simp only [enD, List.mem_cons, List.not_mem_nil, or_false] at hd
        rcases hd with rfl <;> rfl
      · simp only [enD, List.mem_cons, List.not_mem_nil, or_false] at hd
        rcases hd with rfl
        · exact dv_if (k := true) (dp_is (dp_cmp (dv_var 3 rfl rfl) (dv_var 1 rfl rfl) cd_eq (nomark _)) rfl) (fun _ => dv_int) (fun z => nomatch z)
      · simp only [enD, List.mem_cons, List.not_mem_nil, or_false] at hd
        rcases hd with rfl <;> rfl
      rfl
    · refine ds_set 2 rfl sc_signs_along.nd (dv_ixL (dv_var 0 rfl rfl) (dv_var 1 rfl rfl) rfl) ?_
      refine ds_ret (dv_is (dv_callTy cb_tupL M.tuple bt_tuple (da_cons (dv_lcE 3 4 (fun d => match fstD d with | .int 0 => .int (0) | .int 1 => .int (ms b a) | _ => .non) (ds := enD 0 [plD a, plD b]) (wk_enumL (dv_var 0 rfl rfl) M.enumerate) rfl sc_signs_along.nd rfl rfl (blkOk_by (N := N_signs_along) (sc := defScope s_signs_along) (by decide +kernel)) rfl rfl (by simp [enD]) (fun d hd => ?_) (fun d hd s H c cl fp => ?_) (fun d hd => ?_)) da_nil)) ?_)
      · simp only [enD, List.mem_cons, List.not_mem_nil, or_false] at hd
        rcases hd with rfl | rfl <;> rfl
      · simp only [enD, List.mem_cons, List.not_mem_nil, or_false] at hd
        rcases hd with rfl | rfl
        · exact dv_if (k := true) (dp_is (dp_cmp (dv_var 3 rfl rfl) (dv_var 1 rfl rfl) cd_eq (nomark _)) rfl) (fun _ => dv_int) (fun z => nomatch z)
        · exact dv_if (k := false) (dp_is (dp_cmp (dv_var 3 rfl rfl) (dv_var 1 rfl rfl) cd_eq (nomark _)) rfl) (fun z => nomatch z) (fun _ => dv_call c_mean_side (hr.mono (by decide)) (da_cons (dv_var 4 rfl rfl) (da_cons (dv_var 2 rfl rfl) da_nil)) ⟨_, _, hb, ha, rfl, rfl⟩)
      · simp only [enD, List.mem_cons, List.not_mem_nil, or_false] at hd
        rcases hd with rfl | rfl <;> rfl
      rfl
    · refine ds_set 2 rfl sc_signs_along.nd (dv_ixL (dv_var 0 rfl rfl) (dv_var 1 rfl rfl) rfl) ?_
      refine ds_ret (dv_is (dv_callTy cb_tupL M.tuple bt_tuple (da_cons (dv_lcE 3 4 (fun d => match fstD d with | .int 0 => .int (ms a b) | .int 1 => .int (0) | _ => .non) (ds := enD 0 [plD a, plD b]) (wk_enumL (dv_var 0 rfl rfl) M.enumerate) rfl sc_signs_along.nd rfl rfl (blkOk_by (N := N_signs_along) (sc := defScope s_signs_along) (by decide +kernel)) rfl rfl (by simp [enD]) (fun d hd => ?_) (fun d hd s H c cl fp => ?_) (fun d hd => ?_)) da_nil)) ?_)
      · simp only [enD, List.mem_cons, List.not_mem_nil, or_false] at hd
        rcases hd with rfl | rfl <;> rfl
      · simp only [enD, List.mem_cons, List.not_mem_nil, or_false] at hd
        rcases hd with rfl | rfl
        · exact dv_if (k := false) (dp_is (dp_cmp (dv_var 3 rfl rfl) (dv_var 1 rfl rfl) cd_eq (nomark _)) rfl) (fun z => nomatch z) (fun _ => dv_call c_mean_side (hr.mono (by decide)) (da_cons (dv_var 4 rfl rfl) (da_cons (dv_var 2 rfl rfl) da_nil)) ⟨_, _, ha, hb, rfl, rfl⟩)
        · exact dv_if (k := true) (dp_is (dp_cmp (dv_var 3 rfl rfl) (dv_var 1 rfl rfl) cd_eq (nomark _)) rfl) (fun _ => dv_int) (fun z => nomatch z)
      · simp only [enD, List.mem_cons, List.not_mem_nil, or_false] at hd
        rcases hd with rfl | rfl <;> rfl
      rfl
abbrev N_with_side : List Str := ["signs", "index", "side"]
theorem sc_with_side : FnScope N_with_side ["signs", "index", "side"] (defScope s_with_side) := ⟨rfl, rfl, rfl, by decide +kernel, rfl, by decide +kernel, by decide +kernel⟩
theorem ok_with_side (M : Md C K mg) (T : Top K mg "with_side" s_with_side ["signs", "index", "side"]) : CalD C P w K mg base 1 "with_side" ["signs", "index", "side"] R_with_side := by
  refine T.ok sc_with_side (fun ds d h => ?_) fun f cdv A outer s H E hr ds d h => ?_
  · rcases h with ⟨_, _, rfl, _⟩ | ⟨_, _, _, rfl, _⟩ | ⟨_, _, _, rfl, _⟩ <;> rfl
  · rcases h with ⟨a, z, rfl, rfl⟩ | ⟨a, b, z, rfl, rfl⟩ | ⟨a, b, z, rfl, rfl⟩
    · exact ds_ret (dv_tupT (ns := [z]) (da_is (da_star (dv_slT (dv_var 0 rfl rfl) do_none (do_some (dv_var 1 rfl rfl))) (da_cons (dv_var 2 rfl rfl) (da_star (dv_slT (dv_var 0 rfl rfl) (do_some (dv_add (dv_var 1 rfl rfl) dv_int)) do_none) da_nil))) rfl) (by simp))
    · exact ds_ret (dv_tupT (ns := [z, b]) (da_is (da_star (dv_slT (dv_var 0 rfl rfl) do_none (do_some (dv_var 1 rfl rfl))) (da_cons (dv_var 2 rfl rfl) (da_star (dv_slT (dv_var 0 rfl rfl) (do_some (dv_add (dv_var 1 rfl rfl) dv_int)) do_none) da_nil))) rfl) (by simp))
    · exact ds_ret (dv_tupT (ns := [a, z]) (da_is (da_star (dv_slT (dv_var 0 rfl rfl) do_none (do_some (dv_var 1 rfl rfl))) (da_cons (dv_var 2 rfl rfl) (da_star (dv_slT (dv_var 0 rfl rfl) (do_some (dv_add (dv_var 1 rfl rfl) dv_int)) do_none) da_nil))) rfl) (by simp))
abbrev N_around : List Str := ["signs", "index", "side"]
theorem sc_around : FnScope N_around ["signs", "index"] (defScope s_around) := ⟨rfl, rfl, rfl, by decide +kernel, rfl, by decide +kernel, by decide +kernel⟩
theorem ok_around (M : Md C K mg) (T : Top K mg "around" s_around ["signs", "index"]) (c_with_side : CalD C P w K mg base 1 "with_side" ["signs", "index", "side"] R_with_side) : CalD C P w K mg base 2 "around" ["signs", "index"] R_around := by
  refine T.ok sc_around (fun ds d h => ?_) fun f cdv A outer s H E hr ds d h => ?_
  · rcases h with ⟨_, rfl, _⟩ | ⟨_, _, rfl, _⟩ | ⟨_, _, rfl, _⟩ <;> rfl
  · rcases h with ⟨a, rfl, rfl⟩ | ⟨a, b, rfl, rfl⟩ | ⟨a, b, rfl, rfl⟩
    · refine ds_ret (dv_is (dv_lc1 2 (fun d => match d with | .int z => .ttup [z] | _ => .non) (ds := ([-1, 0, 1] : List Int).map .int) (wk_tup (dv_tup (da_cons (dv_neg dv_int) (da_cons dv_int (da_cons dv_int da_nil))))) rfl sc_around.nd rfl (blkOk_by (N := N_around) (sc := defScope s_around) (by decide +kernel)) rfl (by decide) (fun d hd s H c cl fp => ?_) (fun d hd => ?_)) ?_)
      · obtain ⟨z, _, rfl⟩ := List.mem_map.mp hd
        exact dv_call c_with_side (hr.mono (by decide)) (da_cons (dv_var 0 rfl rfl) (da_cons (dv_var 1 rfl rfl) (da_cons (dv_var 2 rfl rfl) da_nil))) (.inl ⟨a, z, rfl, rfl⟩)
      · obtain ⟨z, _, rfl⟩ := List.mem_map.mp hd
        rfl
      · rfl
    · refine ds_ret (dv_is (dv_lc1 2 (fun d => match d with | .int z => .ttup [z, b] | _ => .non) (ds := ([-1, 0, 1] : List Int).map .int) (wk_tup (dv_tup (da_cons (dv_neg dv_int) (da_cons dv_int (da_cons dv_int da_nil))))) rfl sc_around.nd rfl (blkOk_by (N := N_around) (sc := defScope s_around) (by decide +kernel)) rfl (by decide) (fun d hd s H c cl fp => ?_) (fun d hd => ?_)) ?_)
      · obtain ⟨z, _, rfl⟩ := List.mem_map.mp hd
        exact dv_call c_with_side (hr.mono (by decide)) (da_cons (dv_var 0 rfl rfl) (da_cons (dv_var 1 rfl rfl) (da_cons (dv_var 2 rfl rfl) da_nil))) (.inr (.inl ⟨a, b, z, rfl, rfl⟩))
      · obtain ⟨z, _, rfl⟩ := List.mem_map.mp hd
        rfl
      · rfl
    · refine ds_ret (dv_is (dv_lc1 2 (fun d => match d with | .int z => .ttup [a, z] | _ => .non) (ds := ([-1, 0, 1] : List Int).map .int) (wk_tup (dv_tup (da_cons (dv_neg dv_int) (da_cons dv_int (da_cons dv_int da_nil))))) rfl sc_around.nd rfl (blkOk_by (N := N_around) (sc := defScope s_around) (by decide +kernel)) rfl (by decide) (fun d hd s H c cl fp => ?_) (fun d hd => ?_)) ?_)
      · obtain ⟨z, _, rfl⟩ := List.mem_map.mp hd
        exact dv_call c_with_side (hr.mono (by decide)) (da_cons (dv_var 0 rfl rfl) (da_cons (dv_var 1 rfl rfl) (da_cons (dv_var 2 rfl rfl) da_nil))) (.inr (.inr ⟨a, b, z, rfl, rfl⟩))
      · obtain ⟨z, _, rfl⟩ := List.mem_map.mp hd
        rfl
      · rfl
end
end K28
set_option Elab.async false
set_option linter.all false
set_option maxRecDepth 100000
set_option maxHeartbeats 0
namespace K28
open PySem PySem.Spec PyProof.Rows L2 Evl
local macro_rules | `(tactic| walk_at "bd") => `(tactic| (refine' cmul ?ha ?hb ?hc; (case ha => repeat' (first | assumption | exact Sm.lit (by decide) | apply Sm.mul | apply Sm.add | apply Sm.sub | apply Sm.neg)); (case hb => repeat' (first | assumption | exact Sm.lit (by decide) | apply Sm.mul | apply Sm.add | apply Sm.sub | apply Sm.neg)); (case hc => decide)))
section
variable {C : Addr} {P : Program} {w : World} {K : PySem.W.Frag} {mg : Str → Option Value} {base : Heap}

/-! ### fields -/
/-- a round as the lots have it -/
structure Rg (r : Rw) : Prop where
  ro : Ro r
  q0 : r.q ≠ 0
def upT (r : Rw) : List Int := up r.t
theorem Rg.gd {r : Rw} (h : Rg r) : Gd (r.q :: [r.l, r.m, r.k]) := ⟨by simp, fun n hn => by
  simp only [List.mem_cons, List.not_mem_nil, or_false] at hn
  rcases hn with rfl | rfl | rfl | rfl
  · exact h.ro.b.q.mono (by decide)
  · exact h.ro.b.l.mono (by decide)
  · exact h.ro.b.m.mono (by decide)
  · exact h.ro.b.k.mono (by decide), r.q, by simp, h.q0⟩
def S0 : Int := 2 ^ 200
theorem sm_S0 {x : Int} (h : Sm 200 x) : -S0 ≤ x ∧ x < S0 := by
  unfold Sm at h
  have e : S0 = ((2 ^ 200 : Nat) : Int) := by decide +kernel
  rw [e]
  omega
theorem upT_ok {r : Rw} (h : Rg r) : (upT r).length = 4 ∧ BdS S0 (upT r) := by
  have hb := h.ro.b
  unfold upT up Rw.t
  split
  · refine ⟨rfl, fun m hm => ?_⟩
    rw [List.mem_cons, List.mem_cons, List.mem_cons, List.mem_singleton] at hm
    obtain rfl | rfl | rfl | rfl := hm
    · exact sm_S0 hb.q
    · exact sm_S0 hb.l
    · exact sm_S0 hb.m
    · exact sm_S0 hb.k
  · refine ⟨rfl, fun m hm => ?_⟩
    simp only [neg, List.map_cons, List.map_nil, List.mem_cons, List.not_mem_nil, or_false] at hm
    obtain rfl | rfl | rfl | rfl := hm
    · exact sm_S0 hb.q.neg
    · exact sm_S0 hb.l.neg
    · exact sm_S0 hb.m.neg
    · exact sm_S0 hb.k.neg
def R_merged (ds : List Dt) (d : Dt) : Prop := ∃ rs os : List Rw, (∀ r ∈ rs ++ os, Rg r) ∧ (rs ++ os).length < 64 ∧ (ds = [.lst (rs.map rD), .lst (os.map rD)] ∨ ds = [.tup (rs.map rD), .tup (os.map rD)]) ∧ ∃ U : List (List Int), U.Nodup ∧ SameSet U ((rs ++ os).map upT) ∧ d = .tun ((srt S0 U).map iT)
def R_signs_at (ds : List Dt) (d : Dt) : Prop := ∃ (rs : List Rw) (p s t : Int), (∀ r ∈ rs, BR r) ∧ rs.length < 64 ∧ (Sm 64 p ∧ Sm 64 s ∧ Sm 64 t) ∧ ds = [.tup (rs.map rD), iT [p, s, t]] ∧ d = iT (rs.map fun r => sg (val r p s t))

abbrev N_merged : List Str := ["rounds", "others", "row"]
theorem sc_merged : FnScope N_merged ["rounds", "others"] (defScope s_merged) := ⟨rfl, rfl, rfl, by decide +kernel, rfl, by decide +kernel, by decide +kernel⟩
theorem ok_merged (M : Md C K mg) (T : Top K mg "merged" s_merged ["rounds", "others"]) (c_first_above : CalD C P w K mg base 3 "first_above" ["numbers"] R_first_above) : CalD C P w K mg base 4 "merged" ["rounds", "others"] R_merged := by
  refine T.ok sc_merged (fun ds d h => ?_) fun f cdv A outer s H E hr ds d h => ?_
  · obtain ⟨rs, os, _, _, rfl | rfl, _⟩ := h <;> rfl
  · obtain ⟨rs, os, hR, hl, hds, U, hU, hS, rfl⟩ := h
    rcases hds with rfl | rfl
    · refine ds_ret (dv_callTy cb_tunL M.tuple bt_tuple (da_cons (dv_sortSet (S := S0) (n := 4) (U := U) (dv_is (dv_lc1 2 (fun d => match d with | .tup [.int q, .int l, .int m, .int k] => iT (upT ⟨q, l, m, k⟩) | _ => .non) (ds := (rs ++ os).map rD) (wk_list (dv_is (dv_cat (dv_callTy cb_lstL M.list bt_list (da_cons (dv_var 0 rfl rfl) da_nil)) (dv_callTy cb_lstL M.list bt_list (da_cons (dv_var 1 rfl rfl) da_nil)) (by simp only [List.length_map]; rw [List.length_append] at hl; omega)) (by simp))) rfl sc_merged.nd rfl (blkOk_by (N := N_merged) (sc := defScope s_merged) (by decide +kernel)) rfl (by rw [List.length_map]; omega) (fun d hd s H c cl fp => ?_) (fun d hd => ?_)) (show _ = Dt.lst (((rs ++ os).map upT).map iT) by simp only [List.map_map]; rfl)) rfl (room_u64 hr) (by decide) (by rw [List.length_map]; exact hl) (fun r hr => ?_) hU hS M.set M.sorted) da_nil))
      · obtain ⟨x, hx, rfl⟩ := List.mem_map.mp hd
        exact dv_call c_first_above (hr.mono (by decide)) (da_cons (dv_var 2 rfl rfl) da_nil) ⟨x.q, [x.l, x.m, x.k], (hR x hx).gd, (hR x hx).ro.one, (hR x hx).q0, rfl, rfl⟩
      · obtain ⟨x, hx, rfl⟩ := List.mem_map.mp hd
        simp only [lf]
        exact lfs_map fun _ _ => rfl
      · obtain ⟨x, hx, rfl⟩ := List.mem_map.mp hr
        exact upT_ok (hR x hx)
    · refine ds_ret (dv_callTy cb_tunL M.tuple bt_tuple (da_cons (dv_sortSet (S := S0) (n := 4) (U := U) (dv_is (dv_lc1 2 (fun d => match d with | .tup [.int q, .int l, .int m, .int k] => iT (upT ⟨q, l, m, k⟩) | _ => .non) (ds := (rs ++ os).map rD) (wk_list (dv_is (dv_cat (dv_callTy cb_lstT M.list bt_list (da_cons (dv_var 0 rfl rfl) da_nil)) (dv_callTy cb_lstT M.list bt_list (da_cons (dv_var 1 rfl rfl) da_nil)) (by simp only [List.length_map]; rw [List.length_append] at hl; omega)) (by simp))) rfl sc_merged.nd rfl (blkOk_by (N := N_merged) (sc := defScope s_merged) (by decide +kernel)) rfl (by rw [List.length_map]; omega) (fun d hd s H c cl fp => ?_) (fun d hd => ?_)) (show _ = Dt.lst (((rs ++ os).map upT).map iT) by simp only [List.map_map]; rfl)) rfl (room_u64 hr) (by decide) (by rw [List.length_map]; exact hl) (fun r hr => ?_) hU hS M.set M.sorted) da_nil))
      · obtain ⟨x, hx, rfl⟩ := List.mem_map.mp hd
        exact dv_call c_first_above (hr.mono (by decide)) (da_cons (dv_var 2 rfl rfl) da_nil) ⟨x.q, [x.l, x.m, x.k], (hR x hx).gd, (hR x hx).ro.one, (hR x hx).q0, rfl, rfl⟩
      · obtain ⟨x, hx, rfl⟩ := List.mem_map.mp hd
        simp only [lf]
        exact lfs_map fun _ _ => rfl
      · obtain ⟨x, hx, rfl⟩ := List.mem_map.mp hr
        exact upT_ok (hR x hx)
abbrev N_signs_at : List Str := ["rounds", "place", "row"]
theorem sc_signs_at : FnScope N_signs_at ["rounds", "place"] (defScope s_signs_at) := ⟨rfl, rfl, rfl, by decide +kernel, rfl, by decide +kernel, by decide +kernel⟩
theorem ok_signs_at (M : Md C K mg) (T : Top K mg "signs_at" s_signs_at ["rounds", "place"]) (c_sign_of : CalD C P w K mg base 1 "sign_of" ["number"] R_sign_of) (c_value_of : CalD C P w K mg base 1 "value_of" ["row", "place"] R_value_of): CalD C P w K mg base 2 "signs_at" ["rounds", "place"] R_signs_at := by
  refine T.ok sc_signs_at (fun ds d h => ?_) fun f cdv A outer s H E hr ds d h => ?_
  · obtain ⟨rs, p, q, t, hR, hl, hp, rfl, rfl⟩ := h
    rfl
  · obtain ⟨rs, p, q, t, hR, hl, hp, rfl, rfl⟩ := h
    refine ds_ret (dv_is (dv_callTy cb_tupL M.tuple bt_tuple (da_cons (dv_lc1 2 (fun d => match d with | .tup [.int a, .int l, .int m, .int k] => .int (sg (val ⟨a, l, m, k⟩ p q t)) | _ => .non) (ds := rs.map rD) (wk_tup (dv_var 0 rfl rfl)) rfl sc_signs_at.nd rfl (blkOk_by (N := N_signs_at) (sc := defScope s_signs_at) (by decide +kernel)) rfl (by rw [List.length_map]; omega) (fun d hd s H c cl fp => ?_) (fun d hd => ?_)) da_nil)) ?_)
    · obtain ⟨x, hx, rfl⟩ := List.mem_map.mp hd
      exact (dv_call c_sign_of (hr.mono (by decide)) (da_cons (dv_call c_value_of (hr.mono (by decide)) (da_cons (dv_var 2 rfl rfl) (da_cons (dv_var 1 rfl rfl) da_nil)) ⟨x, p, q, t, hR x hx, hp, rfl, rfl⟩) da_nil) ⟨_, rfl, rfl⟩)
    · obtain ⟨x, hx, rfl⟩ := List.mem_map.mp hd
      rfl
    simp only [List.map_map, iT]
    rfl
end
end K28
set_option Elab.async false
set_option linter.all false
set_option maxRecDepth 100000
set_option maxHeartbeats 0
namespace K28
open PySem PySem.Spec PyProof.Rows L2 Evl

/-! ### what is rewritten: lists of some lengths, dicts -/
mutual
/-- no list of a length that bl tells, no dict where bk holds -/
def fr (bl : Nat → Bool) (bk : Bool) : Dt → Bool
  | .tup xs => frs bl bk xs
  | .lst xs => !bl xs.length && frs bl bk xs
  | .frl xs => !bl xs.length && frs bl bk xs
  | .lot t r => fr bl bk t && fr bl bk r
  | .dic _ => !bk
  | .tun xs => frs bl bk xs
  | _ => true
def frs (bl : Nat → Bool) (bk : Bool) : List Dt → Bool
  | [] => true
  | d :: ds => fr bl bk d && frs bl bk ds
end
/-- all that is no such list and no such dict is as it was -/
def ExP (bl : Nat → Bool) (bk : Bool) (H H' : Hp) : Prop := ∀ b o, H b = some o → (∀ xs, o = .lst xs → bl xs.length = false) → (∀ kvs, o = .dT kvs → bk = false) → H' b = some o
section
variable {C : Addr} {K : PySem.W.Frag} {H H' : Hp} {bl : Nat → Bool} {bk : Bool}
theorem ExP.of_lst {l : Addr} {xs ys : List V} (h : H l = some (.lst xs)) (hb : bl xs.length = true) : ExP bl bk H (upd H l (.lst ys)) := fun b o e n _ => by
  by_cases hbl : b = l
  · subst hbl
    rw [h] at e; cases e
    have := n xs rfl
    rw [hb] at this; cases this
  · rw [upd_ne hbl]; exact e
theorem ExP.of_dic {l : Addr} {xs ys : List (List Key × V)} (h : H l = some (.dT xs)) (hb : bk = true) : ExP bl bk H (upd H l (.dT ys)) := fun b o e _ n => by
  by_cases hbl : b = l
  · subst hbl
    rw [h] at e; cases e
    have := n xs rfl
    rw [hb] at this; cases this
  · rw [upd_ne hbl]; exact e
theorem ExP.t (e : ExP bl bk H H') {a : Addr} {xs : List V} (h : SqT K H a xs) : SqT K H' a xs := by
  obtain (h | ⟨o, h⟩) | h := h
  · exact .inl (.inl (e _ _ h (fun _ z => by cases z) fun _ z => by cases z))
  · exact .inl (.inr ⟨o, e _ _ h (fun _ z => by cases z) fun _ z => by cases z⟩)
  · exact .inr h
theorem ExP.l (e : ExP bl bk H H') {a : Addr} {xs : List V} (h : SqL K H a xs) (hl : bl xs.length = false) : SqL K H' a xs := by
  obtain (h | ⟨o, h⟩) | h := h
  · exact .inl (.inl (e _ _ h (fun _ z => by cases z; exact hl) fun _ z => by cases z))
  · exact .inl (.inr ⟨o, e _ _ h (fun _ z => by cases z) fun _ z => by cases z⟩)
  · exact .inr h
mutual
theorem Rp.pmono (e : ExP bl bk H H') : ∀ {v : V} {d : Dt}, Rp C K H v d → fr bl bk d = true → Rp C K H' v d
  | _, _, .non, _ => .non
  | _, _, .bl b, _ => .bl b
  | _, _, .int i, _ => .int i
  | _, _, .str x, _ => .str x
  | _, _, .tup h r, p => .tup (e.t h) (RpAll.pmono e r (by rw [fr] at p; exact p))
  | _, _, .lst h r, p => by
    rw [fr, Bool.and_eq_true] at p
    exact .lst (e _ _ h (fun _ z => by cases z; rw [r.length]; simpa using p.1) fun _ z => by cases z) (RpAll.pmono e r p.2)
  | _, _, .lot h l1 l2 r1 r2 n, p => by
    rw [fr, Bool.and_eq_true] at p
    exact .lot (e _ _ h (fun _ z => by cases z) fun _ z => by cases z) l1 l2 (Rp.pmono e r1 p.1) (Rp.pmono e r2 p.2) n
  | _, _, .ty n, _ => .ty n
  | _, _, .cls, _ => .cls
  | _, _, .frl h r, p => by
    rw [fr, Bool.and_eq_true] at p
    exact .frl (e.l h (by rw [r.length]; simpa using p.1)) (RpAll.pmono e r p.2)
  | _, _, .dic h, p => by
    rw [fr] at p
    exact .dic (e _ _ h (fun _ z => by cases z) fun _ _ => by simpa using p)
  | _, _, .ttup h, _ => .ttup (e _ _ h (fun _ z => by cases z) fun _ z => by cases z)
  | _, _, .adr a, _ => .adr a
  | _, _, .tun h n r, p => .tun (e _ _ h (fun _ z => by cases z) fun _ z => by cases z) n (RpAll.pmono e r (by rw [fr] at p; exact p))
theorem RpAll.pmono (e : ExP bl bk H H') : ∀ {vs : List V} {ds : List Dt}, RpAll C K H vs ds → frs bl bk ds = true → RpAll C K H' vs ds
  | _, _, .nil, _ => .nil
  | _, _, .cons h r, p => by
    rw [frs, Bool.and_eq_true] at p
    exact .cons (Rp.pmono e h p.1) (RpAll.pmono e r p.2)
end
/-- a frame of such data -/
def frE (bl : Nat → Bool) (bk : Bool) : Env' → Bool
  | [] => true
  | none :: Γ => frE bl bk Γ
  | some d :: Γ => fr bl bk d && frE bl bk Γ
theorem SD.pmono (e : ExP bl bk H H') : ∀ {σ : L2.St} {Γ : Env'}, SD C K H σ Γ → frE bl bk Γ = true → SD C K H' σ Γ
  | _, _, .nil, _ => .nil
  | _, _, .cons (d := none) h t, p => .cons True.intro (SD.pmono e t p)
  | _, _, .cons (d := some d) ⟨v, h, r⟩ t, p => by
    rw [frE, Bool.and_eq_true] at p
    exact .cons ⟨v, h, r.pmono e p.1⟩ (SD.pmono e t p.2)
theorem Rp.adr_eq {v : V} {a : Addr} (r : Rp C K H v (.adr a)) : v = .ref a := by cases r; rfl
end

/-! ### statements by what holds ahead of and behind them -/
abbrev Asn := L2.St → Hp → Prop
def tH (Φ Ψ : Asn) (R : V → Hp → Prop) : TS := fun D σ H => Φ σ H ∧ (∀ σ' H', Ψ σ' H' → D.nx σ' H') ∧ ∀ v H', R v H' → D.rt v H'
def Hs (X : Cx) (sts : List Stmt) (Φ Ψ : Asn) (R : V → Hp → Prop) : Prop := PSs X sts (tH Φ Ψ R)
def H1 (X : Cx) (st : Stmt) (Φ Ψ : Asn) (R : V → Hp → Prop) : Prop := PS X st (tH Φ Ψ R)
/-- data in the slots, and what else holds of the heap -/
def Sg (C : Addr) (K : PySem.W.Frag) (Γ : Env') (G : Hp → Prop) : Asn := fun σ H => SD C K H σ Γ ∧ G H
def Grow (G : Hp → Prop) : Prop := ∀ H H', Ex H H' → G H → G H'
section
variable {C : Addr} {X : Cx} {Γ Γ' : Env'} {Φ Ψ Ψ' : Asn} {R : V → Hp → Prop} {G : Hp → Prop} {st : Stmt} {sts rest : List Stmt} {d : Dt} {e : Expr} {pos : Pos}
theorem h1_of {t : TS} (p : PS X st t) (h : ∀ σ H D, Φ σ H → (∀ σ' H', Ψ σ' H' → D.nx σ' H') → (∀ v H', R v H' → D.rt v H') → t D σ H) : H1 X st Φ Ψ R :=
  ⟨fun pins s σ H D I q => p.run pins s σ H D I (h σ H D q.1 q.2.1 q.2.2)⟩
theorem hs_of {t : TS} (p : PSs X sts t) (h : ∀ σ H D, Φ σ H → (∀ σ' H', Ψ σ' H' → D.nx σ' H') → (∀ v H', R v H' → D.rt v H') → t D σ H) : Hs X sts Φ Ψ R :=
  ⟨fun pins s σ H D I q => p.run pins s σ H D I (h σ H D q.1 q.2.1 q.2.2)⟩
theorem hs_nil : Hs X [] Φ Φ R := hs_of pss_nil fun σ H D h q _ => q σ H h
theorem hs_cons (h1 : H1 X st Φ Ψ' R) (h2 : Hs X rest Ψ' Ψ R) : Hs X (st :: rest) Φ Ψ R :=
  hs_of (pss_cons h1 h2) fun σ H D h q r => ⟨h, fun σ' H' h' => ⟨h', q, r⟩, r⟩
theorem hs_pre (h : Hs X sts Ψ' Ψ R) (i : ∀ σ H, Φ σ H → Ψ' σ H) : Hs X sts Φ Ψ R := hs_of h fun σ H D z q r => ⟨i σ H z, q, r⟩
theorem h1_pre (h : H1 X st Ψ' Ψ R) (i : ∀ σ H, Φ σ H → Ψ' σ H) : H1 X st Φ Ψ R := h1_of h fun σ H D z q r => ⟨i σ H z, q, r⟩
theorem hs_post (h : Hs X sts Φ Ψ' R) (i : ∀ σ H, Ψ' σ H → Ψ σ H) : Hs X sts Φ Ψ R := hs_of h fun σ H D z q r => ⟨z, fun σ' H' h' => q _ _ (i _ _ h'), r⟩
theorem h1_post (h : H1 X st Φ Ψ' R) (i : ∀ σ H, Ψ' σ H → Ψ σ H) : H1 X st Φ Ψ R := h1_of h fun σ H D z q r => ⟨z, fun σ' H' h' => q _ _ (i _ _ h'), r⟩
theorem hs_ex {α : Sort _} {Θ : α → Asn} (h : ∀ x, Hs X sts (Θ x) Ψ R) : Hs X sts (fun σ H => ∃ x, Θ x σ H) Ψ R :=
  ⟨fun pins s σ H D I ⟨⟨x, z⟩, q, r⟩ => (h x).run pins s σ H D I ⟨z, q, r⟩⟩
theorem h1_d (h : D1 C X st Γ (.nx Γ')) (g : Grow G) : H1 X st (Sg C X.K Γ G) (Sg C X.K Γ' G) R := by
  obtain ⟨t, p, ev⟩ := h
  exact h1_of p fun σ H D hs q r => ev σ H hs.1 D fun σ' H' e' hs' => q _ _ ⟨hs', g _ _ e' hs.2⟩
theorem hs_d (h : Ds C X sts Γ (.nx Γ')) (g : Grow G) : Hs X sts (Sg C X.K Γ G) (Sg C X.K Γ' G) R := by
  obtain ⟨t, p, ev⟩ := h
  exact hs_of p fun σ H D hs q r => ev σ H hs.1 D fun σ' H' e' hs' => q _ _ ⟨hs', g _ _ e' hs.2⟩
theorem hs_dR (h : Ds C X sts Γ (.rt d)) (g : Grow G) (i : ∀ v H, Rp C X.K H v d → G H → R v H) : Hs X sts (Sg C X.K Γ G) Ψ R := by
  obtain ⟨t, p, ev⟩ := h
  exact hs_of p fun σ H D hs q r => ev σ H hs.1 D fun v H' e' rv => r _ _ (i _ _ rv (g _ _ e' hs.2))
/-- if c: .., c known -/
theorem h1_if {c : Expr} {k : Bool} {A B : List Stmt} (hc : Dp' C X c Γ k) (g : Grow G) (h1 : k = true → Hs X A (Sg C X.K Γ G) Ψ R) (h2 : k = false → Hs X B (Sg C X.K Γ G) Ψ R) : H1 X (.If c A B pos) (Sg C X.K Γ G) Ψ R := by
  obtain ⟨tc, pc, ec⟩ := hc
  cases k with
  | true => exact h1_of (ps_if pc (h1 rfl) (pss_never (sts := B))) fun σ H D hs q r => ec σ H hs.1 _ fun H1 e1 => iteT ⟨⟨hs.1.mono e1, g _ _ e1 hs.2⟩, q, r⟩
  | false => exact h1_of (ps_if pc (pss_never (sts := A)) (h2 rfl)) fun σ H D hs q r => ec σ H hs.1 _ fun H1 e1 => iteF ⟨⟨hs.1.mono e1, g _ _ e1 hs.2⟩, q, r⟩
theorem hs_retE {t : TE} (p : PE X e t) (h : ∀ σ H, Φ σ H → ∀ Q : VK, (∀ v H', R v H' → Q v H') → t σ H Q) : Hs X (.Return (some e) pos :: rest) Φ Ψ R :=
  hs_of (pss_cons (ps_ret p) (pss_never (sts := rest))) fun σ H D z q r => h σ H z _ r
/-- for -/
theorem h1_for {tg : Expr} {body : List Stmt} {wi : TI} {g : TG} (pw : PI X tg e wi) (pg : PG X tg g) (n : Nat) (W B : It → Nat → Asn)
    (hw : ∀ σ H, Φ σ H → ∀ Rr : It → Hp → Prop, (∀ J H1, W J 0 σ H1 → Rr J H1) → wi σ H Rr)
    (hs : ∀ J i σ H, W J i σ H → i ≤ n ∧ (i = n → J.stop n H ∧ Ψ σ H) ∧ (i < n → J.go i H ∧ ∀ x H', J.yld i H x H' → ∀ Q : L2.St → Hp → Prop, (∀ σ' H', B J i σ' H' → Q σ' H') → g x σ H' Q))
    (hb : ∀ J i, i < n → Hs X body (B J i) (W J (i + 1)) R)
    (hp : PassesOwn (model X.prog X.w) X.A X.env X.xe) (hc : X.calm = true) (hf : ∀ x, foldedSetIterable e X.env x = pure x := by intro _; rfl) : H1 X (.For tg e body [] pos) Φ Ψ R := by
  let t : TS := fun D σ H => ∃ J i, i < n ∧ B J i σ H ∧ (∀ σ' H', W J (i + 1) σ' H' → D.nx σ' H') ∧ ∀ v H', R v H' → D.rt v H'
  have pt : PSs X body t := ⟨fun pins s σ H D I ⟨J, i, hi, hB, q, r⟩ => (hb J i hi).run pins s σ H D I ⟨hB, q, r⟩⟩
  refine h1_of (ps_for hp hc pw pg pt hf) fun σ H D z q r => hw σ H z _ fun J H1 hW => ?_
  refine ⟨fun i m σ' H' => m = n - i ∧ W J i σ' H', ⟨n, by simp, hW⟩, ?_⟩
  rintro i m σ' H' ⟨rfl, hW'⟩
  obtain ⟨h1, h2, h3⟩ := hs J i σ' H' hW'
  by_cases hl : i < n
  · obtain ⟨a1, a2⟩ := h3 hl
    exact .inr ⟨a1, fun σ2 H2 => W J (i + 1) σ2 H2, fun σ2 H2 h => ⟨n - (i + 1), by omega, rfl, h⟩, fun x H2 hy => a2 x H2 hy _ fun σ3 H3 hB => ⟨J, i, hl, hB, fun σ4 H4 h => h, r⟩⟩
  · have e : i = n := by omega
    subst e
    obtain ⟨b1, b2⟩ := h2 rfl
    exact .inl ⟨b1, q _ _ b2⟩
end
end K28
set_option Elab.async false
set_option linter.all false
set_option maxRecDepth 100000
set_option maxHeartbeats 0
namespace K28
open PySem PySem.Spec PyProof.Rows L2 Evl

/-- dicts may be rewritten, all else stays -/
abbrev ExK (H H' : Hp) : Prop := ExP (fun _ => false) true H H'
def Stb (F : Hp → Prop) : Prop := ∀ H H', ExK H H' → F H → F H'
theorem ExK.of_ex {H H' : Hp} (e : Ex H H') : ExK H H' := fun b o h _ _ => e b o h
theorem Stb.grow {F : Hp → Prop} (h : Stb F) : Grow F := fun H H' e => h H H' (.of_ex e)
theorem Grow.and {F G : Hp → Prop} (h : Grow F) (g : Grow G) : Grow (fun H => F H ∧ G H) := fun H H' e q => ⟨h H H' e q.1, g H H' e q.2⟩
theorem Stb.and {F G : Hp → Prop} (h : Stb F) (g : Stb G) : Stb (fun H => F H ∧ G H) := fun H H' e q => ⟨h H H' e q.1, g H H' e q.2⟩
theorem stb_true : Stb fun _ => True := fun _ _ _ _ => True.intro
theorem tup_put (ks : List (List Int)) (k : List Int) : putK (ks.map fun k => ((k.map Sum.inl : List Key), V.bl true)) (k.map Sum.inl) (V.bl true) = (if k ∈ ks then ks else ks ++ [k]).map fun k => ((k.map Sum.inl : List Key), V.bl true) := by
  have inj : ∀ x y : List Int, (x.map Sum.inl : List Key) = y.map Sum.inl → x = y := by
    intro x
    induction x with
    | nil => intro y e; cases y <;> simp_all
    | cons i x ih =>
      intro y e
      cases y with
      | nil => simp at e
      | cons j y =>
        simp only [List.map_cons, List.cons.injEq, Sum.inl.injEq] at e
        rw [e.1, ih y e.2]
  unfold putK
  by_cases h : k ∈ ks
  · rw [if_pos h, if_pos (by
      rw [List.any_eq_true]
      exact ⟨_, List.mem_map.mpr ⟨k, h, rfl⟩, by simp⟩), List.map_map]
    apply List.map_congr_left
    intro x _
    show (if (x.map Sum.inl : List Key) = k.map Sum.inl then ((x.map Sum.inl : List Key), V.bl true) else _) = _
    split <;> rfl
  · rw [if_neg h, if_neg (by
      rw [List.any_eq_true]
      rintro ⟨p, hp, e⟩
      obtain ⟨x, hx, rfl⟩ := List.mem_map.mp hp
      have := inj x k (of_decide_eq_true e)
      exact h (this ▸ hx)), List.map_append]
    rfl
def ins (ks : List (List Int)) (k : List Int) : List (List Int) := if k ∈ ks then ks else ks ++ [k]
theorem ins_length (ks : List (List Int)) (k : List Int) : (ins ks k).length ≤ ks.length + 1 := by
  unfold ins
  split
  · omega
  · simp
/-- the dict at M, new since H0 -/
def DicAt (H0 : Hp) (M : Addr) (ks : List (List Int)) (H : Hp) : Prop := Ex H0 H ∧ H0 M = none ∧ H M = some (.dT (ks.map fun k => (k.map Sum.inl, V.bl true)))
theorem DicAt.grow {H0 : Hp} {M : Addr} {ks : List (List Int)} : Grow (DicAt H0 M ks) := fun H H' e h => ⟨h.1.trans e, h.2.1, e _ _ h.2.2⟩
section
variable {C : Addr} {X : Cx} {Γ Γ' : Env'} {Φ Ψ Ψ' : Asn} {R : V → Hp → Prop} {G : Hp → Prop} {st : Stmt} {sts rest body : List Stmt} {d : Dt} {ds : List Dt} {a e o i : Expr} {pos pos' p apos tpos : Pos} {x : Str}
/-- d[k] = True -/
theorem h1_put {H0 : Hp} {M : Addr} {ks : List (List Int)} {k : List Int} {F : Hp → Prop} {j} {pv : Pos} (hu : X.A.units + 1 < cLine) (ho : Dv C X o Γ (.adr M)) (hi : Dv C X i Γ (.ttup k)) (hF : Stb F) (hf : frE (fun _ => false) true Γ = true) (hn : ks.length < 1000)
    (hs : swapsWith (.Constant (.bool true) j pv) (some (.Subscript o i pos')) pos.line X.env = pure false := by rfl) :
    H1 X (.Assign [.Subscript o i pos'] (.Constant (.bool true) j pv) pos) (Sg C X.K Γ fun H => DicAt H0 M ks H ∧ F H) (Sg C X.K Γ fun H => DicAt H0 M (ins ks k) H ∧ F H) R := by
  obtain ⟨to, po, eo⟩ := ho
  obtain ⟨ti, pi, ei⟩ := hi
  refine h1_of (ps_dput hu po pi (pe_bl (b := true)) hs) fun σ H D h q _ => ?_
  obtain ⟨hs, ⟨g1, g2, g3⟩, hF'⟩ := h
  refine eo σ H hs _ fun v H1 e1 r1 => ei σ H1 (hs.mono e1) _ fun y H2 e2 r2 => ?_
  cases r1.adr_eq
  cases r2 with
  | @ttup b _ hb =>
    have hb' : H2 b = some (.tup ((k.map Sum.inl).map kV)) := by rw [hb, List.map_map]; rfl
    have e := e1.trans e2
    have hM := e _ _ g3
    have e3 : ExK H2 (upd H2 M (.dT (putK (ks.map fun k => ((k.map Sum.inl : List Key), V.bl true)) (k.map Sum.inl) (V.bl true)))) := ExP.of_dic hM rfl
    refine ⟨M, _, rfl, DPut.t hM hb' (by rw [List.length_map, sizeLine_eq]; omega), q _ _ ⟨(hs.mono e).pmono e3 hf, ⟨(g1.trans e).mut g2, g2, ?_⟩, hF _ _ e3 (hF _ _ (.of_ex e) hF')⟩⟩
    rw [upd_same, tup_put]
    rfl
/-- for x in a list of data, the dict's changes inside -/
theorem h1_forL (k : Nat) {px : Pos} (F : Hp → Prop) (hF : Stb F) (Γs Bs : Nat → Env') (Gs : Nat → Hp → Prop) (he : Dv C X e (Γs 0) (.lst ds)) (hi : X.N[k]? = some x) (hN : X.N.Nodup) (hlf : frs (fun _ => false) true ds = true) (hG : ∀ i, Grow (Gs i)) (hB : ∀ i d, ds[i]? = some d → (Γs i).set k (some d) = Bs i)
    (hb : ∀ i d, ds[i]? = some d → ∀ F, Stb F → Hs X body (Sg C X.K (Bs i) fun H => Gs i H ∧ F H) (Sg C X.K (Γs (i + 1)) fun H => Gs (i + 1) H ∧ F H) R)
    (hp : PassesOwn (model X.prog X.w) X.A X.env X.xe) (hc : X.calm = true) (hx : Loc X.env.scope x := by first | exact Or.inl rfl | exact Or.inr rfl) (hfn : X.fn x = true ∨ X.env.scope.names.lookup x = some .local := by first | exact .inl rfl | exact .inr rfl | (left; rfl))
    (hf : ∀ x, foldedSetIterable e X.env x = pure x := by intro _; rfl) : H1 X (.For (.Name x px) e body [] pos) (Sg C X.K (Γs 0) fun H => Gs 0 H ∧ F H) (Sg C X.K (Γs ds.length) fun H => Gs ds.length H ∧ F H) R := by
  obtain ⟨t, pe, ev⟩ := he
  let L : Addr → List V → Hp → Prop := fun a vs H => H a = some (.lst vs) ∧ RpAll C X.K H vs ds
  have hL : ∀ a vs, Stb (L a vs) := fun a vs H H' ex h => ⟨ex _ _ h.1 (fun _ _ => rfl) (fun _ z => by cases z), h.2.pmono ex hlf⟩
  refine h1_for (pi_list pe) (pg_name hN hi hx hfn) ds.length (fun J i σ H => ∃ a vs, J = Itl X.K a ∧ i ≤ ds.length ∧ Sg C X.K (Γs i) (fun H => Gs i H ∧ F H ∧ L a vs H) σ H)
    (fun J i σ H => ∃ a vs, J = Itl X.K a ∧ Sg C X.K (Bs i) (fun H => Gs i H ∧ F H ∧ L a vs H) σ H) (fun σ H h Rr q => ?_) (fun J i σ H h => ?_) (fun J i hi' => ?_) hp hc hf
  · refine ev σ H h.1 _ fun v H1 e1 r1 => ?_
    cases r1 with
    | @lst a vs _ h1 h2 => exact ⟨a, rfl, ⟨vs, .inl (.inl h1)⟩, q _ _ ⟨a, vs, rfl, Nat.zero_le _, h.1.mono e1, hG 0 _ _ e1 h.2.1, hF.grow _ _ e1 h.2.2, h1, h2⟩⟩
  · obtain ⟨a, vs, rfl, hi', hs, hg, hF', h1, h2⟩ := h
    have hq : SqL X.K H a vs := .inl (.inl h1)
    refine ⟨hi', fun e => ?_, fun hl => ?_⟩
    · subst e
      exact ⟨⟨vs, hq, by rw [h2.length]; exact Nat.le_refl _⟩, hs, hg, hF'⟩
    · have hl' : i < vs.length := by rw [h2.length]; exact hl
      refine ⟨⟨vs, vs[i], hq, by simp [hl']⟩, fun y H' hy Q hQ => ?_⟩
      obtain ⟨rfl, hy⟩ := hy
      obtain ⟨d, hd, hr⟩ := h2.getv (hy vs hq)
      refine hQ _ _ ⟨a, vs, rfl, ?_, hg, hF', h1, h2⟩
      rw [← hB i d hd]
      exact hs.set hr k
  · obtain ⟨d, hd⟩ : ∃ d, ds[i]? = some d := ⟨ds[i], by simp [hi']⟩
    refine ⟨fun pins s σ H D I ⟨⟨a, vs, hJ, hB'⟩, q, r⟩ => (hb i d hd _ (hF.and (hL a vs))).run pins s σ H D I ⟨hB', fun σ' H' h' => q _ _ ⟨a, vs, hJ, hi', h'⟩, r⟩⟩
/-- for x in range(n) -/
theorem h1_forR (k n : Nat) {px : Pos} (Γs : Nat → Env') (Gs : Nat → Hp → Prop) (he : Da C X [e] (Γs 0) [.int (n : Int)]) (hn : n ≤ 1000000) (hm : X.mg "range" = none) (hi : X.N[k]? = some x) (hN : X.N.Nodup) (hG : ∀ i, Grow (Gs i))
    (hb : ∀ i, i < n → Hs X body (Sg C X.K ((Γs i).set k (some (.int (i : Nat)))) (Gs i)) (Sg C X.K (Γs (i + 1)) (Gs (i + 1))) R)
    (hp : PassesOwn (model X.prog X.w) X.A X.env X.xe) (hc : X.calm = true) (hg : Gl X "range" := by rfl) (hst : starEach [e] X.env = [(false, eval e X.env)] := by rfl) (hx : Loc X.env.scope x := by first | exact Or.inl rfl | exact Or.inr rfl) (hfn : X.fn x = true ∨ X.env.scope.names.lookup x = some .local := by first | exact .inl rfl | exact .inr rfl | (left; rfl))
    (hf : ∀ y, foldedSetIterable (.Call (.Name "range" p) [e] [] pos') X.env y = pure y := by intro _; rfl) : H1 X (.For (.Name x px) (.Call (.Name "range" p) [e] [] pos') body [] pos) (Sg C X.K (Γs 0) (Gs 0)) (Sg C X.K (Γs n) (Gs n)) R := by
  obtain ⟨t, pa, ev⟩ := he
  refine h1_for (pi_range1 hg hm pa hst) (pg_name hN hi hx hfn) n (fun J i σ H => J = Itr 0 n ∧ i ≤ n ∧ Sg C X.K (Γs i) (Gs i) σ H) (fun J i σ H => J = Itr 0 n ∧ Sg C X.K ((Γs i).set k (some (.int (i : Nat)))) (Gs i) σ H) (fun σ H h Rr q => ?_) (fun J i σ H h => ?_) (fun J i hi' => ?_) hp hc hf
  · refine ev σ H h.1 _ fun vs H1 e1 r1 => ?_
    obtain ⟨v, rfl, r2⟩ := r1.one
    cases r2
    exact ⟨(n : Int), rfl, by omega, by omega, q _ H1 ⟨rfl, Nat.zero_le _, h.1.mono e1, hG 0 _ _ e1 h.2⟩⟩
  · obtain ⟨rfl, hi', hs, hg⟩ := h
    refine ⟨hi', fun e => ?_, fun hl => ?_⟩
    · subst e
      exact ⟨Nat.le_refl _, hs, hg⟩
    · refine ⟨hl, fun y H' hy Q hQ => ?_⟩
      obtain ⟨rfl, hy⟩ := hy
      subst hy
      refine hQ _ _ ⟨rfl, ?_, hg⟩
      rw [Int.zero_add]
      exact hs.set (.int _) k
  · exact ⟨fun pins s σ H D I ⟨⟨hJ, hB'⟩, q, r⟩ => (hb i hi').run pins s σ H D I ⟨hB', fun σ' H' h' => q _ _ ⟨hJ, hi', h'⟩, r⟩⟩
/-- xs.extend(ys), both empty -/
theorem dv_ext0 (ha : Dv C X a Γ (.lst [])) (hb : Dv C X e Γ (.lst [])) (hst : starEach (e :: []) X.env = (false, eval e X.env) :: starEach [] X.env := by rfl) (hbase : attributeBase a "extend" X.env (eval a X.env) = eval a X.env := by rfl) (hline : (apos.endLine == pos.line) = true := by rfl)
    (hfew : ((backTo pos (starEach [e] X.env)).all (fun x => !x.1) && (backToKw pos (keywordEach [] X.env)).all (fun x => x.1.isSome) && decide ([e].length + ([] : List Keyword).length + (if ([] : List Keyword).isEmpty then 0 else 1) < 30)) = true := by rfl)
    (hplain : (backTo pos (starEach [] X.env)).any (·.1) = false := by rfl) : Dv C X (.Call (.Attribute a "extend" apos) [e] [] pos) Γ .non := by
  obtain ⟨ta, pa, ea⟩ := ha
  obtain ⟨tb, pb, eb⟩ := hb
  refine ⟨_, pe_bm PySem.F.plainAttrs_list PySem.F.slot_list_extend PySem.F.type_list_extend mt_extend pa (pa_cons pb pa_nil hst) hbase hfew hline hst hplain, fun σ H hs Q q => ea σ H hs _ fun v H1 e1 r1 => ?_⟩
  cases r1 with
  | @lst l xs _ h1 x1 =>
    cases x1
    refine ⟨.inl ⟨rfl, [], .inl (.inl h1)⟩, eb σ H1 (hs.mono e1) _ fun w H2 e2 r2 => ?_⟩
    cases r2 with
    | @lst b zs _ h2 x2 =>
      cases x2
      have hl := e2 _ _ h1
      refine ⟨l, b, [], [], rfl, rfl, hl, h2, by rw [sizeLine_eq]; decide, ?_⟩
      have e : upd H2 l (.lst ([] ++ [])) = H2 := by
        funext z
        by_cases hz : z = l
        · subst hz; rw [upd_same, hl]; rfl
        · rw [upd_ne hz]
      rw [e]
      exact q _ H2 (e1.trans e2) .non
/-- xs.append(e), xs the empty list at N -/
theorem h1_app {H0 : Hp} {N : Addr} {F : Hp → Prop} (ho : Dv C X o Γ (.adr N)) (hb : Dv C X e Γ d) (hF : Grow F) (hFm : ∀ H H', ExP (· == 0) false H H' → F H → F H') (hf : frE (· == 0) false Γ = true) (hd : fr (· == 0) false d = true)
    (hs : swapsWith (.Call (.Attribute o "append" apos) [e] [] p) none pos.line X.env = pure false := by rfl) (hst : starEach (e :: []) X.env = (false, eval e X.env) :: starEach [] X.env := by rfl) (hbase : attributeBase o "append" X.env (eval o X.env) = eval o X.env := by rfl) (hline : (apos.endLine == p.line) = true := by rfl)
    (hfew : ((backTo p (starEach [e] X.env)).all (fun x => !x.1) && (backToKw p (keywordEach [] X.env)).all (fun x => x.1.isSome) && decide ([e].length + ([] : List Keyword).length + (if ([] : List Keyword).isEmpty then 0 else 1) < 30)) = true := by rfl)
    (hplain : (backTo p (starEach [] X.env)).any (·.1) = false := by rfl) :
    H1 X (.Expr (.Call (.Attribute o "append" apos) [e] [] p) pos) (Sg C X.K Γ fun H => (Ex H0 H ∧ H0 N = none ∧ H N = some (.lst [])) ∧ F H) (Sg C X.K Γ fun H => (Ex H0 H ∧ Rp C X.K H (.ref N) (.lst [d])) ∧ F H) R := by
  obtain ⟨to, po, eo⟩ := ho
  obtain ⟨ti, pi, ei⟩ := hb
  refine h1_of (ps_expr (pe_bm PySem.F.plainAttrs_list PySem.F.slot_list_append PySem.F.type_list_append mt_append po (pa_cons pi pa_nil hst) hbase hfew hline hst hplain) hs) fun σ H D h q _ => ?_
  obtain ⟨hs, ⟨g1, g2, g3⟩, hF'⟩ := h
  refine eo σ H hs _ fun v H1 e1 r1 => ?_
  cases r1.adr_eq
  refine ⟨.inl ⟨rfl, [], .inl (.inl (e1 _ _ g3))⟩, ei σ H1 (hs.mono e1) _ fun w H2 e2 r2 => ?_⟩
  have e := e1.trans e2
  have hl := e _ _ g3
  have e3 : ExP (· == 0) false H2 (upd H2 N (.lst ([] ++ [w]))) := ExP.of_lst hl rfl
  exact ⟨N, [], w, rfl, rfl, hl, by rw [sizeLine_eq]; decide, q _ _ ⟨(hs.mono e).pmono e3 hf, ⟨(g1.trans e).mut g2, .lst upd_same (.cons (r2.pmono e3 hd) .nil)⟩, hFm _ _ e3 (hF _ _ e hF')⟩⟩
end
section
variable {C : Addr} {P : Program} {w : World} {K : PySem.W.Frag} {mg : Str → Option Value} {base : Heap}
theorem Top.okH {x : Str} {st : Stmt} {ps N : List Str} {k : Nat} {R : List Dt → Dt → Prop} (T : Top K mg x st ps) (S : FnScope N ps (defScope st)) (len : ∀ ds d, R ds d → ds.length = ps.length)
    (h : ∀ f cdv A outer s H E, Room k (Xd P w K mg base N x st f cdv A outer s H E).A → ∀ ds d, R ds d → ∀ H0, Hs (Xd P w K mg base N x st f cdv A outer s H E) (defBody st) (Sg C K (env0 N ds) fun H => Ex H0 H) (fun _ _ => False) (fun v H' => Ex H0 H' ∧ Rp C K H' v d)) :
    CalD C P w K mg base (k + 1) x ps R := by
  obtain ⟨f, fd, F, hm, hb⟩ := T.ex
  refine ⟨f, fd, F.ok S (fun vs H Q E h => ?_) (fun cdv A outer s H vs Q E hr h' => ?_), hm, F.kp, hb⟩
  · obtain ⟨ds, d, hR, rp, _⟩ := h
    rw [rp.length, len ds d hR]
  · obtain ⟨ds, d, hR, rp, q⟩ := h'
    refine ⟨_, h f cdv A outer s H E hr ds d hR H, ⟨?_, Ex.refl H⟩, fun _ _ z => z.elim, fun v H' r => q v H' r.1 r.2⟩
    unfold L2.start
    rw [rp.length]
    exact SD.of_args _ rp
end
end K28
set_option Elab.async false
set_option linter.all false
set_option maxRecDepth 100000
set_option maxHeartbeats 0
namespace K28
open PySem PySem.Spec PyProof.Rows L2 Evl
local macro_rules | `(tactic| walk_at "bd") => `(tactic| (refine' cmul ?ha ?hb ?hc; (case ha => repeat' (first | assumption | exact Sm.lit (by decide) | apply Sm.mul | apply Sm.add | apply Sm.sub | apply Sm.neg)); (case hb => repeat' (first | assumption | exact Sm.lit (by decide) | apply Sm.mul | apply Sm.add | apply Sm.sub | apply Sm.neg)); (case hc => decide)))
section
variable {C : Addr} {P : Program} {w : World} {K : PySem.W.Frag} {mg : Str → Option Value} {base : Heap}

/-! ### all fields of one or two circles that do not meet -/
def R_spots_on (ds : List Dt) (d : Dt) : Prop := ∃ (rs : List Rw) (i : Nat) (r : Rw), rs[i]? = some r ∧ rs.length ≤ 2 ∧ (∀ o ∈ rs, BR o) ∧ (∀ (j : Nat) (o : Rw), rs[j]? = some o → j ≠ i → bd r * bd o - jt r o * jt r o < 0) ∧ ds = [.tup (rs.map rD), .int (i : Nat)] ∧ d = .lst []
def accF (ks : Nat → List (List Int)) : Nat → List (List Int)
  | 0 => []
  | i + 1 => (ks i).foldl ins (accF ks i)
theorem fold_length : ∀ (l ks : List (List Int)), (l.foldl ins ks).length ≤ ks.length + l.length
  | [], _ => Nat.le_refl _
  | k :: l, ks => by
    have h1 := fold_length l (ins ks k)
    have h2 := ins_length ks k
    rw [List.length_cons]
    show (l.foldl ins (ins ks k)).length ≤ _
    omega
theorem accF_length {ks : Nat → List (List Int)} {n : Nat} (h : ∀ i, i < n → (ks i).length = 3) : ∀ i, i ≤ n → (accF ks i).length ≤ 3 * i
  | 0, _ => Nat.le_refl _
  | i + 1, hi => by
    have h1 := fold_length (ks i) (accF ks i)
    have h2 := accF_length h i (by omega)
    have h3 := h i (by omega)
    rw [accF]
    omega
def R_all_fields (ds : List Dt) (d : Dt) : Prop := ∃ (rs : List Rw) (st : Nat → List Int) (ks : Nat → List (List Int)), rs ≠ [] ∧ rs.length ≤ 2 ∧ (∀ r ∈ rs, BR r) ∧
  (∀ i, i < rs.length → R_spots_on [.tup (rs.map rD), .int (i : Nat)] (.lst []) ∧ R_signs_along [.lst (rs.map plD), .int (i : Nat)] (iT (st i)) ∧ R_around [iT (st i), .int (i : Nat)] (.lst ((ks i).map .ttup)) ∧ (ks i).length = 3) ∧
  ds = [.tup (rs.map rD)] ∧ d = .dic (accF ks rs.length)
def R_signs_near_far (ds : List Dt) (d : Dt) : Prop := ∃ rs : List Rw, rs.length ≤ 2 ∧ (∀ r ∈ rs, BR r ∧ r.q ≠ 0) ∧ ds = [.tup (rs.map rD)] ∧ d = .lst [iT (rs.map fun r => sg (val r 1 0 0))]
theorem none_of {H H' : Hp} {p : Addr} (e : Ex H H') (h : H' p = none) : H p = none := by
  cases q : H p with
  | none => rfl
  | some o => rw [e _ _ q] at h; cases h
theorem set_self {σ : L2.St} {i : Nat} {o : Option V} (h : σ[i]? = some o) : σ.set i o = σ := by
  apply List.ext_getElem?
  intro j
  rw [List.getElem?_set]
  split
  · rename_i e
    subst e
    rw [h]
    split
    · rfl
    · rename_i hl
      rw [List.getElem?_eq_none (by omega)] at h
      cases h
  · rfl
theorem SD.adr_to {H : Hp} {σ : L2.St} {Γ : Env'} {i : Nat} {N : Addr} {d : Dt} (h : SD C K H σ Γ) (hi : Γ[i]? = some (some (.adr N))) (r : Rp C K H (.ref N) d) : SD C K H σ (Γ.set i (some d)) := by
  obtain ⟨v, h1, h2⟩ := h.get hi
  cases h2.adr_eq
  have q := h.set r i
  rw [set_self h1] at q
  exact q
theorem grow_lst {H0 : Hp} {N : Addr} : Grow fun H => Ex H0 H ∧ H0 N = none ∧ H N = some (.lst []) := fun H H' e h => ⟨h.1.trans e, h.2.1, e _ _ h.2.2⟩
theorem h1_par {X : Cx} {Γ : Env'} {R : V → Hp → Prop} {pos pt pt2 px py pd : Pos} {kt k2} {a : Expr} {x y : Str} {d : Dt} {H0 : Hp} (i j : Nat) (ha : Dv C X a Γ d) (hc : X.calm = true) (hN : X.N.Nodup) (hi : X.N[i]? = some x) (hj : X.N[j]? = some y) (hij : i ≠ j) (hx : X.env.scope.names.lookup x = some .local) (hy : X.env.scope.names.lookup y = some .local)
    (hw : swappedStores [.Tuple [.Name x px, .Name y py] kt pt] (.Tuple [a, .Dict [] [] pd] k2 pt2) X.env = pure (some [x, y])) (h1 : starEach (a :: [.Dict [] [] pd]) X.env = (false, eval a X.env) :: starEach [.Dict [] [] pd] X.env := by rfl)
    (hs : swapsWithSole [.Tuple [.Name x px, .Name y py] kt pt] (.Tuple [a, .Dict [] [] pd] k2 pt2) pos.line X.env = pure false := by rfl) :
    H1 X (.Assign [.Tuple [.Name x px, .Name y py] kt pt] (.Tuple [a, .Dict [] [] pd] k2 pt2) pos) (Sg C X.K Γ fun H => Ex H0 H) (fun σ H => ∃ M, Sg C X.K ((Γ.set i (some d)).set j (some (.adr M))) (DicAt H0 M []) σ H) R := by
  obtain ⟨tl, ptl, el⟩ := ha
  refine h1_of (ps_par (i := i) (j := j) hc hN hi hj hij hx hy (pa_cons ptl (pa_cons pe_dnewT pa_nil) h1) hw hs) fun σ H D h q _ => el σ H h.1 _ fun v H1 e1 r1 => ?_
  intro p hp
  have e2 := Ex.new (o := .dT []) hp
  exact ⟨v, _, rfl, q _ _ ⟨p, ((h.1.mono (e1.trans e2)).set (r1.mono e2) i).set (.adr p) j, (h.2.trans e1).trans e2, none_of (h.2.trans e1) hp, upd_same⟩⟩
theorem h1_ifG {X : Cx} {Γ : Env'} {Φ Ψ : Asn} {R : V → Hp → Prop} {pos : Pos} {c : Expr} {k : Bool} {A B : List Stmt} (hc : Dp' C X c Γ k) (i : ∀ σ H, Φ σ H → SD C X.K H σ Γ) (g : ∀ σ H H', Ex H H' → Φ σ H → Φ σ H') (h1 : k = true → Hs X A Φ Ψ R) (h2 : k = false → Hs X B Φ Ψ R) : H1 X (.If c A B pos) Φ Ψ R := by
  obtain ⟨tc, pc, ec⟩ := hc
  cases k with
  | true => exact h1_of (ps_if pc (h1 rfl) (pss_never (sts := B))) fun σ H D hs q r => ec σ H (i σ H hs) _ fun H1 e1 => iteT ⟨g σ _ _ e1 hs, q, r⟩
  | false => exact h1_of (ps_if pc (pss_never (sts := A)) (h2 rfl)) fun σ H D hs q r => ec σ H (i σ H hs) _ fun H1 e1 => iteF ⟨g σ _ _ e1 hs, q, r⟩

abbrev N_spots_on : List Str := ["rounds", "index", "found", "other", "row", "way", "spot"]
theorem sc_spots_on : FnScope N_spots_on ["rounds", "index"] (defScope s_spots_on) := ⟨rfl, rfl, rfl, by decide +kernel, rfl, by decide +kernel, by decide +kernel⟩
theorem ok_spots_on (M : Md C K mg) (T : Top K mg "spots_on" s_spots_on ["rounds", "index"]) (c_spots_of : CalD C P w K mg base 2 "spots_of" ["row", "other"] R_spots_of) : CalD C P w K mg base 3 "spots_on" ["rounds", "index"] R_spots_on := by
  refine T.ok sc_spots_on (fun ds d h => ?_) fun f cdv A outer s H E hr ds d h => ?_
  · obtain ⟨rs, i, r, _, _, _, _, rfl, rfl⟩ := h
    rfl
  · obtain ⟨rs, i, r, hir, hl, hR, hj, rfl, rfl⟩ := h
    have hix : L2.atI (rs.map rD) (i : Int) = some (rD r) := atI_nat (by rw [List.getElem?_map, hir]; rfl)
    refine ds_set 2 rfl sc_spots_on.nd (dv_lst da_nil) ?_
    refine ds_cons (d1_for (ds := enD 0 (rs.map rD)) (fun j => [some (.tup (rs.map rD)), some (.int (i : Nat)), some (.lst []), none, none, none, none]) (fun j => [some (.tup (rs.map rD)), some (.int (i : Nat)), some (.lst []), some (.int (j : Nat)), (rs[j]?).map rD, none, none]) (wk_enumT (dv_var 0 rfl rfl) M.enumerate) rfl (fun j d hd => ?_) (fun j d hd => ?_) PassesOwn.never rfl) ?_
    · have hlj : j < rs.length := by
        have := (List.getElem?_eq_some_iff.mp hd).1
        rw [enD_length, List.length_map] at this
        exact this
      have hg := enD_get (rs.map rD) 0 j (rD rs[j]) (by simp [hlj])
      rw [Nat.zero_add] at hg
      rw [hg] at hd
      cases hd
      have e : rs[j]? = some rs[j] := by simp [hlj]
      rw [e]
      exact (dg_tup rfl (dgs_cons (dg_name 3 rfl sc_spots_on.nd) (dgs_cons (dg_name 4 rfl sc_spots_on.nd) dgs_nil)))
    · have hlj : j < rs.length := by
        have := (List.getElem?_eq_some_iff.mp hd).1
        rw [enD_length, List.length_map] at this
        exact this
      obtain ⟨o, ho⟩ : ∃ o, rs[j]? = some o := ⟨rs[j], by simp [hlj]⟩
      rw [ho]
      refine Ds.wk (ds_cons (d1_if (o := .nx _) (dp_is (dp_cmp (dv_var 3 rfl rfl) (dv_var 1 rfl rfl) cd_ne (nomark _)) rfl) (fun hk => ?_) fun _ => ds_nil) ds_nil) ⟨rfl, rfl, rfl, True.intro⟩
      have hne : j ≠ i := by
        intro z
        subst z
        simp at hk
      have hsp : R_spots_of [rD r, rD o] (.lst []) := ⟨r, o, hR _ (List.mem_of_getElem? hir), hR _ (List.mem_of_getElem? ho), hj j o ho hne, rfl, rfl⟩
      refine ds_expr (dv_ext0 (dv_var 2 rfl rfl) (dv_lcE (ds := []) 5 6 (fun d => d) (wk_list (dv_call c_spots_of (hr.mono (by decide)) (da_cons (dv_ixT (dv_var 0 rfl rfl) (dv_var 1 rfl rfl) hix) (da_cons (dv_var 4 rfl rfl) da_nil)) hsp)) rfl sc_spots_on.nd rfl rfl (blkOk_by (N := N_spots_on) (sc := defScope s_spots_on) (by decide +kernel)) rfl rfl (by decide) (fun d hd => absurd hd (by simp)) (fun d hd => absurd hd (by simp)) (fun d hd => absurd hd (by simp)))) ds_nil
    · exact ds_ret (dv_var 2 rfl rfl)
abbrev N_all_fields : List Str := ["rounds", "index", "planes", "found", "stretches", "stretch", "other", "spot", "signs", "row"]
theorem sc_all_fields : FnScope N_all_fields ["rounds"] (defScope s_all_fields) := ⟨rfl, rfl, rfl, by decide +kernel, rfl, by decide +kernel, by decide +kernel⟩
theorem pl_planes : ∀ rs : List Rw, pls (rs.map plD) = true
  | [] => by rw [List.map_nil, pls]
  | r :: rs => by rw [List.map_cons, pls, pl_planes rs]; rfl
theorem frs_planes (bl : Nat → Bool) (bk : Bool) : ∀ rs : List Rw, frs bl bk (rs.map plD) = true
  | [] => by rw [List.map_nil, frs]
  | r :: rs => by rw [List.map_cons, frs, frs_planes bl bk rs]; simp [fr, frs]
theorem frs_rounds (bl : Nat → Bool) (bk : Bool) : ∀ rs : List Rw, frs bl bk (rs.map rD) = true
  | [] => by rw [List.map_nil, frs]
  | r :: rs => by rw [List.map_cons, frs, frs_rounds bl bk rs]; simp [fr, frs, rD]
theorem frs_ttups (bl : Nat → Bool) (bk : Bool) : ∀ rs : List (List Int), frs bl bk (rs.map .ttup) = true
  | [] => by rw [List.map_nil, frs]
  | r :: rs => by rw [List.map_cons, frs, frs_ttups bl bk rs]; simp [fr]
theorem frs_ints (bl : Nat → Bool) (bk : Bool) : ∀ ns : List Int, frs bl bk (ns.map .int) = true
  | [] => by rw [List.map_nil, frs]
  | r :: rs => by rw [List.map_cons, frs, frs_ints bl bk rs]; simp [fr]
theorem ok_all_fields (M : Md C K mg) (T : Top K mg "all_fields" s_all_fields ["rounds"]) (c_plane_of : CalD C P w K mg base 1 "plane_of" ["row"] R_plane_of) (c_spots_on : CalD C P w K mg base 3 "spots_on" ["rounds", "index"] R_spots_on) (c_signs_along : CalD C P w K mg base 3 "signs_along" ["planes", "index"] R_signs_along) (c_around : CalD C P w K mg base 2 "around" ["signs", "index"] R_around) : CalD C P w K mg base 4 "all_fields" ["rounds"] R_all_fields := by
  refine T.okH sc_all_fields (fun ds d h => ?_) fun f cdv A outer s H E hr ds d h H0 => ?_
  · obtain ⟨rs, st, ks, _, _, _, _, rfl, rfl⟩ := h
    rfl
  · obtain ⟨rs, st, ks, hne, hl, hR, hi, rfl, rfl⟩ := h
    have hk3 : ∀ i, i < rs.length → (ks i).length = 3 := fun i h => (hi i h).2.2.2
    refine hs_cons (h1_par 2 3 (dv_is (dv_lc1 9 (fun d => match d with | .tup [.int q, .int l, .int m, .int k] => plD ⟨q, l, m, k⟩ | _ => .non) (ds := rs.map rD) (wk_tup (dv_var 0 rfl rfl)) rfl sc_all_fields.nd rfl (blkOk_by (N := N_all_fields) (sc := defScope s_all_fields) (by decide +kernel)) rfl (by rw [List.length_map]; omega) (fun d hd s H c cl fp => ?_) (fun d hd => ?_)) (show _ = Dt.lst (rs.map plD) by rw [List.map_map]; rfl)) rfl sc_all_fields.nd rfl rfl (by decide) rfl rfl rfl) (hs_ex fun M0 => ?_)
    · obtain ⟨x, hx, rfl⟩ := List.mem_map.mp hd
      exact dv_call c_plane_of (hr.mono (by decide)) (da_cons (dv_var 9 rfl rfl) da_nil) ⟨x, rfl, rfl⟩
    · obtain ⟨x, hx, rfl⟩ := List.mem_map.mp hd
      rfl
    have hpl : pl (.lst (rs.map plD)) = true := by rw [pl, pl_planes]
    have hshA : ∀ rs : List Rw, rs.length ≤ 2 → SeqAt.shaped (py (.lst (rs.map plD))) = true := fun rs h => match rs, h with
      | [], _ => rfl
      | [_], _ => rfl
      | [_, _], _ => rfl
    have hsh := hshA rs hl
    have heqA : ∀ rs : List Rw, rs.length ≤ 2 → rs ≠ [] → PyData.eqv (py (.lst (rs.map plD))) (py (.lst [])) = false := fun rs h n => match rs, h, n with
      | [], _, n => absurd rfl n
      | [_], _, _ => rfl
      | [_, _], _, _ => rfl
    have heq := heqA rs hl hne
    refine hs_cons (h1_d (d1_if (o := .nx _) (k := false) (dp_is (dp_cmp (dv_var 2 rfl rfl) (dv_lst da_nil) (cd_eqD (k := false) (room_u64 hr) hpl rfl hsh rfl heq) (nomark _)) rfl) (fun z => nomatch z) fun _ => ds_nil) DicAt.grow) ?_
    refine hs_cons (h1_forR 1 rs.length (fun i => [some (.tup (rs.map rD)), none, some (.lst (rs.map plD)), some (.adr M0), none, none, none, none, none, none]) (fun i => DicAt H0 M0 (accF ks i)) (da_is (da_cons (dv_callB cb_lenL M.len bt_len (da_cons (dv_var 2 rfl rfl) da_nil)) da_nil) (by rw [List.length_map])) (by omega) M.range rfl sc_all_fields.nd (fun i => DicAt.grow) (fun i hin => ?_) PassesOwn.never rfl) ?_
    · obtain ⟨hs1, hs2, hs3, hs4⟩ := hi i hin
      have hac := accF_length hk3 i (by omega)
      refine hs_cons (Ψ' := fun σ H => ∃ N, Sg C K [some (.tup (rs.map rD)), some (.int (i : Nat)), some (.lst (rs.map plD)), some (.adr M0), some (.adr N), none, none, none, none, none] (fun H => (Ex H0 H ∧ H0 N = none ∧ H N = some (.lst [])) ∧ DicAt H0 M0 (accF ks i) H) σ H) ?_ (hs_ex fun N0 => ?_)
      · refine h1_of (ps_set (i := 4) sc_all_fields.nd rfl (Or.inl rfl) (pe_lst pa_nil)) fun σ H D h q _ => ⟨by decide, fun p hp => ?_⟩
        have e2 := Ex.new (o := .lst []) hp
        exact q _ _ ⟨p, (h.1.mono e2).set (.adr p) 4, ⟨h.2.1.trans e2, none_of h.2.1 hp, upd_same⟩, DicAt.grow _ _ e2 h.2⟩
      refine hs_cons (h1_d (d1_for (ds := []) (fun j => [some (.tup (rs.map rD)), some (.int (i : Nat)), some (.lst (rs.map plD)), some (.adr M0), some (.adr N0), none, none, none, none, none]) (fun j => []) (wk_list (dv_call c_spots_on (hr.mono (by decide)) (da_cons (dv_var 0 rfl rfl) (da_cons (dv_var 1 rfl rfl) da_nil)) hs1)) rfl (fun j d hd => by simp at hd) (fun j d hd => by simp at hd) PassesOwn.never rfl) (grow_lst.and DicAt.grow)) ?_
      refine hs_cons (Ψ' := Sg C K [some (.tup (rs.map rD)), some (.int (i : Nat)), some (.lst (rs.map plD)), some (.adr M0), some (.lst [iT (st i)]), none, none, none, none, none] (fun H => DicAt H0 M0 (accF ks i) H ∧ True)) (h1_ifG (Γ := [some (.tup (rs.map rD)), some (.int (i : Nat)), some (.lst (rs.map plD)), some (.adr M0), some (.lst []), none, none, none, none, none]) (k := true) (dp_is (dp_cmp (dv_var 4 rfl rfl) (dv_lst da_nil) (cd_eqD (k := true) (room_u64 hr) rfl rfl rfl rfl rfl) (nomark _)) rfl) (fun σ H h => h.1.adr_to (i := 4) rfl (.lst h.2.1.2.2 .nil)) (fun σ H H' e h => ⟨h.1.mono e, (grow_lst.and DicAt.grow) _ _ e h.2⟩) (fun _ => ?_) (fun z => nomatch z)) ?_
      · have hfr1 : frE (· == 0) false [some (.tup (rs.map rD)), some (.int (i : Nat)), some (.lst (rs.map plD)), some (.adr M0), some (.adr N0), none, none, none, none, none] = true := by
          have hz : ((rs.map plD).length == 0) = false := by
            cases rs with
            | nil => exact absurd rfl hne
            | cons _ _ => rfl
          simp [frE, fr, frs_rounds, frs_planes, hz]
          exact hne
        refine hs_pre (hs_post (hs_cons (h1_app (F := fun H => H0 M0 = none ∧ H M0 = some (.dT ((accF ks i).map fun k => (k.map Sum.inl, V.bl true)))) (dv_var 4 rfl rfl) (dv_call c_signs_along (hr.mono (by decide)) (da_cons (dv_var 2 rfl rfl) (da_cons (dv_var 1 rfl rfl) da_nil)) hs2) (fun H H' e h => ⟨h.1, e _ _ h.2⟩) (fun H H' e h => ⟨h.1, e _ _ h.2 (fun _ z => by cases z) fun _ _ => rfl⟩) hfr1 (by simp [fr, frs_ints])) hs_nil) fun σ H h => ⟨h.1.adr_to (i := 4) rfl h.2.1.2, ⟨h.2.1.1, h.2.2⟩, True.intro⟩) fun σ H h => ⟨h.1, h.2.1, h.2.2.2⟩
      have hfrB : ∀ x y : Option Dt, (∀ d, x = some d → fr (fun _ => false) true d = true) → (∀ d, y = some d → fr (fun _ => false) true d = true) → frE (fun _ => false) true [some (.tup (rs.map rD)), some (.int (i : Nat)), some (.lst (rs.map plD)), some (.adr M0), some (.lst [iT (st i)]), x, none, none, y, none] = true := fun x y hx hy => by
        cases x with
        | none =>
          cases y with
          | none => simp [frE, fr, frs, frs_rounds, frs_planes, frs_ints]
          | some y => simp [frE, fr, frs, frs_rounds, frs_planes, frs_ints, hy y rfl]
        | some x =>
          cases y with
          | none => simp [frE, fr, frs, frs_rounds, frs_planes, frs_ints, hx x rfl]
          | some y => simp [frE, fr, frs, frs_rounds, frs_planes, frs_ints, hx x rfl, hy y rfl]
      refine hs_post (hs_cons (h1_forL 5 (fun _ => True) stb_true (fun j => [some (.tup (rs.map rD)), some (.int (i : Nat)), some (.lst (rs.map plD)), some (.adr M0), some (.lst [iT (st i)]), none, none, none, none, none]) (fun j => [some (.tup (rs.map rD)), some (.int (i : Nat)), some (.lst (rs.map plD)), some (.adr M0), some (.lst [iT (st i)]), some (iT (st i)), none, none, none, none]) (fun j => if j = 0 then DicAt H0 M0 (accF ks i) else DicAt H0 M0 (accF ks (i + 1))) (dv_var 4 rfl rfl) rfl sc_all_fields.nd (by simp [fr, frs, frs_ints]) (fun j => by split <;> exact DicAt.grow) (fun j d hd => ?_) (fun j d hd F hF => ?_) PassesOwn.never rfl) hs_nil) fun σ H h => ⟨h.1.less ⟨rfl, rfl, rfl, True.intro⟩, h.2.1⟩
      · cases j with
        | zero => cases hd; rfl
        | succ j => simp at hd
      · cases j with
        | succ j => simp at hd
        | zero =>
          cases hd
          refine hs_post (hs_cons (h1_forL 8 F hF (fun j => [some (.tup (rs.map rD)), some (.int (i : Nat)), some (.lst (rs.map plD)), some (.adr M0), some (.lst [iT (st i)]), some (iT (st i)), none, none, none, none]) (fun j => [some (.tup (rs.map rD)), some (.int (i : Nat)), some (.lst (rs.map plD)), some (.adr M0), some (.lst [iT (st i)]), some (iT (st i)), none, none, ((ks i)[j]?).map .ttup, none]) (fun j => DicAt H0 M0 (((ks i).take j).foldl ins (accF ks i))) (ds := (ks i).map .ttup) (dv_call c_around (hr.mono (by decide)) (da_cons (dv_var 5 rfl rfl) (da_cons (dv_var 1 rfl rfl) da_nil)) hs3) rfl sc_all_fields.nd (frs_ttups _ _ _) (fun j => DicAt.grow) (fun j d hd => ?_) (fun j d hd F hF => ?_) PassesOwn.never rfl) hs_nil) fun σ H h => ⟨h.1.less ⟨rfl, rfl, rfl, rfl, rfl, True.intro⟩, ?_, h.2.2⟩
          · rw [List.getElem?_map] at hd
            rw [hd]
            rfl
          · rw [List.getElem?_map] at hd
            obtain ⟨k, hk, rfl⟩ := Option.map_eq_some_iff.mp hd
            rw [hk]
            have htk : ((ks i).take (j + 1)).foldl ins (accF ks i) = ins (((ks i).take j).foldl ins (accF ks i)) k := by
              rw [List.take_add_one, hk, List.foldl_append]
              rfl
            have hlen : (((ks i).take j).foldl ins (accF ks i)).length < 1000 := by
              have h1 := fold_length ((ks i).take j) (accF ks i)
              have h2 : ((ks i).take j).length ≤ 3 := by rw [List.length_take, hs4]; omega
              omega
            rw [htk]
            refine hs_post (hs_cons (h1_put (by have := room_u hr; omega) (dv_var 3 rfl rfl) (dv_var 8 rfl rfl) hF (hfrB _ _ (fun d e => by cases e; simp [fr, frs_ints]) (fun d e => by cases e; rfl)) hlen) hs_nil) fun σ H h => ⟨h.1.less ⟨rfl, rfl, rfl, rfl, rfl, rfl, True.intro⟩, h.2⟩
          · have e := h.2.1
            rw [List.length_map, List.take_length] at e
            exact e
    refine hs_retE (pe_var (i := 3) rfl (Or.inl rfl) (by decide) (by decide)) fun σ H h Q q => ?_
    obtain ⟨v, h1, h2⟩ := h.1.get (i := 3) rfl
    cases h2.adr_eq
    exact ⟨_, h1, q _ _ ⟨h.2.1, .dic h.2.2.2⟩⟩
abbrev N_signs_near_far : List Str := ["rounds", "planes", "found", "index", "row", "way"]
theorem sc_signs_near_far : FnScope N_signs_near_far ["rounds"] (defScope s_signs_near_far) := ⟨rfl, rfl, rfl, by decide +kernel, rfl, by decide +kernel, by decide +kernel⟩
theorem ok_signs_near_far (M : Md C K mg) (T : Top K mg "signs_near_far" s_signs_near_far ["rounds"]) (c_plane_of : CalD C P w K mg base 1 "plane_of" ["row"] R_plane_of) (c_signs_at : CalD C P w K mg base 2 "signs_at" ["rounds", "place"] R_signs_at) : CalD C P w K mg base 3 "signs_near_far" ["rounds"] R_signs_near_far := by
  refine T.ok sc_signs_near_far (fun ds d h => ?_) fun f cdv A outer s H E hr ds d h => ?_
  · obtain ⟨rs, _, _, rfl, rfl⟩ := h
    rfl
  · obtain ⟨rs, hl, hR, rfl, rfl⟩ := h
    refine ds_cons (d1_par 1 2 (da_cons (dv_is (dv_lc1 4 (fun d => match d with | .tup [.int q, .int l, .int m, .int k] => plD ⟨q, l, m, k⟩ | _ => .non) (ds := rs.map rD) (wk_tup (dv_var 0 rfl rfl)) rfl sc_signs_near_far.nd rfl (blkOk_by (N := N_signs_near_far) (sc := defScope s_signs_near_far) (by decide +kernel)) rfl (by rw [List.length_map]; omega) (fun d hd s H c cl fp => ?_) (fun d hd => ?_)) (show _ = Dt.lst (rs.map plD) by rw [List.map_map]; rfl)) (da_cons (dv_lst (da_cons (dv_call c_signs_at (hr.mono (by decide)) (da_cons (dv_var 0 rfl rfl) (da_cons (dv_glob M.far rfl) da_nil)) ⟨rs, 1, 0, 0, fun r h => (hR r h).1, by omega, ⟨Sm.mono (a := 10) (Sm.lit (by decide)) (by decide), Sm.mono (a := 10) (Sm.lit (by decide)) (by decide), Sm.mono (a := 10) (Sm.lit (by decide)) (by decide)⟩, rfl, rfl⟩) da_nil)) da_nil)) rfl sc_signs_near_far.nd rfl rfl (by decide) rfl rfl) ?_
    · obtain ⟨x, hx, rfl⟩ := List.mem_map.mp hd
      exact dv_call c_plane_of (hr.mono (by decide)) (da_cons (dv_var 4 rfl rfl) da_nil) ⟨x, rfl, rfl⟩
    · obtain ⟨x, hx, rfl⟩ := List.mem_map.mp hd
      rfl
    refine ds_cons (d1_for (ds := enD 0 (rs.map rD)) (fun j => [some (.tup (rs.map rD)), some (.lst (rs.map plD)), some (.lst [iT (rs.map fun r => sg (val r 1 0 0))]), none, none, none]) (fun j => [some (.tup (rs.map rD)), some (.lst (rs.map plD)), some (.lst [iT (rs.map fun r => sg (val r 1 0 0))]), some (.int (j : Nat)), (rs[j]?).map rD, none]) (wk_enumT (dv_var 0 rfl rfl) M.enumerate) rfl (fun j d hd => ?_) (fun j d hd => ?_) PassesOwn.never rfl) (ds_ret (dv_var 2 rfl rfl))
    all_goals
      have hlj : j < rs.length := by
        have := (List.getElem?_eq_some_iff.mp hd).1
        rw [enD_length, List.length_map] at this
        exact this
    · have hg := enD_get (rs.map rD) 0 j (rD rs[j]) (by simp [hlj])
      rw [Nat.zero_add] at hg
      rw [hg] at hd
      cases hd
      have e : rs[j]? = some rs[j] := by simp [hlj]
      rw [e]
      exact (dg_tup rfl (dgs_cons (dg_name 3 rfl sc_signs_near_far.nd) (dgs_cons (dg_name 4 rfl sc_signs_near_far.nd) dgs_nil)))
    · obtain ⟨o, ho⟩ : ∃ o, rs[j]? = some o := ⟨rs[j], by simp [hlj]⟩
      rw [ho]
      refine Ds.wk (ds_ifF (dp_is (dp_cmp (dv_ixT (dv_var 4 rfl rfl) dv_int rfl) dv_int cd_eq (nomark _)) (decide_eq_false (hR o (List.mem_of_getElem? ho)).2)) ds_nil) ⟨rfl, rfl, rfl, True.intro⟩
end
end K28
set_option Elab.async false
set_option linter.all false
set_option maxRecDepth 100000
set_option maxHeartbeats 0
namespace K28
open PySem PySem.Spec PyProof.Rows L2 Evl

/-! ### new lists: their address is new, too -/
def EvF (C : Addr) (K : PySem.W.Frag) (t : TE) (Γ : Env') (d : Dt) : Prop := ∀ σ H, SD C K H σ Γ → ∀ Q : VK, (∀ a H2, H a = none → Ex H H2 → Rp C K H2 (.ref a) d → Q (.ref a) H2) → t σ H Q
def DvF (C : Addr) (X : Cx) (e : Expr) (Γ : Env') (d : Dt) : Prop := ∃ t, PE X e t ∧ EvF C X.K t Γ d
def DsF (C : Addr) (X : Cx) (sts : List Stmt) (Γ : Env') (d : Dt) : Prop := ∃ t, PSs X sts t ∧ ∀ σ H, SD C X.K H σ Γ → ∀ D : L2.Ends, (∀ a H2, H a = none → Ex H H2 → Rp C X.K H2 (.ref a) d → D.rt (.ref a) H2) → t D σ H
def spF (C : Addr) (K : PySem.W.Frag) (R : List Dt → Dt → Prop) : Sp := fun vs H Q _ => ∃ ds d, R ds d ∧ RpAll C K H vs ds ∧ ∀ a H2, H a = none → Ex H H2 → Rp C K H2 (.ref a) d → Q (.ref a) H2
abbrev CalF (C : Addr) (P : Program) (w : World) (K : PySem.W.Frag) (mg : Str → Option Value) (base : Heap) (k : Nat) (x : Str) (ps : List Str) (R : List Dt → Dt → Prop) : Prop := Cal P w K mg base k x ps (spF C K R)
section
variable {C : Addr} {P : Program} {w : World} {K : PySem.W.Frag} {mg : Str → Option Value} {base : Heap}
theorem Cal.d {k : Nat} {x : Str} {ps : List Str} {R : List Dt → Dt → Prop} (c : CalF C P w K mg base k x ps R) : CalD C P w K mg base k x ps R := by
  obtain ⟨f, fd, F, r⟩ := c.ex
  exact ⟨f, fd, F.imp fun vs H Q E h => let ⟨ds, d, h1, h2, q⟩ := h; ⟨ds, d, h1, h2, fun a H2 _ e r => q _ _ e r⟩, r⟩
theorem Top.okF {x : Str} {st : Stmt} {ps N : List Str} {k : Nat} {R : List Dt → Dt → Prop} (T : Top K mg x st ps) (S : FnScope N ps (defScope st)) (len : ∀ ds d, R ds d → ds.length = ps.length)
    (h : ∀ f cdv A outer s H E, Room k (Xd P w K mg base N x st f cdv A outer s H E).A → ∀ ds d, R ds d → DsF C (Xd P w K mg base N x st f cdv A outer s H E) (defBody st) (env0 N ds) d) :
    CalF C P w K mg base (k + 1) x ps R := by
  obtain ⟨f, fd, F, hm, hb⟩ := T.ex
  refine ⟨f, fd, F.ok S (fun vs H Q E h => ?_) (fun cdv A outer s H vs Q E hr h' => ?_), hm, F.kp, hb⟩
  · obtain ⟨ds, d, hR, rp, _⟩ := h
    rw [rp.length, len ds d hR]
  · obtain ⟨ds, d, hR, rp, q⟩ := h'
    obtain ⟨t, p, e⟩ := h f cdv A outer s H E hr ds d hR
    refine ⟨t, p, e _ H ?_ _ q⟩
    unfold L2.start
    rw [rp.length]
    exact SD.of_args _ rp
end
section
variable {C : Addr} {X : Cx} {Γ : Env'} {a b c e : Expr} {es : List Expr} {pos p : Pos} {d : Dt} {ds : List Dt} {A rest : List Stmt}
theorem dsF_ret (h : DvF C X e Γ d) : DsF C X (.Return (some e) pos :: rest) Γ d := by
  obtain ⟨t, p, ev⟩ := h
  exact ⟨_, pss_cons (ps_ret p) (pss_never (sts := rest)), fun σ H hs D q => ev σ H hs _ q⟩
theorem dsF_ifT (hc : Dp' C X c Γ true) (h : DsF C X A Γ d) : DsF C X (.If c A [] pos :: rest) Γ d := by
  obtain ⟨tc, pc, ec⟩ := hc
  obtain ⟨t, p, ev⟩ := h
  exact ⟨_, pss_cons (ps_if pc p pss_nil) (pss_never (sts := rest)), fun σ H hs D q => ec σ H hs _ fun H1 e1 => iteT (ev σ H1 (hs.mono e1) _ fun a H2 ha e2 r => q a H2 (none_of e1 ha) (e1.trans e2) r)⟩
theorem dsF_ifF (hc : Dp' C X c Γ false) (h : DsF C X rest Γ d) : DsF C X (.If c A [] pos :: rest) Γ d := by
  obtain ⟨tc, pc, ec⟩ := hc
  obtain ⟨t, p, ev⟩ := h
  exact ⟨_, pss_cons (ps_if pc (pss_never (sts := A)) pss_nil) p, fun σ H hs D q => ec σ H hs _ fun H1 e1 => iteF (ev σ H1 (hs.mono e1) _ fun a H2 ha e2 r => q a H2 (none_of e1 ha) (e1.trans e2) r)⟩
theorem dvF_lst (h : Da C X es Γ ds) (hl : ds.length ≤ 1000 := by first | decide | (simp; done) | omega) : DvF C X (.List es pos) Γ (.lst ds) := by
  obtain ⟨ta, pa, ea⟩ := h
  exact ⟨_, pe_lst pa, fun σ H hs Q q => ea σ H hs _ fun vs H1 e1 r => ⟨by rw [r.length]; exact Nat.le_trans hl (by decide), fun p hp => q _ _ (none_of e1 hp) (e1.trans (Ex.new hp)) (.lst upd_same (r.mono (Ex.new hp)))⟩⟩
theorem dvF_call {k : Nat} {x : Str} {ps : List Str} {R : List Dt → Dt → Prop} (c : CalF C X.prog X.w X.K X.mg X.base k x ps R) (hr : Room k X.A) (ha : Da C X (e :: es) Γ ds) (hR : R ds d) (hg : Gl X x := by rfl) (hdb : (x == ("__debug__" : Str)) = false := by decide)
    (he : starEach (e :: es) X.env = (false, eval e X.env) :: starEach es X.env := by rfl) (hpl : (backTo pos (starEach es X.env)).any (·.1) = false := by rfl) : DvF C X (.Call (.Name x p) (e :: es) [] pos) Γ d := by
  obtain ⟨f, fd, F, hm, hk, hb⟩ := c.ex
  obtain ⟨ta, pa, ea⟩ := ha
  exact ⟨_, pe_call F hr hg hm hk hb .nil pass0 pa hdb he hpl, fun σ H hs Q q => ea σ H hs _ fun vs H1 e1 r1 => ⟨ds, d, hR, by rw [List.append_nil]; exact r1, fun a H2 ha e2 r2 => q a H2 (none_of e1 ha) (e1.trans e2) r2⟩⟩
/-- [y for x in iter for y in iter1]: iter1 a new list each time -/
theorem dvF_lc2 {iter iter1 : Expr} {x y : Str} {px py py2 : Pos} {scope : Scope} (i j : Nat) (G : Dt → List Dt) (hw : Walks' C X (.Name x px) iter Γ ds) (hc : X.calm = true) (hN : X.N.Nodup) (hi : X.N[i]? = some x) (hj : X.N[j]? = some y) (hij : i ≠ j) (hjl : j < Γ.length)
    (ok : BlkOk X.N X.env.scope scope [(x, i), (y, j)]) (hx : (relabel scope X.env).names.lookup x = some .local) (hy : (relabel scope X.env).names.lookup y = some .local) (hlen : (ds.flatMap G).length ≤ 100000)
    (he : ∀ d ∈ ds, ∀ s H c cl fp, DvF C (blkX X scope s H c cl fp) iter1 ((wipeD Γ [i, j]).set i (some d)) (.lst (G d))) (hlf : ∀ d ∈ ds, lfs (G d) = true)
    (hs : ∀ x, foldedSetIterable iter X.env x = pure x := by intro _; rfl) (hs1 : ∀ env x, foldedSetIterable iter1 env x = pure x := by intro _ _; rfl)
    (h1 : (x == ("__debug__" : Str)) = false := by decide) (h2 : (y == ("__debug__" : Str)) = false := by decide) (h3 : (y == ("__classdict__" : Str)) = false := by decide) :
    DvF C X (.ListComp (.Name y py2) [⟨.Name x px, iter, [], 0⟩, ⟨.Name y py, iter1, [], 0⟩] scope pos) Γ (.lst (ds.flatMap G)) := by
  obtain ⟨wi, pw, ew⟩ := hw
  let te1 : TE := fun σ H Q => ∃ d ∈ ds, SD C X.K H σ ((wipeD Γ [i, j]).set i (some d)) ∧ ∀ a H2, H a = none → Ex H H2 → Rp C X.K H2 (.ref a) (.lst (G d)) → Q (.ref a) H2
  have pe1 : ∀ (s : Shared) (H : Hp) (c : Addr) (cl : List (Str × Addr)) (fp : List Addr), PE (X.blk s H scope (compEnvC scope cl c X.env) fp) iter1 te1 := fun s H c cl fp => ⟨fun pins s' σ H' Q I ⟨d, hd, hs', q⟩ => by
    obtain ⟨t, p, ev⟩ := he d hd s H c cl fp
    exact p.run pins s' σ H' Q I (ev σ H' hs' Q q)⟩
  refine ⟨_, pe_lc2 (own := [(x, i), (y, j)]) (vs1 := [j]) hc hN pw ok (by simp) (fun s H c cl fp => pg_name (X := X.blk s H scope (compEnvC scope cl c X.env) fp) (i := i) hN hi (Or.inl hx) (Or.inr hx)) (fun s H c cl fp => pts_nil) (wi1 := iList X.K te1) (fun s H c cl fp => pi_list (X := X.blk s H scope (compEnvC scope cl c X.env) fp) (pe1 s H c cl fp))
    (fun s H c cl fp => pg_name (X := X.blk s H scope (compEnvC scope cl c X.env) fp) (i := j) hN hj (Or.inl hy) (Or.inr hy)) (fun s H c cl fp => pts_nil) (fun s H c cl fp => pe_var (X := X.blk s H scope (compEnvC scope cl c X.env) fp) (i := j) hj (Or.inl hy) h2 h3) hs hs1, fun σ H hσ Q q => ew σ H hσ _ fun J H1 e1 hJ D hD => ?_⟩
  have hs1' := hσ.mono e1
  refine ⟨fun n m H' => m = ds.length - n ∧ n ≤ ds.length ∧ Ex H1 H' ∧ ∃ acc, H' D = some (.lst acc) ∧ RpAll C X.K H' acc ((ds.take n).flatMap G), ⟨ds.length, by simp, Nat.zero_le _, Ex.new hD, [], upd_same, .nil⟩, ?_⟩
  rintro n m H' ⟨rfl, hn, e2, acc, ha, ra⟩
  obtain ⟨j1, j2, j3⟩ := hJ H' e2 n
  by_cases hl : n < ds.length
  · refine .inr ⟨j1 hl, fun H2 => Ex H1 H2 ∧ ∃ acc, H2 D = some (.lst acc) ∧ RpAll C X.K H2 acc ((ds.take (n + 1)).flatMap G), fun H2 ⟨h1, h2⟩ => ⟨ds.length - (n + 1), by omega, rfl, hl, h1, h2⟩, fun v H2 hy => ?_⟩
    obtain ⟨e3, d, hd, rd⟩ := j3 v H2 hl hy
    have hm : d ∈ ds := List.mem_of_getElem? hd
    have tk : ds.take (n + 1) = ds.take n ++ [d] := by rw [List.take_add_one, hd]; rfl
    have hsz : ∀ q : Nat, ((ds.take n).flatMap G).length + ((G d).take q).length ≤ 100000 := fun q => by
      have e := List.take_append_drop (n + 1) ds
      have h5 : (ds.flatMap G).length = ((ds.take (n + 1)).flatMap G).length + ((ds.drop (n + 1)).flatMap G).length := by
        rw [← List.length_append, ← List.flatMap_append, e]
      rw [tk, List.flatMap_append, List.length_append] at h5
      have h6 : ([d].flatMap G).length = (G d).length := by simp
      have h7 : ((G d).take q).length ≤ (G d).length := by rw [List.length_take]; omega
      omega
    have lfa : lfs ((ds.take n).flatMap G) = true := by
      have aux : ∀ l : List Dt, (∀ z ∈ l, z ∈ ds) → lfs (l.flatMap G) = true := by
        intro l
        induction l with
        | nil => intro _; rw [List.flatMap_nil, lfs]
        | cons z l ih =>
          intro hz
          rw [List.flatMap_cons]
          exact lfs_append (hlf z (hz z (List.mem_cons_self ..))) (ih fun u hu => hz u (List.mem_cons_of_mem _ hu))
      exact aux _ fun z hz => List.mem_of_mem_take hz
    refine ⟨?_, ?_⟩
    · apply List.ext_getElem?
      intro k
      simp only [List.map_cons, List.map_nil, L2.wipe, List.getElem?_set, List.length_set]
      split <;> split <;> simp_all
    simp only [tYes, ↓reduceIte]
    refine ⟨d, hm, ((hs1'.wipe [i, j]).mono (e2.trans e3)).set rd i, fun L H3 hL e4 r4 => ?_⟩
    cases r4 with
    | @lst _ us _ hu ru =>
      have hLD : L ≠ D := fun z => by
        subst z
        rw [e3 _ _ ha] at hL
        cases hL
      have hLH1 : H1 L = none := none_of (e2.trans e3) hL
      refine ⟨L, rfl, ⟨us, .inl (.inl hu)⟩, fun k m H4 => m = (G d).length - k ∧ k ≤ (G d).length ∧ Ex H1 H4 ∧ (H4 L = some (.lst us) ∧ RpAll C X.K H4 us (G d)) ∧ ∃ acc, H4 D = some (.lst acc) ∧ RpAll C X.K H4 acc ((ds.take n).flatMap G ++ (G d).take k),
        ⟨(G d).length, by simp, Nat.zero_le _, (e2.trans e3).trans e4, ⟨hu, ru⟩, acc, (e3.trans e4) _ _ ha, by simpa using ra.mono (e3.trans e4)⟩, ?_⟩
      rintro k m' H4 ⟨rfl, hk, e5, ⟨hu4, ru4⟩, acc4, ha4, ra4⟩
      have hq : SqL X.K H4 L us := .inl (.inl hu4)
      by_cases hkl : k < (G d).length
      · have hkl' : k < us.length := by rw [ru4.length]; exact hkl
        refine .inr ⟨⟨us, us[k], hq, by simp [hkl']⟩, fun H5 => Ex H1 H5 ∧ (H5 L = some (.lst us) ∧ RpAll C X.K H5 us (G d)) ∧ ∃ acc, H5 D = some (.lst acc) ∧ RpAll C X.K H5 acc ((ds.take n).flatMap G ++ (G d).take (k + 1)), fun H5 h => ⟨(G d).length - (k + 1), by omega, rfl, hkl, h⟩, fun w H5 hw => ?_⟩
        obtain ⟨rfl, hw⟩ := hw
        obtain ⟨dk, hdk, rk⟩ := ru4.getv (hw us hq)
        have gk : (G d).take (k + 1) = (G d).take k ++ [dk] := by rw [List.take_add_one, hdk]; rfl
        refine ⟨?_, ?_⟩
        · apply List.ext_getElem?
          intro z
          simp only [L2.wipe, List.getElem?_set, List.length_set]
          split <;> simp_all
        try simp only [↓reduceIte]
        refine ⟨w, ?_, acc4, ha4, ?_, ?_, ⟨by rw [upd_ne hLD]; exact hu4, ru4.lmono (ExL.of_upd ha4) (hlf d hm)⟩, acc4 ++ [w], upd_same, ?_⟩
        · have hlj : j < σ.length := by rw [hσ.length]; exact hjl
          simp [L2.wipe, List.getElem?_set, hlj]
        · rw [ra4.length, List.length_append, sizeLine_eq]
          have := hsz k
          omega
        · exact e5.mut hD
        · rw [gk, ← List.append_assoc]
          have hlf2 : lfs ((ds.take n).flatMap G ++ (G d).take k) = true := by
            have aux : ∀ (l : List Dt) (q : Nat), lfs l = true → lfs (l.take q) = true := by
              intro l
              induction l with
              | nil => intro q _; rw [List.take_nil, lfs]
              | cons z l ih =>
                intro q hz
                rw [lfs, Bool.and_eq_true] at hz
                cases q with
                | zero => rw [List.take_zero, lfs]
                | succ q => rw [List.take_succ_cons, lfs, hz.1, ih q hz.2]; rfl
            exact lfs_append lfa (aux _ k (hlf d hm))
          have hlk : lf dk = true := by
            have aux : ∀ (l : List Dt) (q : Nat) (z : Dt), lfs l = true → l[q]? = some z → lf z = true := by
              intro l
              induction l with
              | nil => intro q z _ h; simp at h
              | cons u l ih =>
                intro q z hz h
                rw [lfs, Bool.and_eq_true] at hz
                cases q with
                | zero => simp at h; subst h; exact hz.1
                | succ q => exact ih q z hz.2 (by simpa using h)
            exact aux _ k dk (hlf d hm) hdk
          exact (ra4.lmono (ExL.of_upd ha4) hlf2).append (.cons (rk.lmono (ExL.of_upd ha4) hlk) .nil)
      · have ek : k = (G d).length := by omega
        subst ek
        refine .inl ⟨⟨us, hq, by rw [ru4.length]; exact Nat.le_refl _⟩, e5, acc4, ha4, ?_⟩
        rw [tk, List.flatMap_append]
        rw [List.take_length] at ra4
        simpa using ra4
  · have e : n = ds.length := by omega
    subst e
    refine .inl ⟨j2 (Nat.le_refl _), q _ H' (none_of e1 hD) (e1.trans e2) (.lst ha ?_)⟩
    rw [List.take_length] at ra
    exact ra
end
end K28
set_option Elab.async false
set_option linter.all false
set_option maxRecDepth 100000
set_option maxHeartbeats 0
namespace K28
open PySem PySem.Spec PyProof.Rows L2 Evl
local macro_rules | `(tactic| walk_at "bd") => `(tactic| (refine' cmul ?ha ?hb ?hc; (case ha => repeat' (first | assumption | exact Sm.lit (by decide) | apply Sm.mul | apply Sm.add | apply Sm.sub | apply Sm.neg)); (case hb => repeat' (first | assumption | exact Sm.lit (by decide) | apply Sm.mul | apply Sm.add | apply Sm.sub | apply Sm.neg)); (case hc => decide)))
section
variable {C : Addr} {P : Program} {w : World} {K : PySem.W.Frag} {mg : Str → Option Value} {base : Heap}

/-! ### trees -/
inductive Tr where
  | all | side (r : Rw) | rim (r : Rw) | no (t : Tr) | and2 (a b : Tr) | or2 (a b : Tr)
def Tr.D : Tr → Dt
  | .all => .tup [.str "all"]
  | .side r => .tup [.str "side", rD r]
  | .rim r => .tup [.str "rim", rD r]
  | .no t => .tup [.str "not", t.D]
  | .and2 a b => .tup [.str "and", .tup [a.D, b.D]]
  | .or2 a b => .tup [.str "or", .tup [a.D, b.D]]
def Tr.dp : Tr → Nat
  | .no t => t.dp + 1
  | .and2 a b => max a.dp b.dp + 1
  | .or2 a b => max a.dp b.dp + 1
  | _ => 1
def Tr.rows : Tr → List Rw
  | .all => []
  | .side r => [r]
  | .rim r => [r]
  | .no t => t.rows
  | .and2 a b => a.rows ++ b.rows
  | .or2 a b => a.rows ++ b.rows
def Tr.hv (f : Rw → Int) : Tr → Bool
  | .all => true
  | .side r => if 0 < r.q then decide (0 ≤ f r) else decide (f r ≤ 0)
  | .rim r => decide (f r = 0)
  | .no t => !t.hv f
  | .and2 a b => a.hv f && b.hv f
  | .or2 a b => a.hv f || b.hv f
def Tr.kids : Tr → List Tr
  | .no t => [t]
  | .and2 a b => [a, b]
  | .or2 a b => [a, b]
  | _ => []
/-- what a datum is as a tree -/
def trOf : Nat → Dt → Tr
  | 0, _ => .all
  | n + 1, .tup [.str x, d] => if x = "not" then .no (trOf n d) else match d with
    | .tup [a, b] => if x = "and" then .and2 (trOf n a) (trOf n b) else .or2 (trOf n a) (trOf n b)
    | .tup [.int q, .int l, .int m, .int k] => if x = "side" then .side ⟨q, l, m, k⟩ else .rim ⟨q, l, m, k⟩
    | _ => .all
  | _, _ => .all
theorem trOf_D : ∀ (t : Tr) (n : Nat), t.dp ≤ n → trOf n t.D = t
  | .all, 0, h => absurd h (by decide)
  | .all, n + 1, _ => rfl
  | .side r, 0, h => absurd h (by simp [Tr.dp])
  | .side r, n + 1, _ => rfl
  | .rim r, 0, h => absurd h (by simp [Tr.dp])
  | .rim r, n + 1, _ => rfl
  | .no t, 0, h => absurd h (by simp [Tr.dp])
  | .no t, n + 1, h => by
    show Tr.no (trOf n t.D) = _
    rw [trOf_D t n (by simpa [Tr.dp] using h)]
  | .and2 a b, 0, h => absurd h (by simp [Tr.dp])
  | .and2 a b, n + 1, h => by
    have h' : a.dp ≤ n ∧ b.dp ≤ n := by simp only [Tr.dp] at h; omega
    show Tr.and2 (trOf n a.D) (trOf n b.D) = _
    rw [trOf_D a n h'.1, trOf_D b n h'.2]
  | .or2 a b, 0, h => absurd h (by simp [Tr.dp])
  | .or2 a b, n + 1, h => by
    have h' : a.dp ≤ n ∧ b.dp ≤ n := by simp only [Tr.dp] at h; omega
    show Tr.or2 (trOf n a.D) (trOf n b.D) = _
    rw [trOf_D a n h'.1, trOf_D b n h'.2]
theorem Tr.pos : ∀ t : Tr, 1 ≤ t.dp
  | .all | .side _ | .rim _ => Nat.le_refl _
  | .no _ | .and2 _ _ | .or2 _ _ => Nat.le_add_left ..
theorem Tr.plD : ∀ t : Tr, pl t.D = true
  | .all | .side _ | .rim _ => rfl
  | .no t => by simp [Tr.D, pl, pls, Tr.plD t]
  | .and2 a b => by simp [Tr.D, pl, pls, Tr.plD a, Tr.plD b]
  | .or2 a b => by simp [Tr.D, pl, pls, Tr.plD a, Tr.plD b]
theorem Tr.lfD : ∀ t : Tr, lf t.D = true
  | .all | .side _ | .rim _ => rfl
  | .no t => by simp [Tr.D, lf, lfs, Tr.lfD t]
  | .and2 a b => by simp [Tr.D, lf, lfs, Tr.lfD a, Tr.lfD b]
  | .or2 a b => by simp [Tr.D, lf, lfs, Tr.lfD a, Tr.lfD b]
theorem Tr.layD : ∀ t : Tr, (py t.D).canLay0 = true
  | .all => by decide +kernel
  | .side r => by
    simp [Tr.D, py, pys, PyData.canLay0, PyData.canLayAll0]
    decide +kernel
  | .rim r => by
    simp [Tr.D, py, pys, PyData.canLay0, PyData.canLayAll0]
    decide +kernel
  | .no t => by
    have h := Tr.layD t
    simp [Tr.D, py, pys, PyData.canLay0, PyData.canLayAll0, h]
    decide +kernel
  | .and2 a b => by
    have h := Tr.layD a
    have h' := Tr.layD b
    simp [Tr.D, py, pys, PyData.canLay0, PyData.canLayAll0, h, h']
    decide +kernel
  | .or2 a b => by
    have h := Tr.layD a
    have h' := Tr.layD b
    simp [Tr.D, py, pys, PyData.canLay0, PyData.canLayAll0, h, h']
    decide +kernel
theorem Tr.deepD : ∀ t : Tr, (py t.D).depth ≤ 2 * t.dp + 2
  | .all | .side _ | .rim _ => by simp [Tr.D, Tr.dp, py, pys, PyData.depth, PyData.depthAll]
  | .no t => by
    have h := Tr.deepD t
    simp only [Tr.D, Tr.dp, py, pys, PyData.depth, PyData.depthAll]
    omega
  | .and2 a b => by
    have h := Tr.deepD a
    have h' := Tr.deepD b
    simp only [Tr.D, Tr.dp, py, pys, PyData.depth, PyData.depthAll]
    omega
  | .or2 a b => by
    have h := Tr.deepD a
    have h' := Tr.deepD b
    simp only [Tr.D, Tr.dp, py, pys, PyData.depth, PyData.depthAll]
    omega
theorem Tr.shD {t : Tr} (h : t.dp ≤ 20) : SeqAt.shaped (py t.D) = true := by
  have h1 := Tr.layD t
  have h2 := Tr.deepD t
  unfold SeqAt.shaped
  rw [h1, Bool.true_and, decide_eq_true_eq]
  omega
theorem Tr.ne0 : ∀ t : Tr, PyData.eqv (py t.D) (py (.tup [])) = false
  | .all | .side _ | .rim _ => rfl
  | .no t => rfl
  | .and2 a b => rfl
  | .or2 a b => rfl
/-- the circle of a row -/
def upR (r : Rw) : Rw := if 0 < r.q then r else ⟨-r.q, -r.l, -r.m, -r.k⟩
theorem upT_D (r : Rw) : iT (upT r) = rD (upR r) := by
  unfold upT up upR Rw.t
  show iT (if 0 < r.q then _ else _) = _
  split <;> rfl
def R_is_tree (j : Nat) (ds : List Dt) (d : Dt) : Prop := ∃ (t : Tr) (n : Nat), t.dp ≤ n ∧ n ≤ j ∧ j ≤ 20 ∧ (∀ r ∈ t.rows, Ro r) ∧ ds = [t.D, .int (n : Nat)] ∧ d = .bl true
def R_trees_in (ds : List Dt) (d : Dt) : Prop := ∃ t : Tr, ds = [t.D] ∧ d = .lst (t.kids.map Tr.D)
def R_leaf_rows (j : Nat) (ds : List Dt) (d : Dt) : Prop := ∃ t : Tr, t.dp ≤ j ∧ t.rows.length ≤ 100000 ∧ ds = [t.D] ∧ d = .lst (t.rows.map rD)
/-- f tells the sign of each row's circle among the rounds -/
structure Lk (rs : List Rw) (ss : List Int) (f : Rw → Int) (r : Rw) : Prop where
  rg : Rg r
  at_ : ∃ i : Nat, rs[i]? = some (upR r) ∧ (∀ m : Nat, m < i → rs[m]? ≠ some (upR r)) ∧ ss[i]? = some (f r)
def R_leaf_holds (ds : List Dt) (d : Dt) : Prop := ∃ (r : Rw) (rs : List Rw) (ss : List Int) (f : Rw → Int), Lk rs ss f r ∧ rs.length ≤ 8 ∧ ((ds = [(Tr.side r).D, .tun (rs.map rD), iT ss] ∧ d = .bl ((Tr.side r).hv f)) ∨ (ds = [(Tr.rim r).D, .tun (rs.map rD), iT ss] ∧ d = .bl ((Tr.rim r).hv f)))
def R_tree_holds (j : Nat) (ds : List Dt) (d : Dt) : Prop := ∃ (t : Tr) (rs : List Rw) (ss : List Int) (f : Rw → Int), t.dp ≤ j ∧ (∀ r ∈ t.rows, Lk rs ss f r) ∧ rs.length ≤ 8 ∧ ds = [t.D, .tun (rs.map rD), iT ss] ∧ d = .bl (t.hv f)
theorem eqvR (a b : Rw) : PyData.eqv (py (rD a)) (py (rD b)) = decide (a.t = b.t) := by
  simp [py, pys, PyData.eqv, PyData.eqvAll, Rw.t, Lean.Grind.beq_eq_decide_eq]
theorem Rw.t_inj {a b : Rw} (h : a.t = b.t) : a = b := by
  cases a; cases b
  simpa [Rw.t] using h
/-- where a row stands among rounds -/
theorem shR (rs : List Rw) : SeqAt.shaped (.tuple (pys (rs.map rD))) = true := by
  have h1 : ∀ rs : List Rw, PyData.canLayAll0 (pys (rs.map rD)) = true ∧ PyData.depthAll (pys (rs.map rD)) ≤ 3 := by
    intro rs
    induction rs with
    | nil => exact ⟨rfl, by simp [pys, PyData.depthAll]⟩
    | cons r rs ih =>
      obtain ⟨a, b⟩ := ih
      refine ⟨?_, ?_⟩
      · simp [pys, py, PyData.canLayAll0, PyData.canLay0, a]
      · simp only [List.map_cons, pys, py, PyData.depthAll, PyData.depth]
        omega
  obtain ⟨a, b⟩ := h1 rs
  unfold SeqAt.shaped
  rw [show (PyData.tuple (pys (rs.map rD))).canLay0 = true from by rw [PyData.canLay0]; exact a, Bool.true_and]
  refine decide_eq_true ?_
  rw [PyData.depth]
  omega
theorem pys_get : ∀ (ds : List Dt) (i : Nat), (pys ds)[i]? = (ds[i]?).map py
  | [], i => by simp [pys]
  | d :: ds, 0 => by simp [pys]
  | d :: ds, i + 1 => by
    rw [pys]
    simpa using pys_get ds i
theorem pls_rows : ∀ rs : List Rw, pls (rs.map rD) = true
  | [] => by rw [List.map_nil, pls]
  | r :: rs => by rw [List.map_cons, pls, pls_rows rs]; rfl
theorem dv_tindex {X : Cx} {Γ : Env'} {a e : Expr} {apos cpos : Pos} {rs : List Rw} {c : Rw} (ha : Dv C X a Γ (.tun (rs.map rD))) (he : Dv C X e Γ (rD c)) (i : Nat) (hi : rs[i]? = some c) (hno : ∀ m, m < i → rs[m]? ≠ some c) (hu : X.A.units + 65 < cLine)
    (hs : starEach (e :: []) X.env = (false, eval e X.env) :: starEach [] X.env := by rfl) (hbase : attributeBase a "index" X.env (eval a X.env) = eval a X.env := by rfl) (hline : (apos.endLine == cpos.line) = true := by rfl)
    (hfew : ((backTo cpos (starEach [e] X.env)).all (fun x => !x.1) && (backToKw cpos (keywordEach [] X.env)).all (fun x => x.1.isSome) && decide ([e].length + ([] : List Keyword).length + (if ([] : List Keyword).isEmpty then 0 else 1) < 30)) = true := by rfl)
    (hplain : (backTo cpos (starEach [] X.env)).any (·.1) = false := by rfl) : Dv C X (.Call (.Attribute a "index" apos) [e] [] cpos) Γ (.int (i : Nat)) := by
  obtain ⟨ta, pa, ea⟩ := ha
  obtain ⟨tb, pb, eb⟩ := he
  have hst := pa_cons pb pa_nil hs
  refine ⟨fun σ H Q => ta σ H fun x H1 => ∃ (p : Addr) (o : Obj) (ys : List V), x = V.ref p ∧ H1 p = some (.frz o (.tup ys)) ∧ o.dict = none ∧ RpAll C X.K H1 ys (rs.map rD) ∧ tb σ H1 fun y H2 => ∃ z, [y] = [z] ∧ Ex H1 H2 ∧ Rp C X.K H2 z (rD c) ∧ Q (.int (i : Nat)) H2, ⟨fun pins s σ H Q I h => ?_⟩, fun σ H hs' Q q => ea σ H hs' _ fun v H1 e1 r1 => ?_⟩
  · refine wpAny_Call_method_late hbase hfew hline rfl (thn (pa.run pins s σ H _ I h) fun v s1 ⟨x, H1, I1, r1, p, o, ys, ex, hp, hn, ry, q1⟩ => ?_)
    subst ex
    cases r1
    obtain ⟨ho, hz, its, rv, o', ho', hc', n, hd'⟩ := I1.hok p _ hp
    rw [ho] at ho'
    cases ho'
    refine ⟨"tuple", "tuple.index", PySem.F.plainAttrs_tuple, PySem.F.slot_tuple_index, PySem.F.type_tuple_index, ⟨o, ho, hc'⟩, fun b hb => by cases hb; exact ⟨o, ho, hn⟩, ?_⟩
    have hA := hst.run cpos pins s1 σ H1 (fun vs H2 => ∃ z, vs = [z] ∧ Ex H1 H2 ∧ Rp C X.K H2 z (rD c) ∧ Q (.int (i : Nat)) H2) I1 q1
    rw [hs] at hA ⊢
    refine Calls.callWith_builtin (show (false || (backTo cpos (starEach [] X.env)).any (·.1)) = false by rw [Bool.false_or]; exact hplain) (Calls.evalArgs_plain ?_)
    refine thn hA fun us s2 ⟨vs, H2, I2, r2, z, ez, e2, rz, q2⟩ => ?_
    subst ez
    refine mt_tindexD hu pins s2 σ H2 (.ref p) [z] _ us Q I2 rfl r2 ⟨p, z, py (rD c), pys (rs.map rD), i, py (rD c), rfl, rfl, .tup (.inl (.inr ⟨o, e2 _ _ hp⟩)) ((ry.mono e2).dp (pls_rows rs)), rz.dp rfl, shR rs, ?_, ?_, ?_, ?_, q2⟩
    · have h1 : ∀ c : Rw, SeqAt.shaped (py (rD c)) = true := fun c => by
        simp [py, pys, SeqAt.shaped, PyData.canLay0, PyData.canLayAll0, PyData.depth, PyData.depthAll]
      exact h1 c
    · rw [pys_get, List.getElem?_map, hi]
      rfl
    · rw [eqvR]
      exact decide_eq_true rfl
    · intro m z' hm hz'
      rw [pys_get, List.getElem?_map] at hz'
      cases e : rs[m]? with
      | none => rw [e] at hz'; cases hz'
      | some r =>
        rw [e] at hz'
        cases hz'
        rw [eqvR]
        refine decide_eq_false fun h => hno m hm ?_
        rw [e, Rw.t_inj h]
  · cases r1 with
    | tun h n r => exact ⟨_, _, _, rfl, h, n, r, eb σ H1 (hs'.mono e1) _ fun y H2 e2 r2 => ⟨y, rfl, e2, r2, q _ H2 (e1.trans e2) (.int _)⟩⟩

abbrev N_is_tree : List Str := ["value", "deep", "tree"]
theorem sc_is_tree : FnScope N_is_tree ["value", "deep"] (defScope s_is_tree) := ⟨rfl, rfl, rfl, by decide +kernel, rfl, by decide +kernel, by decide +kernel⟩
theorem ok_is_tree (M : Md C K mg) (T : Top K mg "is_tree" s_is_tree ["value", "deep"]) (c_is_row : CalD C P w K mg base 3 "is_row" ["value"] R_is_row) : ∀ j : Nat, CalD C P w K mg base (4 + j) "is_tree" ["value", "deep"] (R_is_tree j) := by
  intro j
  induction j with
  | zero =>
    refine T.ok (k := 3) sc_is_tree (fun ds d h => ?_) fun f cdv A outer s H E hr ds d h => ?_
    all_goals
      obtain ⟨t, n, h1, h2, _⟩ := h
      have := Tr.pos t
      omega
  | succ j c_is_tree =>
    refine T.ok (k := 4 + j) sc_is_tree (fun ds d h => ?_) fun f cdv A outer s H E hr ds d h => ?_
    · obtain ⟨t, n, h1, h2, h3, h4, rfl, rfl⟩ := h
      rfl
    · obtain ⟨t, n, h1, h2, h3, h4, rfl, rfl⟩ := h
      cases t with
      | all =>
        refine ds_ifF (dp_is (dp_w (dw_or (dp_cmp (dv_var 1 rfl rfl) dv_int cd_eq (nomark _)) fun _ => (dw_or (dp_not (dp_val (dv_callB (cb_isi rfl M.ktt) M.isinstance bt_isinstance (da_cons (dv_var 0 rfl rfl) (da_cons (dv_ty M.tuple bt_tuple) da_nil))))) fun _ => (dw_or (dp_cmp (dv_var 0 rfl rfl) (dv_tup da_nil) (cd_eqD (room_u64 hr) (Tr.plD _) rfl (Tr.shD (by omega)) rfl (Tr.ne0 _)) (nomark _)) fun _ => (dw_or1 (dp_not (dp_val (dv_callB (cb_isi rfl M.kss) M.isinstance bt_isinstance (da_cons (dv_ixT (dv_var 0 rfl rfl) dv_int rfl) (da_cons (dv_ty M.str bt_str) da_nil)))))))))) (by rw [decide_eq_false (by have := Tr.pos (.all); omega)]; rfl)) ?_
        exact ds_ifT (dp_is (dp_cmp (dv_ixT (dv_var 0 rfl rfl) dv_int rfl) dv_str cd_eqS (nomark _)) rfl) (ds_ret (dv_cmp (dv_callB cb_lenT M.len bt_len (da_cons (dv_var 0 rfl rfl) da_nil)) dv_int cd_eq (nomark _)))
      | side r =>
        refine ds_ifF (dp_is (dp_w (dw_or (dp_cmp (dv_var 1 rfl rfl) dv_int cd_eq (nomark _)) fun _ => (dw_or (dp_not (dp_val (dv_callB (cb_isi rfl M.ktt) M.isinstance bt_isinstance (da_cons (dv_var 0 rfl rfl) (da_cons (dv_ty M.tuple bt_tuple) da_nil))))) fun _ => (dw_or (dp_cmp (dv_var 0 rfl rfl) (dv_tup da_nil) (cd_eqD (room_u64 hr) (Tr.plD _) rfl (Tr.shD (by omega)) rfl (Tr.ne0 _)) (nomark _)) fun _ => (dw_or1 (dp_not (dp_val (dv_callB (cb_isi rfl M.kss) M.isinstance bt_isinstance (da_cons (dv_ixT (dv_var 0 rfl rfl) dv_int rfl) (da_cons (dv_ty M.str bt_str) da_nil)))))))))) (by rw [decide_eq_false (by have := Tr.pos (.side r); omega)]; rfl)) ?_
        refine ds_ifF (dp_is (dp_cmp (dv_ixT (dv_var 0 rfl rfl) dv_int rfl) dv_str cd_eqS (nomark _)) rfl) ?_
        refine ds_ifF (dp_is (dp_w (dw_or (dp_cmp (dv_callB cb_lenT M.len bt_len (da_cons (dv_var 0 rfl rfl) da_nil)) dv_int cd_ne (nomark _)) fun _ => (dw_or1 (dp_cmp (dv_ixT (dv_var 0 rfl rfl) dv_int rfl) (dv_tup (da_cons dv_str (da_cons dv_str (da_cons dv_str (da_cons dv_str (da_cons dv_str da_nil)))))) (cd_notIn rfl rfl rfl) rfl)))) rfl) ?_
        exact ds_ifT (dp_is (dp_cmp (dv_ixT (dv_var 0 rfl rfl) dv_int rfl) (dv_tup (da_cons dv_str (da_cons dv_str da_nil))) (cd_in rfl rfl rfl) rfl) rfl) (ds_ret (dv_call c_is_row (hr.mono (by omega)) (da_cons (dv_ixT (dv_var 0 rfl rfl) dv_int rfl) da_nil) ⟨r, h4 r (by simp [Tr.rows]), rfl, rfl⟩))
      | rim r =>
        refine ds_ifF (dp_is (dp_w (dw_or (dp_cmp (dv_var 1 rfl rfl) dv_int cd_eq (nomark _)) fun _ => (dw_or (dp_not (dp_val (dv_callB (cb_isi rfl M.ktt) M.isinstance bt_isinstance (da_cons (dv_var 0 rfl rfl) (da_cons (dv_ty M.tuple bt_tuple) da_nil))))) fun _ => (dw_or (dp_cmp (dv_var 0 rfl rfl) (dv_tup da_nil) (cd_eqD (room_u64 hr) (Tr.plD _) rfl (Tr.shD (by omega)) rfl (Tr.ne0 _)) (nomark _)) fun _ => (dw_or1 (dp_not (dp_val (dv_callB (cb_isi rfl M.kss) M.isinstance bt_isinstance (da_cons (dv_ixT (dv_var 0 rfl rfl) dv_int rfl) (da_cons (dv_ty M.str bt_str) da_nil)))))))))) (by rw [decide_eq_false (by have := Tr.pos (.rim r); omega)]; rfl)) ?_
        refine ds_ifF (dp_is (dp_cmp (dv_ixT (dv_var 0 rfl rfl) dv_int rfl) dv_str cd_eqS (nomark _)) rfl) ?_
        refine ds_ifF (dp_is (dp_w (dw_or (dp_cmp (dv_callB cb_lenT M.len bt_len (da_cons (dv_var 0 rfl rfl) da_nil)) dv_int cd_ne (nomark _)) fun _ => (dw_or1 (dp_cmp (dv_ixT (dv_var 0 rfl rfl) dv_int rfl) (dv_tup (da_cons dv_str (da_cons dv_str (da_cons dv_str (da_cons dv_str (da_cons dv_str da_nil)))))) (cd_notIn rfl rfl rfl) rfl)))) rfl) ?_
        exact ds_ifT (dp_is (dp_cmp (dv_ixT (dv_var 0 rfl rfl) dv_int rfl) (dv_tup (da_cons dv_str (da_cons dv_str da_nil))) (cd_in rfl rfl rfl) rfl) rfl) (ds_ret (dv_call c_is_row (hr.mono (by omega)) (da_cons (dv_ixT (dv_var 0 rfl rfl) dv_int rfl) da_nil) ⟨r, h4 r (by simp [Tr.rows]), rfl, rfl⟩))
      | no t =>
        have hn : 1 ≤ n := by simp only [Tr.dp] at h1; omega
        refine ds_ifF (dp_is (dp_w (dw_or (dp_cmp (dv_var 1 rfl rfl) dv_int cd_eq (nomark _)) fun _ => (dw_or (dp_not (dp_val (dv_callB (cb_isi rfl M.ktt) M.isinstance bt_isinstance (da_cons (dv_var 0 rfl rfl) (da_cons (dv_ty M.tuple bt_tuple) da_nil))))) fun _ => (dw_or (dp_cmp (dv_var 0 rfl rfl) (dv_tup da_nil) (cd_eqD (room_u64 hr) (Tr.plD _) rfl (Tr.shD (by omega)) rfl (Tr.ne0 _)) (nomark _)) fun _ => (dw_or1 (dp_not (dp_val (dv_callB (cb_isi rfl M.kss) M.isinstance bt_isinstance (da_cons (dv_ixT (dv_var 0 rfl rfl) dv_int rfl) (da_cons (dv_ty M.str bt_str) da_nil)))))))))) (by rw [decide_eq_false (by have := Tr.pos (.no t); omega)]; rfl)) ?_
        refine ds_ifF (dp_is (dp_cmp (dv_ixT (dv_var 0 rfl rfl) dv_int rfl) dv_str cd_eqS (nomark _)) rfl) ?_
        refine ds_ifF (dp_is (dp_w (dw_or (dp_cmp (dv_callB cb_lenT M.len bt_len (da_cons (dv_var 0 rfl rfl) da_nil)) dv_int cd_ne (nomark _)) fun _ => (dw_or1 (dp_cmp (dv_ixT (dv_var 0 rfl rfl) dv_int rfl) (dv_tup (da_cons dv_str (da_cons dv_str (da_cons dv_str (da_cons dv_str (da_cons dv_str da_nil)))))) (cd_notIn rfl rfl rfl) rfl)))) rfl) ?_
        refine ds_ifF (dp_is (dp_cmp (dv_ixT (dv_var 0 rfl rfl) dv_int rfl) (dv_tup (da_cons dv_str (da_cons dv_str da_nil))) (cd_in rfl rfl rfl) rfl) rfl) ?_
        exact ds_ifT (dp_is (dp_cmp (dv_ixT (dv_var 0 rfl rfl) dv_int rfl) dv_str cd_eqS (nomark _)) rfl) (ds_ret (dv_call c_is_tree (hr.mono (by omega)) (da_cons (dv_ixT (dv_var 0 rfl rfl) dv_int rfl) (da_cons (dv_is (dv_sub (dv_var 1 rfl rfl) dv_int) (show Dt.int ((n : Int) - 1) = Dt.int ((n - 1 : Nat) : Int) by congr 1; omega)) da_nil)) ⟨t, n - 1, by simp only [Tr.dp] at h1; omega, by omega, by omega, h4, rfl, rfl⟩))
      | and2 a b =>
        have hn : 1 ≤ n := by simp only [Tr.dp] at h1; omega
        have hk : ∀ t ∈ [a, b], t.dp ≤ n - 1 ∧ ∀ r ∈ t.rows, Ro r := by
          intro t ht
          simp only [List.mem_cons, List.not_mem_nil, or_false] at ht
          simp only [Tr.dp] at h1
          rcases ht with rfl | rfl
          · exact ⟨by omega, fun r hr => h4 r (by simp [Tr.rows, hr])⟩
          · exact ⟨by omega, fun r hr => h4 r (by simp [Tr.rows, hr])⟩
        refine ds_ifF (dp_is (dp_w (dw_or (dp_cmp (dv_var 1 rfl rfl) dv_int cd_eq (nomark _)) fun _ => (dw_or (dp_not (dp_val (dv_callB (cb_isi rfl M.ktt) M.isinstance bt_isinstance (da_cons (dv_var 0 rfl rfl) (da_cons (dv_ty M.tuple bt_tuple) da_nil))))) fun _ => (dw_or (dp_cmp (dv_var 0 rfl rfl) (dv_tup da_nil) (cd_eqD (room_u64 hr) (Tr.plD _) rfl (Tr.shD (by omega)) rfl (Tr.ne0 _)) (nomark _)) fun _ => (dw_or1 (dp_not (dp_val (dv_callB (cb_isi rfl M.kss) M.isinstance bt_isinstance (da_cons (dv_ixT (dv_var 0 rfl rfl) dv_int rfl) (da_cons (dv_ty M.str bt_str) da_nil)))))))))) (by rw [decide_eq_false (by have := Tr.pos (.and2 a b); omega)]; rfl)) ?_
        refine ds_ifF (dp_is (dp_cmp (dv_ixT (dv_var 0 rfl rfl) dv_int rfl) dv_str cd_eqS (nomark _)) rfl) ?_
        refine ds_ifF (dp_is (dp_w (dw_or (dp_cmp (dv_callB cb_lenT M.len bt_len (da_cons (dv_var 0 rfl rfl) da_nil)) dv_int cd_ne (nomark _)) fun _ => (dw_or1 (dp_cmp (dv_ixT (dv_var 0 rfl rfl) dv_int rfl) (dv_tup (da_cons dv_str (da_cons dv_str (da_cons dv_str (da_cons dv_str (da_cons dv_str da_nil)))))) (cd_notIn rfl rfl rfl) rfl)))) rfl) ?_
        refine ds_ifF (dp_is (dp_cmp (dv_ixT (dv_var 0 rfl rfl) dv_int rfl) (dv_tup (da_cons dv_str (da_cons dv_str da_nil))) (cd_in rfl rfl rfl) rfl) rfl) ?_
        refine ds_ifF (dp_is (dp_cmp (dv_ixT (dv_var 0 rfl rfl) dv_int rfl) dv_str cd_eqS (nomark _)) rfl) ?_
        refine ds_ifF (dp_is (dp_w (dw_or (dp_not (dp_val (dv_callB (cb_isi rfl M.ktt) M.isinstance bt_isinstance (da_cons (dv_ixT (dv_var 0 rfl rfl) dv_int rfl) (da_cons (dv_ty M.tuple bt_tuple) da_nil))))) fun _ => (dw_or1 (dp_not (dv_chain dv_int (dv_callB cb_lenT M.len bt_len (da_cons (dv_ixT (dv_var 0 rfl rfl) dv_int rfl) da_nil)) (dv_glob M.trees rfl) cd_le cd_le (by with_unfolding_all rfl)))))) rfl) ?_
        refine ds_ret (dv_is (dv_callB (cb_all (bs := [true, true]) rfl) M.all bt_all (da_cons (dv_is (dv_lc1 2 (fun _ => .bl true) (ds := [a, b].map Tr.D) (wk_tup (dv_ixT (dv_var 0 rfl rfl) dv_int rfl)) rfl sc_is_tree.nd rfl (blkOk_by (N := N_is_tree) (sc := defScope s_is_tree) (by decide +kernel)) rfl (by simp) (fun d hd s H c cl fp => ?_) (fun d hd => rfl)) rfl) da_nil)) rfl)
        obtain ⟨t, ht, rfl⟩ := List.mem_map.mp hd
        obtain ⟨k1, k2⟩ := hk t ht
        exact dv_call c_is_tree (hr.mono (by omega)) (da_cons (dv_var 2 rfl rfl) (da_cons (dv_is (dv_sub (dv_var 1 rfl rfl) dv_int) (show Dt.int ((n : Int) - 1) = Dt.int ((n - 1 : Nat) : Int) by congr 1; omega)) da_nil)) ⟨t, n - 1, k1, by omega, by omega, k2, rfl, rfl⟩
      | or2 a b =>
        have hn : 1 ≤ n := by simp only [Tr.dp] at h1; omega
        have hk : ∀ t ∈ [a, b], t.dp ≤ n - 1 ∧ ∀ r ∈ t.rows, Ro r := by
          intro t ht
          simp only [List.mem_cons, List.not_mem_nil, or_false] at ht
          simp only [Tr.dp] at h1
          rcases ht with rfl | rfl
          · exact ⟨by omega, fun r hr => h4 r (by simp [Tr.rows, hr])⟩
          · exact ⟨by omega, fun r hr => h4 r (by simp [Tr.rows, hr])⟩
        refine ds_ifF (dp_is (dp_w (dw_or (dp_cmp (dv_var 1 rfl rfl) dv_int cd_eq (nomark _)) fun _ => (dw_or (dp_not (dp_val (dv_callB (cb_isi rfl M.ktt) M.isinstance bt_isinstance (da_cons (dv_var 0 rfl rfl) (da_cons (dv_ty M.tuple bt_tuple) da_nil))))) fun _ => (dw_or (dp_cmp (dv_var 0 rfl rfl) (dv_tup da_nil) (cd_eqD (room_u64 hr) (Tr.plD _) rfl (Tr.shD (by omega)) rfl (Tr.ne0 _)) (nomark _)) fun _ => (dw_or1 (dp_not (dp_val (dv_callB (cb_isi rfl M.kss) M.isinstance bt_isinstance (da_cons (dv_ixT (dv_var 0 rfl rfl) dv_int rfl) (da_cons (dv_ty M.str bt_str) da_nil)))))))))) (by rw [decide_eq_false (by have := Tr.pos (.or2 a b); omega)]; rfl)) ?_
        refine ds_ifF (dp_is (dp_cmp (dv_ixT (dv_var 0 rfl rfl) dv_int rfl) dv_str cd_eqS (nomark _)) rfl) ?_
        refine ds_ifF (dp_is (dp_w (dw_or (dp_cmp (dv_callB cb_lenT M.len bt_len (da_cons (dv_var 0 rfl rfl) da_nil)) dv_int cd_ne (nomark _)) fun _ => (dw_or1 (dp_cmp (dv_ixT (dv_var 0 rfl rfl) dv_int rfl) (dv_tup (da_cons dv_str (da_cons dv_str (da_cons dv_str (da_cons dv_str (da_cons dv_str da_nil)))))) (cd_notIn rfl rfl rfl) rfl)))) rfl) ?_
        refine ds_ifF (dp_is (dp_cmp (dv_ixT (dv_var 0 rfl rfl) dv_int rfl) (dv_tup (da_cons dv_str (da_cons dv_str da_nil))) (cd_in rfl rfl rfl) rfl) rfl) ?_
        refine ds_ifF (dp_is (dp_cmp (dv_ixT (dv_var 0 rfl rfl) dv_int rfl) dv_str cd_eqS (nomark _)) rfl) ?_
        refine ds_ifF (dp_is (dp_w (dw_or (dp_not (dp_val (dv_callB (cb_isi rfl M.ktt) M.isinstance bt_isinstance (da_cons (dv_ixT (dv_var 0 rfl rfl) dv_int rfl) (da_cons (dv_ty M.tuple bt_tuple) da_nil))))) fun _ => (dw_or1 (dp_not (dv_chain dv_int (dv_callB cb_lenT M.len bt_len (da_cons (dv_ixT (dv_var 0 rfl rfl) dv_int rfl) da_nil)) (dv_glob M.trees rfl) cd_le cd_le (by with_unfolding_all rfl)))))) rfl) ?_
        refine ds_ret (dv_is (dv_callB (cb_all (bs := [true, true]) rfl) M.all bt_all (da_cons (dv_is (dv_lc1 2 (fun _ => .bl true) (ds := [a, b].map Tr.D) (wk_tup (dv_ixT (dv_var 0 rfl rfl) dv_int rfl)) rfl sc_is_tree.nd rfl (blkOk_by (N := N_is_tree) (sc := defScope s_is_tree) (by decide +kernel)) rfl (by simp) (fun d hd s H c cl fp => ?_) (fun d hd => rfl)) rfl) da_nil)) rfl)
        obtain ⟨t, ht, rfl⟩ := List.mem_map.mp hd
        obtain ⟨k1, k2⟩ := hk t ht
        exact dv_call c_is_tree (hr.mono (by omega)) (da_cons (dv_var 2 rfl rfl) (da_cons (dv_is (dv_sub (dv_var 1 rfl rfl) dv_int) (show Dt.int ((n : Int) - 1) = Dt.int ((n - 1 : Nat) : Int) by congr 1; omega)) da_nil)) ⟨t, n - 1, k1, by omega, by omega, k2, rfl, rfl⟩
abbrev N_trees_in : List Str := ["tree"]
theorem sc_trees_in : FnScope N_trees_in ["tree"] (defScope s_trees_in) := ⟨rfl, rfl, rfl, by decide +kernel, rfl, by decide +kernel, by decide +kernel⟩
theorem ok_trees_in (M : Md C K mg) (T : Top K mg "trees_in" s_trees_in ["tree"]) : CalD C P w K mg base 1 "trees_in" ["tree"] R_trees_in := by
  refine T.ok sc_trees_in (fun ds d h => ?_) fun f cdv A outer s H E hr ds d h => ?_
  · obtain ⟨t, rfl, rfl⟩ := h
    rfl
  · obtain ⟨t, rfl, rfl⟩ := h
    cases t with
    | all => exact ds_ret (dv_if (k := false) (dp_is (dp_cmp (dv_ixT (dv_var 0 rfl rfl) dv_int rfl) dv_str cd_eqS (nomark _)) rfl) (fun z => nomatch z) (fun _ => dv_if (k := false) (dp_is (dp_cmp (dv_ixT (dv_var 0 rfl rfl) dv_int rfl) (dv_tup (da_cons dv_str (da_cons dv_str da_nil))) (cd_in rfl rfl rfl) rfl) rfl) (fun z => nomatch z) (fun _ => dv_is (dv_lst da_nil) rfl)))
    | side r => exact ds_ret (dv_if (k := false) (dp_is (dp_cmp (dv_ixT (dv_var 0 rfl rfl) dv_int rfl) dv_str cd_eqS (nomark _)) rfl) (fun z => nomatch z) (fun _ => dv_if (k := false) (dp_is (dp_cmp (dv_ixT (dv_var 0 rfl rfl) dv_int rfl) (dv_tup (da_cons dv_str (da_cons dv_str da_nil))) (cd_in rfl rfl rfl) rfl) rfl) (fun z => nomatch z) (fun _ => dv_is (dv_lst da_nil) rfl)))
    | rim r => exact ds_ret (dv_if (k := false) (dp_is (dp_cmp (dv_ixT (dv_var 0 rfl rfl) dv_int rfl) dv_str cd_eqS (nomark _)) rfl) (fun z => nomatch z) (fun _ => dv_if (k := false) (dp_is (dp_cmp (dv_ixT (dv_var 0 rfl rfl) dv_int rfl) (dv_tup (da_cons dv_str (da_cons dv_str da_nil))) (cd_in rfl rfl rfl) rfl) rfl) (fun z => nomatch z) (fun _ => dv_is (dv_lst da_nil) rfl)))
    | no t => exact ds_ret (dv_if (k := true) (dp_is (dp_cmp (dv_ixT (dv_var 0 rfl rfl) dv_int rfl) dv_str cd_eqS (nomark _)) rfl) (fun _ => dv_is (dv_lst (da_cons (dv_ixT (dv_var 0 rfl rfl) dv_int rfl) da_nil)) rfl) (fun z => nomatch z))
    | and2 a b => exact ds_ret (dv_if (k := false) (dp_is (dp_cmp (dv_ixT (dv_var 0 rfl rfl) dv_int rfl) dv_str cd_eqS (nomark _)) rfl) (fun z => nomatch z) (fun _ => dv_if (k := true) (dp_is (dp_cmp (dv_ixT (dv_var 0 rfl rfl) dv_int rfl) (dv_tup (da_cons dv_str (da_cons dv_str da_nil))) (cd_in rfl rfl rfl) rfl) rfl) (fun _ => (dv_callTy cb_lstT M.list bt_list (da_cons (dv_ixT (dv_var 0 rfl rfl) dv_int rfl) da_nil))) (fun z => nomatch z)))
    | or2 a b => exact ds_ret (dv_if (k := false) (dp_is (dp_cmp (dv_ixT (dv_var 0 rfl rfl) dv_int rfl) dv_str cd_eqS (nomark _)) rfl) (fun z => nomatch z) (fun _ => dv_if (k := true) (dp_is (dp_cmp (dv_ixT (dv_var 0 rfl rfl) dv_int rfl) (dv_tup (da_cons dv_str (da_cons dv_str da_nil))) (cd_in rfl rfl rfl) rfl) rfl) (fun _ => (dv_callTy cb_lstT M.list bt_list (da_cons (dv_ixT (dv_var 0 rfl rfl) dv_int rfl) da_nil))) (fun z => nomatch z)))
abbrev N_leaf_rows : List Str := ["tree", "each", "row"]
theorem sc_leaf_rows : FnScope N_leaf_rows ["tree"] (defScope s_leaf_rows) := ⟨rfl, rfl, rfl, by decide +kernel, rfl, by decide +kernel, by decide +kernel⟩
theorem dvF_is {X : Cx} {Γ : Env'} {e : Expr} {d d' : Dt} (h : DvF C X e Γ d) (q : d = d') : DvF C X e Γ d' := q ▸ h
theorem lfs_rows : ∀ rs : List Rw, lfs (rs.map rD) = true
  | [] => by rw [List.map_nil, lfs]
  | r :: rs => by rw [List.map_cons, lfs, lfs_rows rs]; rfl
theorem ok_leaf_rows (M : Md C K mg) (T : Top K mg "leaf_rows" s_leaf_rows ["tree"]) (c_trees_in : CalD C P w K mg base 1 "trees_in" ["tree"] R_trees_in) : ∀ j : Nat, CalF C P w K mg base (2 + j) "leaf_rows" ["tree"] (R_leaf_rows j) := by
  intro j
  induction j with
  | zero =>
    refine T.okF (k := 1) sc_leaf_rows (fun ds d h => ?_) fun f cdv A outer s H E hr ds d h => ?_
    all_goals
      obtain ⟨t, h1, _⟩ := h
      have := Tr.pos t
      omega
  | succ j c_leaf_rows =>
    refine T.okF (k := 2 + j) sc_leaf_rows (fun ds d h => ?_) fun f cdv A outer s H E hr ds d h => ?_
    · obtain ⟨t, h1, h2, rfl, rfl⟩ := h
      rfl
    · obtain ⟨t, h1, h2, rfl, rfl⟩ := h
      have kids : ∀ (t : Tr), t.rows.length ≤ 100000 → (∀ k ∈ t.kids, k.dp ≤ j) → (t.kids.map Tr.D).flatMap (fun d => (trOf j d).rows.map rD) = t.rows.map rD → ∀ k ∈ t.kids, R_leaf_rows j [k.D] (.lst ((trOf j k.D).rows.map rD)) := fun t h2 hk he k hk' => by
        have hkj := hk k hk'
        refine ⟨k, hkj, ?_, rfl, by rw [trOf_D k j hkj]⟩
        have e := congrArg List.length he
        have m : ∀ (l : List Tr), k ∈ l → (∀ z ∈ l, z.dp ≤ j) → k.rows.length ≤ ((l.map Tr.D).flatMap (fun d => (trOf j d).rows.map rD)).length := by
          intro l
          induction l with
          | nil => intro h; simp at h
          | cons z l ih =>
            intro h hz
            rw [List.map_cons, List.flatMap_cons, List.length_append, List.length_map]
            obtain rfl | h := List.mem_cons.mp h
            · rw [trOf_D k j (hz k (List.mem_cons_self ..))]
              omega
            · have := ih h fun u hu => hz u (List.mem_cons_of_mem _ hu)
              omega
        have := m t.kids hk' hk
        rw [List.length_map] at e
        omega
      cases t with
      | all => 
        have hk : ∀ k ∈ (Tr.kids .all), k.dp ≤ j := by intro k hk; simp [Tr.kids] at hk
        have he : ((Tr.kids .all).map Tr.D).flatMap (fun d => (trOf j d).rows.map rD) = (Tr.rows .all).map rD := by rfl
        refine dsF_ifF (dp_is (dp_cmp (dv_ixT (dv_var 0 rfl rfl) dv_int rfl) (dv_tup (da_cons dv_str (da_cons dv_str da_nil))) (cd_in rfl rfl rfl) rfl) rfl) (dsF_ret (dvF_is (dvF_lc2 1 2 (fun d => (trOf j d).rows.map rD) (wk_list (dv_call c_trees_in (hr.mono (by omega)) (da_cons (dv_var 0 rfl rfl) da_nil) ⟨.all, rfl, rfl⟩)) rfl sc_leaf_rows.nd rfl rfl (by decide) (of_decide_eq_true rfl) (blkOk_by (N := N_leaf_rows) (sc := defScope s_leaf_rows) (by decide +kernel)) rfl rfl (by rw [he, List.length_map]; exact h2) (fun d hd s H c cl fp => ?_) (fun d hd => lfs_rows _)) (congrArg Dt.lst he)))
        obtain ⟨k, hk', rfl⟩ := List.mem_map.mp hd
        exact dvF_call c_leaf_rows (hr.mono (by omega)) (da_cons (dv_var 1 rfl rfl) da_nil) (kids .all h2 hk he k hk')
      | side r => exact dsF_ifT (dp_is (dp_cmp (dv_ixT (dv_var 0 rfl rfl) dv_int rfl) (dv_tup (da_cons dv_str (da_cons dv_str da_nil))) (cd_in rfl rfl rfl) rfl) rfl) (dsF_ret (dvF_is (dvF_lst (da_cons (dv_ixT (dv_var 0 rfl rfl) dv_int rfl) da_nil)) rfl))
      | rim r => exact dsF_ifT (dp_is (dp_cmp (dv_ixT (dv_var 0 rfl rfl) dv_int rfl) (dv_tup (da_cons dv_str (da_cons dv_str da_nil))) (cd_in rfl rfl rfl) rfl) rfl) (dsF_ret (dvF_is (dvF_lst (da_cons (dv_ixT (dv_var 0 rfl rfl) dv_int rfl) da_nil)) rfl))
      | no t => 
        have hk : ∀ k ∈ (Tr.kids (.no t)), k.dp ≤ j := by intro k hk; simp only [Tr.kids, List.mem_cons, List.not_mem_nil, or_false] at hk; subst hk; simp only [Tr.dp] at h1; omega
        have he : ((Tr.kids (.no t)).map Tr.D).flatMap (fun d => (trOf j d).rows.map rD) = (Tr.rows (.no t)).map rD := by simp only [Tr.dp] at h1; simp [Tr.kids, Tr.rows, trOf_D t j (by omega)]
        refine dsF_ifF (dp_is (dp_cmp (dv_ixT (dv_var 0 rfl rfl) dv_int rfl) (dv_tup (da_cons dv_str (da_cons dv_str da_nil))) (cd_in rfl rfl rfl) rfl) rfl) (dsF_ret (dvF_is (dvF_lc2 1 2 (fun d => (trOf j d).rows.map rD) (wk_list (dv_call c_trees_in (hr.mono (by omega)) (da_cons (dv_var 0 rfl rfl) da_nil) ⟨(.no t), rfl, rfl⟩)) rfl sc_leaf_rows.nd rfl rfl (by decide) (of_decide_eq_true rfl) (blkOk_by (N := N_leaf_rows) (sc := defScope s_leaf_rows) (by decide +kernel)) rfl rfl (by rw [he, List.length_map]; exact h2) (fun d hd s H c cl fp => ?_) (fun d hd => lfs_rows _)) (congrArg Dt.lst he)))
        obtain ⟨k, hk', rfl⟩ := List.mem_map.mp hd
        exact dvF_call c_leaf_rows (hr.mono (by omega)) (da_cons (dv_var 1 rfl rfl) da_nil) (kids (.no t) h2 hk he k hk')
      | and2 a b => 
        have hk : ∀ k ∈ (Tr.kids (.and2 a b)), k.dp ≤ j := by intro k hk; simp only [Tr.kids, List.mem_cons, List.not_mem_nil, or_false] at hk; simp only [Tr.dp] at h1; rcases hk with rfl | rfl <;> omega
        have he : ((Tr.kids (.and2 a b)).map Tr.D).flatMap (fun d => (trOf j d).rows.map rD) = (Tr.rows (.and2 a b)).map rD := by simp only [Tr.dp] at h1; simp [Tr.kids, Tr.rows, trOf_D a j (by omega), trOf_D b j (by omega)]
        refine dsF_ifF (dp_is (dp_cmp (dv_ixT (dv_var 0 rfl rfl) dv_int rfl) (dv_tup (da_cons dv_str (da_cons dv_str da_nil))) (cd_in rfl rfl rfl) rfl) rfl) (dsF_ret (dvF_is (dvF_lc2 1 2 (fun d => (trOf j d).rows.map rD) (wk_list (dv_call c_trees_in (hr.mono (by omega)) (da_cons (dv_var 0 rfl rfl) da_nil) ⟨(.and2 a b), rfl, rfl⟩)) rfl sc_leaf_rows.nd rfl rfl (by decide) (of_decide_eq_true rfl) (blkOk_by (N := N_leaf_rows) (sc := defScope s_leaf_rows) (by decide +kernel)) rfl rfl (by rw [he, List.length_map]; exact h2) (fun d hd s H c cl fp => ?_) (fun d hd => lfs_rows _)) (congrArg Dt.lst he)))
        obtain ⟨k, hk', rfl⟩ := List.mem_map.mp hd
        exact dvF_call c_leaf_rows (hr.mono (by omega)) (da_cons (dv_var 1 rfl rfl) da_nil) (kids (.and2 a b) h2 hk he k hk')
      | or2 a b => 
        have hk : ∀ k ∈ (Tr.kids (.or2 a b)), k.dp ≤ j := by intro k hk; simp only [Tr.kids, List.mem_cons, List.not_mem_nil, or_false] at hk; simp only [Tr.dp] at h1; rcases hk with rfl | rfl <;> omega
        have he : ((Tr.kids (.or2 a b)).map Tr.D).flatMap (fun d => (trOf j d).rows.map rD) = (Tr.rows (.or2 a b)).map rD := by simp only [Tr.dp] at h1; simp [Tr.kids, Tr.rows, trOf_D a j (by omega), trOf_D b j (by omega)]
        refine dsF_ifF (dp_is (dp_cmp (dv_ixT (dv_var 0 rfl rfl) dv_int rfl) (dv_tup (da_cons dv_str (da_cons dv_str da_nil))) (cd_in rfl rfl rfl) rfl) rfl) (dsF_ret (dvF_is (dvF_lc2 1 2 (fun d => (trOf j d).rows.map rD) (wk_list (dv_call c_trees_in (hr.mono (by omega)) (da_cons (dv_var 0 rfl rfl) da_nil) ⟨(.or2 a b), rfl, rfl⟩)) rfl sc_leaf_rows.nd rfl rfl (by decide) (of_decide_eq_true rfl) (blkOk_by (N := N_leaf_rows) (sc := defScope s_leaf_rows) (by decide +kernel)) rfl rfl (by rw [he, List.length_map]; exact h2) (fun d hd s H c cl fp => ?_) (fun d hd => lfs_rows _)) (congrArg Dt.lst he)))
        obtain ⟨k, hk', rfl⟩ := List.mem_map.mp hd
        exact dvF_call c_leaf_rows (hr.mono (by omega)) (da_cons (dv_var 1 rfl rfl) da_nil) (kids (.or2 a b) h2 hk he k hk')
abbrev N_leaf_holds : List Str := ["leaf", "rounds", "signs", "circle", "mine"]
theorem sc_leaf_holds : FnScope N_leaf_holds ["leaf", "rounds", "signs"] (defScope s_leaf_holds) := ⟨rfl, rfl, rfl, by decide +kernel, rfl, by decide +kernel, by decide +kernel⟩
theorem sh1 (c : Rw) : SeqAt.shaped (py (rD c)) = true := by
  simp [py, pys, SeqAt.shaped, PyData.canLay0, PyData.canLayAll0, PyData.depth, PyData.depthAll]
theorem upR_eq {r : Rw} (h : r.q ≠ 0) : PyData.eqv (py (rD (upR r))) (py (rD r)) = decide (0 < r.q) := by
  rw [eqvR]
  refine decide_eq_decide.mpr ⟨fun e => ?_, fun h' => by unfold upR; rw [if_pos h']⟩
  have e' := Rw.t_inj e
  unfold upR at e'
  split at e'
  · assumption
  · have := congrArg Rw.q e'
    simp only at this
    omega
theorem ok_leaf_holds (M : Md C K mg) (T : Top K mg "leaf_holds" s_leaf_holds ["leaf", "rounds", "signs"]) (c_first_above : CalD C P w K mg base 3 "first_above" ["numbers"] R_first_above) : CalD C P w K mg base 4 "leaf_holds" ["leaf", "rounds", "signs"] R_leaf_holds := by
  refine T.ok sc_leaf_holds (fun ds d h => ?_) fun f cdv A outer s H E hr ds d h => ?_
  · obtain ⟨r, rs, ss, fz, lk, hl, ⟨rfl, _⟩ | ⟨rfl, _⟩⟩ := h <;> rfl
  · obtain ⟨r, rs, ss, fz, lk, hl, h⟩ := h
    obtain ⟨i, hi, hno, hz⟩ := lk.at_
    have heq := upR_eq lk.rg.q0
    rcases h with ⟨rfl, rfl⟩ | ⟨rfl, rfl⟩
    · refine ds_set 3 rfl sc_leaf_holds.nd (dv_is (dv_call c_first_above (hr.mono (by decide)) (da_cons (dv_ixT (dv_var 0 rfl rfl) dv_int rfl) da_nil) ⟨r.q, [r.l, r.m, r.k], lk.rg.gd, lk.rg.ro.one, lk.rg.q0, rfl, rfl⟩) (upT_D r)) ?_
      refine ds_set 4 rfl sc_leaf_holds.nd (dv_ixT (dv_var 2 rfl rfl) (dv_tindex (dv_var 1 rfl rfl) (dv_var 3 rfl rfl) i hi hno (room_u hr)) (atI_nat (by rw [List.getElem?_map, hz]; rfl))) ?_
      refine ds_ifF (dp_is (dp_cmp (dv_ixT (dv_var 0 rfl rfl) dv_int rfl) dv_str cd_eqS (nomark _)) rfl) ?_
      refine ds_ret (dv_if (k := decide (0 < r.q)) (dp_is (dp_cmp (dv_var 3 rfl rfl) (dv_ixT (dv_var 0 rfl rfl) dv_int rfl) (cd_eqD (room_u64 hr) rfl rfl (sh1 _) (sh1 _) heq) (nomark _)) rfl) (fun hk => dv_is (dv_cmp (dv_var 4 rfl rfl) dv_int cd_ge (nomark _)) ?_) (fun hk => dv_is (dv_cmp (dv_var 4 rfl rfl) dv_int cd_le (nomark _)) ?_))
      · show _ = Dt.bl (if 0 < r.q then _ else _)
        rw [if_pos (of_decide_eq_true hk)]
      · show _ = Dt.bl (if 0 < r.q then _ else _)
        rw [if_neg (of_decide_eq_false hk)]
    · refine ds_set 3 rfl sc_leaf_holds.nd (dv_is (dv_call c_first_above (hr.mono (by decide)) (da_cons (dv_ixT (dv_var 0 rfl rfl) dv_int rfl) da_nil) ⟨r.q, [r.l, r.m, r.k], lk.rg.gd, lk.rg.ro.one, lk.rg.q0, rfl, rfl⟩) (upT_D r)) ?_
      refine ds_set 4 rfl sc_leaf_holds.nd (dv_ixT (dv_var 2 rfl rfl) (dv_tindex (dv_var 1 rfl rfl) (dv_var 3 rfl rfl) i hi hno (room_u hr)) (atI_nat (by rw [List.getElem?_map, hz]; rfl))) ?_
      exact ds_ifT (dp_is (dp_cmp (dv_ixT (dv_var 0 rfl rfl) dv_int rfl) dv_str cd_eqS (nomark _)) rfl) (ds_ret (dv_cmp (dv_var 4 rfl rfl) dv_int cd_eq (nomark _)))
abbrev N_tree_holds : List Str := ["tree", "rounds", "signs", "found", "each"]
theorem sc_tree_holds : FnScope N_tree_holds ["tree", "rounds", "signs"] (defScope s_tree_holds) := ⟨rfl, rfl, rfl, by decide +kernel, rfl, by decide +kernel, by decide +kernel⟩
theorem ok_tree_holds (M : Md C K mg) (T : Top K mg "tree_holds" s_tree_holds ["tree", "rounds", "signs"]) (c_leaf_holds : CalD C P w K mg base 4 "leaf_holds" ["leaf", "rounds", "signs"] R_leaf_holds) : ∀ j : Nat, CalD C P w K mg base (4 + j) "tree_holds" ["tree", "rounds", "signs"] (R_tree_holds j) := by
  intro j
  induction j with
  | zero =>
    refine T.ok (k := 3) sc_tree_holds (fun ds d h => ?_) fun f cdv A outer s H E hr ds d h => ?_
    all_goals
      obtain ⟨t, rs, ss, fz, h1, _⟩ := h
      have := Tr.pos t
      omega
  | succ j c_tree_holds =>
    refine T.ok (k := 4 + j) sc_tree_holds (fun ds d h => ?_) fun f cdv A outer s H E hr ds d h => ?_
    · obtain ⟨t, rs, ss, fz, h1, h2, hl, rfl, rfl⟩ := h
      rfl
    · obtain ⟨t, rs, ss, fz, h1, h2, hl, rfl, rfl⟩ := h
      cases t with
      | all => exact ds_ifT (dp_is (dp_cmp (dv_ixT (dv_var 0 rfl rfl) dv_int rfl) dv_str cd_eqS (nomark _)) rfl) (ds_ret dv_bl)
      | no t =>
        refine ds_ifF (dp_is (dp_cmp (dv_ixT (dv_var 0 rfl rfl) dv_int rfl) dv_str cd_eqS (nomark _)) rfl) ?_
        exact ds_ifT (dp_is (dp_cmp (dv_ixT (dv_var 0 rfl rfl) dv_int rfl) dv_str cd_eqS (nomark _)) rfl) (ds_ret (dv_not (dv_call c_tree_holds (hr.mono (by omega)) (da_cons (dv_ixT (dv_var 0 rfl rfl) dv_int rfl) (da_cons (dv_var 1 rfl rfl) (da_cons (dv_var 2 rfl rfl) da_nil))) ⟨t, rs, ss, fz, by simp only [Tr.dp] at h1; omega, h2, hl, rfl, rfl⟩)))
      | side r =>
        refine ds_ifF (dp_is (dp_cmp (dv_ixT (dv_var 0 rfl rfl) dv_int rfl) dv_str cd_eqS (nomark _)) rfl) ?_
        refine ds_ifF (dp_is (dp_cmp (dv_ixT (dv_var 0 rfl rfl) dv_int rfl) dv_str cd_eqS (nomark _)) rfl) ?_
        refine ds_ifF (dp_is (dp_cmp (dv_ixT (dv_var 0 rfl rfl) dv_int rfl) (dv_tup (da_cons dv_str (da_cons dv_str da_nil))) (cd_in rfl rfl rfl) rfl) rfl) ?_
        exact ds_ret (dv_call c_leaf_holds (hr.mono (by omega)) (da_cons (dv_var 0 rfl rfl) (da_cons (dv_var 1 rfl rfl) (da_cons (dv_var 2 rfl rfl) da_nil))) ⟨r, rs, ss, fz, (h2 r (by simp [Tr.rows])), hl, .inl ⟨rfl, rfl⟩⟩)
      | rim r =>
        refine ds_ifF (dp_is (dp_cmp (dv_ixT (dv_var 0 rfl rfl) dv_int rfl) dv_str cd_eqS (nomark _)) rfl) ?_
        refine ds_ifF (dp_is (dp_cmp (dv_ixT (dv_var 0 rfl rfl) dv_int rfl) dv_str cd_eqS (nomark _)) rfl) ?_
        refine ds_ifF (dp_is (dp_cmp (dv_ixT (dv_var 0 rfl rfl) dv_int rfl) (dv_tup (da_cons dv_str (da_cons dv_str da_nil))) (cd_in rfl rfl rfl) rfl) rfl) ?_
        exact ds_ret (dv_call c_leaf_holds (hr.mono (by omega)) (da_cons (dv_var 0 rfl rfl) (da_cons (dv_var 1 rfl rfl) (da_cons (dv_var 2 rfl rfl) da_nil))) ⟨r, rs, ss, fz, (h2 r (by simp [Tr.rows])), hl, .inr ⟨rfl, rfl⟩⟩)
      | and2 a b =>
        have hk : ∀ t ∈ [a, b], t.dp ≤ j ∧ ∀ r ∈ t.rows, Lk rs ss fz r := by
          intro t ht
          simp only [List.mem_cons, List.not_mem_nil, or_false] at ht
          simp only [Tr.dp] at h1
          rcases ht with rfl | rfl
          · exact ⟨by omega, fun r hr => h2 r (by simp [Tr.rows, hr])⟩
          · exact ⟨by omega, fun r hr => h2 r (by simp [Tr.rows, hr])⟩
        have hkj := hk a (by simp)
        have hkb := hk b (by simp)
        refine ds_ifF (dp_is (dp_cmp (dv_ixT (dv_var 0 rfl rfl) dv_int rfl) dv_str cd_eqS (nomark _)) rfl) ?_
        refine ds_ifF (dp_is (dp_cmp (dv_ixT (dv_var 0 rfl rfl) dv_int rfl) dv_str cd_eqS (nomark _)) rfl) ?_
        refine ds_ifT (dp_is (dp_cmp (dv_ixT (dv_var 0 rfl rfl) dv_int rfl) (dv_tup (da_cons dv_str (da_cons dv_str da_nil))) (cd_in rfl rfl rfl) rfl) rfl) ?_
        refine ds_lc1 4 3 (fun d => .bl ((trOf j d).hv fz)) (ds := [a, b].map Tr.D) (wk_tup (dv_ixT (dv_var 0 rfl rfl) dv_int rfl)) rfl sc_tree_holds.nd rfl (blkOk_by (N := N_tree_holds) (sc := defScope s_tree_holds) (by decide +kernel)) rfl (by simp) (fun d hd s H c cl fp => ?_) (fun d hd => rfl) rfl rfl rfl ?_
        · obtain ⟨t, ht, rfl⟩ := List.mem_map.mp hd
          obtain ⟨k1, k2⟩ := hk t ht
          rw [trOf_D t j k1]
          exact dv_call c_tree_holds (hr.mono (by omega)) (da_cons (dv_var 4 rfl rfl) (da_cons (dv_var 1 rfl rfl) (da_cons (dv_var 2 rfl rfl) da_nil))) ⟨t, rs, ss, fz, k1, k2, hl, rfl, rfl⟩
        · have e : ([a, b].map Tr.D).map (fun d => Dt.bl ((trOf j d).hv fz)) = [a.hv fz, b.hv fz].map Dt.bl := by
            simp [trOf_D a j hkj.1, trOf_D b j hkb.1]
          rw [e]
          exact ds_ret (dv_if (k := true) (dp_is (dp_cmp (dv_ixT (dv_var 0 rfl rfl) dv_int rfl) dv_str cd_eqS (nomark _)) rfl) (fun _ => dv_is (dv_callB (cb_all (bs := [a.hv fz, b.hv fz]) rfl) M.all bt_all (da_cons (dv_var 3 rfl rfl) da_nil)) (by simp [Tr.hv])) (fun z => nomatch z))
      | or2 a b =>
        have hk : ∀ t ∈ [a, b], t.dp ≤ j ∧ ∀ r ∈ t.rows, Lk rs ss fz r := by
          intro t ht
          simp only [List.mem_cons, List.not_mem_nil, or_false] at ht
          simp only [Tr.dp] at h1
          rcases ht with rfl | rfl
          · exact ⟨by omega, fun r hr => h2 r (by simp [Tr.rows, hr])⟩
          · exact ⟨by omega, fun r hr => h2 r (by simp [Tr.rows, hr])⟩
        have hkj := hk a (by simp)
        have hkb := hk b (by simp)
        refine ds_ifF (dp_is (dp_cmp (dv_ixT (dv_var 0 rfl rfl) dv_int rfl) dv_str cd_eqS (nomark _)) rfl) ?_
        refine ds_ifF (dp_is (dp_cmp (dv_ixT (dv_var 0 rfl rfl) dv_int rfl) dv_str cd_eqS (nomark _)) rfl) ?_
        refine ds_ifT (dp_is (dp_cmp (dv_ixT (dv_var 0 rfl rfl) dv_int rfl) (dv_tup (da_cons dv_str (da_cons dv_str da_nil))) (cd_in rfl rfl rfl) rfl) rfl) ?_
        refine ds_lc1 4 3 (fun d => .bl ((trOf j d).hv fz)) (ds := [a, b].map Tr.D) (wk_tup (dv_ixT (dv_var 0 rfl rfl) dv_int rfl)) rfl sc_tree_holds.nd rfl (blkOk_by (N := N_tree_holds) (sc := defScope s_tree_holds) (by decide +kernel)) rfl (by simp) (fun d hd s H c cl fp => ?_) (fun d hd => rfl) rfl rfl rfl ?_
        · obtain ⟨t, ht, rfl⟩ := List.mem_map.mp hd
          obtain ⟨k1, k2⟩ := hk t ht
          rw [trOf_D t j k1]
          exact dv_call c_tree_holds (hr.mono (by omega)) (da_cons (dv_var 4 rfl rfl) (da_cons (dv_var 1 rfl rfl) (da_cons (dv_var 2 rfl rfl) da_nil))) ⟨t, rs, ss, fz, k1, k2, hl, rfl, rfl⟩
        · have e : ([a, b].map Tr.D).map (fun d => Dt.bl ((trOf j d).hv fz)) = [a.hv fz, b.hv fz].map Dt.bl := by
            simp [trOf_D a j hkj.1, trOf_D b j hkb.1]
          rw [e]
          exact ds_ret (dv_if (k := false) (dp_is (dp_cmp (dv_ixT (dv_var 0 rfl rfl) dv_int rfl) dv_str cd_eqS (nomark _)) rfl) (fun z => nomatch z) (fun _ => dv_is (dv_callB (cb_any (bs := [a.hv fz, b.hv fz]) rfl) M.any bt_any (da_cons (dv_var 3 rfl rfl) da_nil)) (by simp [Tr.hv])))
end
end K28
set_option Elab.async false
set_option linter.all false
set_option maxRecDepth 100000
set_option maxHeartbeats 0
namespace K28
open PySem PySem.Spec PyProof.Rows L2 Evl

/-! ### lots: what is done to an instance touches no data without lots -/
mutual
def nl : Dt → Bool
  | .tup xs => nls xs
  | .lst xs => nls xs
  | .frl xs => nls xs
  | .tun xs => nls xs
  | .lot _ _ => false
  | _ => true
def nls : List Dt → Bool
  | [] => true
  | d :: ds => nl d && nls ds
end
def nlE : Env' → Bool
  | [] => true
  | none :: Γ => nlE Γ
  | some d :: Γ => nl d && nlE Γ
/-- all that is no instance is as it was -/
def ExI (H H' : Hp) : Prop := ∀ b o, H b = some o → (∀ C dx fs, o ≠ .ins C dx fs) → H' b = some o
section
variable {C : Addr} {K : PySem.W.Frag} {H H' : Hp}
theorem ExI.of_ins {x A dx : Addr} {fs : List (Str × V)} {u : HO} (h : H x = some (.ins A dx fs)) : ExI H (upd H x u) := fun b o e n => by
  by_cases hb : b = x
  · subst hb
    rw [h] at e; cases e
    exact absurd rfl (n _ _ _)
  · rw [upd_ne hb]; exact e
mutual
theorem Rp.imono (e : ExI H H') : ∀ {v : V} {d : Dt}, Rp C K H v d → nl d = true → Rp C K H' v d
  | _, _, .non, _ => .non
  | _, _, .bl b, _ => .bl b
  | _, _, .int i, _ => .int i
  | _, _, .str x, _ => .str x
  | _, _, .tup h r, p => by
    rw [nl] at p
    refine .tup ?_ (RpAll.imono e r p)
    obtain (h | ⟨o, h⟩) | h := h
    · exact .inl (.inl (e _ _ h fun _ _ _ z => by cases z))
    · exact .inl (.inr ⟨o, e _ _ h fun _ _ _ z => by cases z⟩)
    · exact .inr h
  | _, _, .lst h r, p => by
    rw [nl] at p
    exact .lst (e _ _ h fun _ _ _ z => by cases z) (RpAll.imono e r p)
  | _, _, .lot .., p => by rw [nl] at p; cases p
  | _, _, .ty n, _ => .ty n
  | _, _, .cls, _ => .cls
  | _, _, .frl h r, p => by
    rw [nl] at p
    refine .frl ?_ (RpAll.imono e r p)
    obtain (h | ⟨o, h⟩) | h := h
    · exact .inl (.inl (e _ _ h fun _ _ _ z => by cases z))
    · exact .inl (.inr ⟨o, e _ _ h fun _ _ _ z => by cases z⟩)
    · exact .inr h
  | _, _, .dic h, _ => .dic (e _ _ h fun _ _ _ z => by cases z)
  | _, _, .ttup h, _ => .ttup (e _ _ h fun _ _ _ z => by cases z)
  | _, _, .adr a, _ => .adr a
  | _, _, .tun h n r, p => by
    rw [nl] at p
    exact .tun (e _ _ h fun _ _ _ z => by cases z) n (RpAll.imono e r p)
theorem RpAll.imono (e : ExI H H') : ∀ {vs : List V} {ds : List Dt}, RpAll C K H vs ds → nls ds = true → RpAll C K H' vs ds
  | _, _, .nil, _ => .nil
  | _, _, .cons h r, p => by
    rw [nls, Bool.and_eq_true] at p
    exact .cons (Rp.imono e h p.1) (RpAll.imono e r p.2)
end
theorem SD.imono (e : ExI H H') : ∀ {σ : L2.St} {Γ : Env'}, SD C K H σ Γ → nlE Γ = true → SD C K H' σ Γ
  | _, _, .nil, _ => .nil
  | _, _, .cons (d := none) h t, p => .cons True.intro (SD.imono e t p)
  | _, _, .cons (d := some d) ⟨v, h, r⟩ t, p => by
    rw [nlE, Bool.and_eq_true] at p
    exact .cons ⟨v, h, r.imono e p.1⟩ (SD.imono e t p.2)
end
/-- all but what stands at x is as it was -/
def ExX (x : Addr) (H H' : Hp) : Prop := ∀ b o, b ≠ x → H b = some o → H' b = some o
theorem ExX.ex {x : Addr} {H H' : Hp} (e : ExX x H H') (h : H x = none) : Ex H H' := fun b o hb => e b o (fun z => by subst z; rw [h] at hb; cases hb) hb
/-- the instance at x: the fields that are known -/
structure InsAt (C : Addr) (K : PySem.W.Frag) (H0 : Hp) (x : Addr) (n : Nat) (ot or_ : Option Dt) (H : Hp) : Prop where
  ex : ExX x H0 H
  ins : ∃ dx fs, H x = some (.ins C dx fs) ∧ fs.length ≤ n ∧ (∀ d, ot = some d → ∃ v, fs.lookup ("_tree" : Str) = some v ∧ Rp C K H v d) ∧ ∀ d, or_ = some d → ∃ v, fs.lookup ("_rounds" : Str) = some v ∧ Rp C K H v d
section
variable {C : Addr} {K : PySem.W.Frag} {H0 H H' : Hp} {x : Addr} {n : Nat} {ot or_ : Option Dt}
theorem InsAt.grow : Grow (InsAt C K H0 x n ot or_) := fun H H' e h => by
  obtain ⟨h1, dx, fs, h2, h3, h4, h5⟩ := h
  refine ⟨fun b o nb hb => e _ _ (h1 b o nb hb), dx, fs, e _ _ h2, h3, fun d hd => ?_, fun d hd => ?_⟩
  · obtain ⟨v, a, b⟩ := h4 d hd
    exact ⟨v, a, b.mono e⟩
  · obtain ⟨v, a, b⟩ := h5 d hd
    exact ⟨v, a, b.mono e⟩
theorem InsAt.lot {t r : Dt} (h : InsAt C K H0 x n (some t) (some r) H) (hn : n ≤ 100) : Rp C K H (.ref x) (.lot t r) := by
  obtain ⟨h1, dx, fs, h2, h3, h4, h5⟩ := h
  obtain ⟨v, a, b⟩ := h4 t rfl
  obtain ⟨u, a', b'⟩ := h5 r rfl
  exact .lot h2 a a' b b' (Nat.le_trans h3 hn)
end
theorem putF_same {f : Str} {v u : V} : ∀ {fs : List (Str × V)}, fs.lookup f = some u → (putF f v fs).length = fs.length
  | [], h => by simp at h
  | (g, x) :: fs, h => by
    show (if g = f then (g, v) :: fs else (g, x) :: putF f v fs).length = _
    by_cases e : g = f
    · rw [if_pos e]; rfl
    · rw [if_neg e, List.length_cons, List.length_cons, putF_same (fs := fs) (u := u) ?_]
      rw [List.lookup_cons] at h
      rw [show (f == g) = false from beq_eq_false_iff_ne.mpr (fun z => e z.symm)] at h
      exact h
section
variable {C : Addr} {X : Cx} {Γ : Env'} {R : V → Hp → Prop} {o e : Expr} {pos pos' : Pos} {d : Dt} {H0 : Hp} {x : Addr} {n n' : Nat} {ot or_ : Option Dt}
theorem h1_fldT (ho : Dv C X o Γ (.adr x)) (hv : Dv C X e Γ d) (c : Cls X.K C) (na : NoAttr X.K C "_tree") (hn : n ≤ 900) (hn' : (ot.isSome = true ∧ n' = n) ∨ n' = n + 1) (hΓ : nlE Γ = true) (hd : nl d = true) (hr : ∀ d, or_ = some d → nl d = true)
    (hs : swapsWith e (some (.Attribute o "_tree" pos')) pos.line X.env = pure false := by rfl) : H1 X (.Assign [.Attribute o "_tree" pos'] e pos) (Sg C X.K Γ (InsAt C X.K H0 x n ot or_)) (Sg C X.K Γ (InsAt C X.K H0 x n' (some d) or_)) R := by
  obtain ⟨to, po, eo⟩ := ho
  obtain ⟨te, pe, ee⟩ := hv
  refine h1_of (ps_fld po pe hs) fun σ H D h q _ => ee σ H h.1 _ fun y H1 e1 r1 => eo σ H1 (h.1.mono e1) _ fun z H2 e2 r2 => ?_
  cases r2.adr_eq
  have hg := InsAt.grow _ _ (e1.trans e2) h.2
  obtain ⟨g1, dx, fs, g2, g3, g4, g5⟩ := hg
  have eI : ExI H2 (upd H2 x (.ins C dx (putF "_tree" y fs))) := ExI.of_ins g2
  refine ⟨x, C, dx, fs, rfl, g2, c, na, by omega, q _ _ ⟨(h.1.mono (e1.trans e2)).imono eI hΓ, fun b o nb hb => ?_, dx, _, upd_same, ?_, fun d' hd' => ?_, fun d' hd' => ?_⟩⟩
  · rw [upd_ne nb]; exact g1 b o nb hb
  · have := length_putF "_tree" y fs
    rcases hn' with ⟨z, rfl⟩ | rfl
    · obtain ⟨d0, hd0⟩ := Option.isSome_iff_exists.mp z
      obtain ⟨v0, a0, _⟩ := g4 d0 hd0
      rw [putF_same a0]
      exact g3
    · omega
  · cases hd'
    exact ⟨y, by rw [lookup_putF, if_pos rfl], (r1.mono e2).imono eI hd⟩
  · obtain ⟨v, a, b⟩ := g5 d' hd'
    exact ⟨v, by rw [lookup_putF, if_neg (by decide)]; exact a, b.imono eI (hr d' hd')⟩
theorem h1_fldR (ho : Dv C X o Γ (.adr x)) (hv : Dv C X e Γ d) (c : Cls X.K C) (na : NoAttr X.K C "_rounds") (hn : n ≤ 900) (hn' : (or_.isSome = true ∧ n' = n) ∨ n' = n + 1) (hΓ : nlE Γ = true) (hd : nl d = true) (hr : ∀ d, ot = some d → nl d = true)
    (hs : swapsWith e (some (.Attribute o "_rounds" pos')) pos.line X.env = pure false := by rfl) : H1 X (.Assign [.Attribute o "_rounds" pos'] e pos) (Sg C X.K Γ (InsAt C X.K H0 x n ot or_)) (Sg C X.K Γ (InsAt C X.K H0 x n' ot (some d))) R := by
  obtain ⟨to, po, eo⟩ := ho
  obtain ⟨te, pe, ee⟩ := hv
  refine h1_of (ps_fld po pe hs) fun σ H D h q _ => ee σ H h.1 _ fun y H1 e1 r1 => eo σ H1 (h.1.mono e1) _ fun z H2 e2 r2 => ?_
  cases r2.adr_eq
  have hg := InsAt.grow _ _ (e1.trans e2) h.2
  obtain ⟨g1, dx, fs, g2, g3, g4, g5⟩ := hg
  have eI : ExI H2 (upd H2 x (.ins C dx (putF "_rounds" y fs))) := ExI.of_ins g2
  refine ⟨x, C, dx, fs, rfl, g2, c, na, by omega, q _ _ ⟨(h.1.mono (e1.trans e2)).imono eI hΓ, fun b o nb hb => ?_, dx, _, upd_same, ?_, fun d' hd' => ?_, fun d' hd' => ?_⟩⟩
  · rw [upd_ne nb]; exact g1 b o nb hb
  · have := length_putF "_rounds" y fs
    rcases hn' with ⟨z, rfl⟩ | rfl
    · obtain ⟨d0, hd0⟩ := Option.isSome_iff_exists.mp z
      obtain ⟨v0, a0, _⟩ := g5 d0 hd0
      rw [putF_same a0]
      exact g3
    · omega
  · obtain ⟨v, a, b⟩ := g4 d' hd'
    exact ⟨v, by rw [lookup_putF, if_neg (by decide)]; exact a, b.imono eI (hr d' hd')⟩
  · cases hd'
    exact ⟨y, by rw [lookup_putF, if_pos rfl], (r1.mono e2).imono eI hd⟩
end
theorem Tr.nlD : ∀ t : Tr, nl t.D = true
  | .all | .side _ | .rim _ => rfl
  | .no t => by simp [Tr.D, nl, nls, Tr.nlD t]
  | .and2 a b => by simp [Tr.D, nl, nls, Tr.nlD a, Tr.nlD b]
  | .or2 a b => by simp [Tr.D, nl, nls, Tr.nlD a, Tr.nlD b]
theorem nls_rows : ∀ rs : List Rw, nls (rs.map rD) = true
  | [] => by rw [List.map_nil, nls]
  | r :: rs => by rw [List.map_cons, nls, nls_rows rs]; rfl

/-! ### the class of lots in the module -/
structure LotM (C : Addr) (K : PySem.W.Frag) : Prop where
  ft : NoAttr K C "_tree"
  fr : NoAttr K C "_rounds"
  ini : ∃ f fd, Fun K "__init__" "Lot.__init__" s_Lot_init f fd ∧ Mk K C f ∧ Binds K fd ["self", "tree"] []
  pt : ∃ p g fd, PropOf K C "tree" p g ∧ Fun K "tree" "Lot.tree" s_Lot_tree g fd ∧ Binds K fd ["self"] []
  pr : ∃ p g fd, PropOf K C "rounds" p g ∧ Fun K "rounds" "Lot.rounds" s_Lot_rounds g fd ∧ Binds K fd ["self"] []
/-- a tree that may be a lot's, its rounds -/
structure TrOk (t : Tr) (rs : List Rw) : Prop where
  dp : t.dp ≤ 6
  rg : ∀ r ∈ t.rows, Rg r
  few : t.rows.length ≤ 24
  us : ∃ U : List (List Int), U.Nodup ∧ SameSet U (t.rows.map upT) ∧ rs.map Rw.t = srt S0 U
  len : rs.length ≤ 8
abbrev lotD (t : Tr) (rs : List Rw) : Dt := .lot t.D (.tun (rs.map rD))
def R_tree (ds : List Dt) (d : Dt) : Prop := ∃ t r, ds = [.lot t r] ∧ d = t
def R_rounds (ds : List Dt) (d : Dt) : Prop := ∃ t r, ds = [.lot t r] ∧ d = r
def spI (C : Addr) (K : PySem.W.Frag) : Sp := fun vs H Q _ => ∃ x dx v t rs, vs = [.ref x, v] ∧ H x = some (.ins C dx []) ∧ Rp C K H v t.D ∧ TrOk t rs ∧ ∀ H2, ExX x H H2 → Rp C K H2 (.ref x) (lotD t rs) → Q .non H2
/-- the promises of the class -/
structure CalL (C : Addr) (P : Program) (w : World) (K : PySem.W.Frag) (mg : Str → Option Value) (base : Heap) (k : Nat) : Prop where
  ini : ∃ f fd, FnOk P w K mg base CX0 k f fd ["self", "tree"] (spI C K) ∧ Mk K C f ∧ Binds K fd ["self", "tree"] []
structure CalP (C : Addr) (P : Program) (w : World) (K : PySem.W.Frag) (mg : Str → Option Value) (base : Heap) (k : Nat) : Prop where
  tree : ∃ p g fd, PropOf K C "tree" p g ∧ FnOk P w K mg base CX0 k g fd ["self"] (spD C K R_tree) ∧ Binds K fd ["self"] []
  rounds : ∃ p g fd, PropOf K C "rounds" p g ∧ FnOk P w K mg base CX0 k g fd ["self"] (spD C K R_rounds) ∧ Binds K fd ["self"] []
section
variable {C : Addr} {X : Cx} {Γ : Env'} {e : Expr} {es : List Expr} {pos p : Pos} {t r : Dt}
theorem dv_tree {k : Nat} (c : CalP C X.prog X.w X.K X.mg X.base k) (cl : Cls X.K C) (hr : Room (k + 1) X.A) (he : Dv C X e Γ (.lot t r)) (hab : attributeBase e "tree" X.env (eval e X.env) = eval e X.env := by rfl) : Dv C X (.Attribute e "tree" pos) Γ t := by
  obtain ⟨p, g, fd, hp, F, hb⟩ := c.tree
  exact dv_prop he cl hp F ⟨t, r, rfl, rfl⟩ hr hb hab
theorem dv_rounds {k : Nat} (c : CalP C X.prog X.w X.K X.mg X.base k) (cl : Cls X.K C) (hr : Room (k + 1) X.A) (he : Dv C X e Γ (.lot t r)) (hab : attributeBase e "rounds" X.env (eval e X.env) = eval e X.env := by rfl) : Dv C X (.Attribute e "rounds" pos) Γ r := by
  obtain ⟨p, g, fd, hp, F, hb⟩ := c.rounds
  exact dv_prop he cl hp F ⟨t, r, rfl, rfl⟩ hr hb hab
/-- Lot(e) -/
theorem dvF_make {k : Nat} {tr : Tr} {rs : List Rw} (c : CalL C X.prog X.w X.K X.mg X.base k) (hm : X.mg "Lot" = some (.ref C)) (hr : Room (k + 1) X.A) (he : Dv C X e Γ tr.D) (ok : TrOk tr rs) (hg : Gl X "Lot" := by rfl)
    (hst : starEach (e :: []) X.env = (false, eval e X.env) :: starEach [] X.env := by rfl) (hpl : (backTo pos (starEach [] X.env)).any (·.1) = false := by rfl) : DvF C X (.Call (.Name "Lot" p) [e] [] pos) Γ (lotD tr rs) := by
  obtain ⟨f, fd, F, M, hb⟩ := c.ini
  obtain ⟨te, pe, ee⟩ := he
  refine ⟨_, pe_make M F hr hg hm hb .nil pass0 (pa_cons pe pa_nil hst) (by decide) hst hpl, fun σ H hs Q q => ee σ H hs _ fun v H1 e1 r1 => ?_⟩
  intro x dx hx hdx hne
  have e2 : Ex H1 (upd (upd H1 dx (.own x)) x (.ins C dx [])) := (Ex.new hdx).trans (Ex.new (by rw [upd_ne (Ne.symm hne)]; exact hx))
  exact ⟨x, dx, v, tr, rs, rfl, upd_same, r1.mono e2, ok, fun H2 eX r2 => ⟨rfl, q x H2 (none_of e1 hx) (fun b o hb => eX b o (fun z => by subst z; rw [e1 _ _ hb] at hx; cases hx) (e2 _ _ (e1 _ _ hb))) r2⟩⟩
theorem DvF.dv {d : Dt} (h : DvF C X e Γ d) : Dv C X e Γ d := by
  obtain ⟨t, p, ev⟩ := h
  exact ⟨t, p, fun σ H hs Q q => ev σ H hs Q fun a H2 _ e r => q _ H2 e r⟩
end
end K28
set_option Elab.async false
set_option linter.all false
set_option maxRecDepth 100000
set_option maxHeartbeats 0
namespace K28
open PySem PySem.Spec PyProof.Rows L2 Evl
local macro_rules | `(tactic| walk_at "bd") => `(tactic| (refine' cmul ?ha ?hb ?hc; (case ha => repeat' (first | assumption | exact Sm.lit (by decide) | apply Sm.mul | apply Sm.add | apply Sm.sub | apply Sm.neg)); (case hb => repeat' (first | assumption | exact Sm.lit (by decide) | apply Sm.mul | apply Sm.add | apply Sm.sub | apply Sm.neg)); (case hc => decide)))
section
variable {C : Addr} {P : Program} {w : World} {K : PySem.W.Frag} {mg : Str → Option Value} {base : Heap}

/-! ### what stands at a circle -/
def look : List Rw → List Int → Rw → Int
  | c :: rs, s :: ss, r => if c.t = r.t then s else look rs ss r
  | _, _, _ => 0
theorem look_at : ∀ (rs : List Rw) (ss : List Int) (c : Rw), c ∈ rs → rs.length = ss.length → ∃ i : Nat, rs[i]? = some c ∧ (∀ m : Nat, m < i → rs[m]? ≠ some c) ∧ ss[i]? = some (look rs ss c)
  | [], _, _, h, _ => by simp at h
  | r :: rs, [], _, _, h => by simp at h
  | r :: rs, s :: ss, c, h, hl => by
    by_cases e : r.t = c.t
    · have e' := Rw.t_inj e
      subst e'
      exact ⟨0, rfl, fun m hm => absurd hm (Nat.not_lt_zero m), by simp [look]⟩
    · have hc : c ∈ rs := by
        obtain z | z := List.mem_cons.mp h
        · subst z; exact absurd rfl e
        · exact z
      obtain ⟨i, h1, h2, h3⟩ := look_at rs ss c hc (by simpa using hl)
      refine ⟨i + 1, by simpa using h1, fun m hm => ?_, by simpa [look, e] using h3⟩
      cases m with
      | zero =>
        intro z
        simp at z
        subst z
        exact e rfl
      | succ m => simpa using h2 m (by omega)
theorem Lk.of {rs : List Rw} {ss : List Int} {r : Rw} (h : Rg r) (hm : upR r ∈ rs) (hl : rs.length = ss.length) : Lk rs ss (fun r => look rs ss (upR r)) r := ⟨h, look_at rs ss (upR r) hm hl⟩
theorem look_map (F : Rw → Int) : ∀ (rs : List Rw) (c : Rw), c ∈ rs → look rs (rs.map F) c = F c
  | [], _, h => by simp at h
  | r :: rs, c, h => by
    rw [List.map_cons, look]
    split
    · rename_i e
      rw [Rw.t_inj e]
    · rename_i e
      refine look_map F rs c ?_
      obtain z | z := List.mem_cons.mp h
      · subst z; exact absurd rfl e
      · exact z
theorem upT_t (r : Rw) : (upR r).t = upT r := by
  unfold upT up upR Rw.t
  show _ = if 0 < r.q then _ else _
  split <;> rfl
theorem TrOk.mem {t : Tr} {rs : List Rw} (h : TrOk t rs) {r : Rw} (hr : r ∈ t.rows) : upR r ∈ rs := by
  obtain ⟨U, hU, hS, e⟩ := h.us
  have h1 : upT r ∈ rs.map Rw.t := by
    rw [e]
    exact (srt_perm S0 U).mem_iff.mpr ((hS _).mpr (List.mem_map.mpr ⟨r, hr, rfl⟩))
  obtain ⟨c, hc, ec⟩ := List.mem_map.mp h1
  rw [← upT_t] at ec
  rw [← Rw.t_inj ec]
  exact hc
theorem TrOk.of_mem {t : Tr} {rs : List Rw} (h : TrOk t rs) {c : Rw} (hc : c ∈ rs) : ∃ r ∈ t.rows, c = upR r := by
  obtain ⟨U, hU, hS, e⟩ := h.us
  have h1 : c.t ∈ srt S0 U := by
    rw [← e]
    exact List.mem_map.mpr ⟨c, hc, rfl⟩
  obtain ⟨r, hr, er⟩ := List.mem_map.mp ((hS _).mp ((srt_perm S0 U).mem_iff.mp h1))
  refine ⟨r, hr, Rw.t_inj ?_⟩
  rw [upT_t, er]
theorem Rg.upB {r : Rw} (h : Rg r) : BR (upR r) := by
  have hb := h.ro.b
  unfold upR
  split
  · exact hb
  · exact ⟨hb.q.neg, hb.l.neg, hb.m.neg, hb.k.neg⟩
theorem rD_map (rs : List Rw) : (rs.map Rw.t).map iT = rs.map rD := by rw [List.map_map]; rfl
def R_check_many (ds : List Dt) (d : Dt) : Prop := ∃ xs : List Dt, xs.length ≤ 8 ∧ ds = [.tun xs] ∧ d = .non
def R_check_lot (ds : List Dt) (d : Dt) : Prop := ∃ t r, ds = [.lot t r] ∧ d = .non
/-- the rounds of two -/
structure R2' (rs os ro : List Rw) : Prop where
  rg : ∀ r ∈ rs ++ os, Rg r
  few : (rs ++ os).length < 64
  us : ∃ U : List (List Int), U.Nodup ∧ SameSet U ((rs ++ os).map upT) ∧ ro.map Rw.t = srt S0 U
  len : ro.length ≤ 8
def R_rounds_of_two (ds : List Dt) (d : Dt) : Prop := ∃ t rs t' rs' ro, R2' rs rs' ro ∧ ds = [lotD t rs, lotD t' rs'] ∧ d = .tun (ro.map rD)
def R_check_two_lots (ds : List Dt) (d : Dt) : Prop := ∃ t rs t' rs' ro, R2' rs rs' ro ∧ ds = [lotD t rs, lotD t' rs'] ∧ d = .non
def R_lot_with (ds : List Dt) (d : Dt) : Prop := ∃ t rs, TrOk t rs ∧ ds = [t.D] ∧ d = lotD t rs
def R_has_signs (ds : List Dt) (d : Dt) : Prop := ∃ (t : Tr) (rl : Dt) (rs : List Rw) (ss : List Int) (f : Rw → Int), t.dp ≤ 6 ∧ (∀ r ∈ t.rows, Lk rs ss f r) ∧ rs.length ≤ 8 ∧ ds = [.lot t.D rl, .tun (rs.map rD), iT ss] ∧ d = .bl (t.hv f)
def R_holds (ds : List Dt) (d : Dt) : Prop := ∃ t rs p s r, TrOk t rs ∧ Pl p s r ∧ ds = [lotD t rs, iT [p, s, r]] ∧ d = .bl (t.hv fun x => sg (val (upR x) p s r))
def R_both (ds : List Dt) (d : Dt) : Prop := ∃ t rs t' rs' ro, R2' rs rs' ro ∧ TrOk (.and2 t t') ro ∧ ds = [lotD t rs, lotD t' rs'] ∧ d = lotD (.and2 t t') ro
def R_either (ds : List Dt) (d : Dt) : Prop := ∃ t rs t' rs' ro, R2' rs rs' ro ∧ TrOk (.or2 t t') ro ∧ ds = [lotD t rs, lotD t' rs'] ∧ d = lotD (.or2 t t') ro
def R_rest (ds : List Dt) (d : Dt) : Prop := ∃ t rs, TrOk (.no t) rs ∧ ds = [lotD t rs] ∧ d = lotD (.no t) rs
def outL (p s r n m : Int) : List Int := [m * r * r, -2 * m * p * r, -2 * m * s * r, m * (p * p + s * s) - n * r * r]
def outR (p s r n m : Int) : Rw := ⟨m * r * r / (divOf (outL p s r n m) : Int), -2 * m * p * r / (divOf (outL p s r n m) : Int), -2 * m * s * r / (divOf (outL p s r n m) : Int), (m * (p * p + s * s) - n * r * r) / (divOf (outL p s r n m) : Int)⟩
def negR (r : Rw) : Rw := ⟨-r.q, -r.l, -r.m, -r.k⟩
def R_row_outside (ds : List Dt) (d : Dt) : Prop := ∃ p s r n m, Nr p s r ∧ Fr' n m ∧ ds = [iT [p, s, r], iT [n, m]] ∧ d = rD (outR p s r n m)
def R_opposite (ds : List Dt) (d : Dt) : Prop := ∃ r, ds = [rD r] ∧ d = rD (negR r)
def R_ring_sides (ds : List Dt) (d : Dt) : Prop := ∃ p s r n m n' m', Nr p s r ∧ Fr' n m ∧ Fr' n' m' ∧ ds = [iT [p, s, r], .tup [iT [n, m], iT [n', m']]] ∧ d = .lst [rD (outR p s r n m), rD (negR (outR p s r n' m'))]
def R_disc_tree (ds : List Dt) (d : Dt) : Prop := ∃ p s r n m, Nr p s r ∧ Fr' n m ∧ ds = [iT [p, s, r], iT [n, m]] ∧ d = (Tr.side (negR (outR p s r n m))).D
def R_ring_tree (ds : List Dt) (d : Dt) : Prop := ∃ p s r n m n' m', Nr p s r ∧ Fr' n m ∧ Fr' n' m' ∧ n * m' < n' * m ∧ ds = [iT [p, s, r], .tup [iT [n, m], iT [n', m']]] ∧ d = (Tr.and2 (.side (outR p s r n m)) (.side (negR (outR p s r n' m')))).D
theorem fun_okD {x qual : Str} {st : Stmt} {f : Addr} {fd : FuncData} {ps N : List Str} {k : Nat} {R : List Dt → Dt → Prop} (Fu : Fun K x qual st f fd) (S : FnScope N ps (defScope st)) (len : ∀ ds d, R ds d → ds.length = ps.length)
    (h : ∀ cdv A outer s H E, Room k (Xd P w K mg base N qual st f cdv A outer s H E).A → ∀ ds d, R ds d → Ds C (Xd P w K mg base N qual st f cdv A outer s H E) (defBody st) (env0 N ds) (.rt d)) :
    FnOk P w K mg base CX0 (k + 1) f fd ps (spD C K R) := by
  refine Fu.ok S (fun vs H Q E h => ?_) (fun cdv A outer s H vs Q E hr h' => ?_)
  · obtain ⟨ds, d, hR, rp, _⟩ := h
    rw [rp.length, len ds d hR]
  · obtain ⟨ds, d, hR, rp, q⟩ := h'
    obtain ⟨t, p, e⟩ := h cdv A outer s H E hr ds d hR
    refine ⟨t, p, e _ H ?_ _ q⟩
    unfold L2.start
    rw [rp.length]
    exact SD.of_args _ rp

abbrev N_Lot_tree : List Str := ["self"]
theorem sc_Lot_tree : FnScope N_Lot_tree ["self"] (defScope s_Lot_tree) := ⟨rfl, rfl, rfl, by decide +kernel, rfl, by decide +kernel, by decide +kernel⟩
abbrev N_Lot_rounds : List Str := ["self"]
theorem sc_Lot_rounds : FnScope N_Lot_rounds ["self"] (defScope s_Lot_rounds) := ⟨rfl, rfl, rfl, by decide +kernel, rfl, by decide +kernel, by decide +kernel⟩
theorem ok_props (M : Md C K mg) (ML : LotM C K) : CalP C P w K mg base 1 := by
  constructor
  · obtain ⟨p, g, fd, h1, h2, h3⟩ := ML.pt
    refine ⟨p, g, fd, h1, fun_okD h2 sc_Lot_tree (fun ds d h => ?_) fun cdv A outer s H E hr ds d h => ?_, h3⟩
    · obtain ⟨t, r, rfl, rfl⟩ := h
      rfl
    · obtain ⟨t, r, rfl, rfl⟩ := h
      exact ds_ret (dv_fldT (dv_var 0 rfl rfl) M.L.cl ML.ft)
  · obtain ⟨p, g, fd, h1, h2, h3⟩ := ML.pr
    refine ⟨p, g, fd, h1, fun_okD h2 sc_Lot_rounds (fun ds d h => ?_) fun cdv A outer s H E hr ds d h => ?_, h3⟩
    · obtain ⟨t, r, rfl, rfl⟩ := h
      rfl
    · obtain ⟨t, r, rfl, rfl⟩ := h
      exact ds_ret (dv_fldR (dv_var 0 rfl rfl) M.L.cl ML.fr)
theorem cb_lenU {X : Cx} {us : List Dt} : CallD C X (.builtin "len") [.tun us] (.int (us.length : Int)) := by
  obtain ⟨r, h1, h2⟩ := cb_lenT (C := C) (X := X) (us := us)
  refine ⟨r, h1, fun vs H Q rp q => ?_⟩
  obtain ⟨v, rfl, r1⟩ := rp.one
  exact h2 [v] H Q (.cons r1.ofTN .nil) q
abbrev N_check_many : List Str := ["rounds"]
theorem sc_check_many : FnScope N_check_many ["rounds"] (defScope s_check_many) := ⟨rfl, rfl, rfl, by decide +kernel, rfl, by decide +kernel, by decide +kernel⟩
theorem ok_check_many (M : Md C K mg) (T : Top K mg "check_many" s_check_many ["rounds"]) : CalD C P w K mg base 1 "check_many" ["rounds"] R_check_many := by
  refine T.okN sc_check_many (fun ds d h => ?_) fun f cdv A outer s H E hr ds d h => ?_
  · obtain ⟨xs, hl, rfl, rfl⟩ := h
    rfl
  · obtain ⟨xs, hl, rfl, rfl⟩ := h
    refine' ⟨rfl, _, ?_⟩
    rotate_left
    refine ds_ifF (dp_is (dp_cmp (dv_callB cb_lenU M.len bt_len (da_cons (dv_var 0 rfl rfl) da_nil)) (dv_glob M.rounds rfl) cd_gt (nomark _)) ?_) ?_
    · exact decide_eq_false (by omega)
    exact ds_nil
abbrev N_check_lot : List Str := ["value"]
theorem sc_check_lot : FnScope N_check_lot ["value"] (defScope s_check_lot) := ⟨rfl, rfl, rfl, by decide +kernel, rfl, by decide +kernel, by decide +kernel⟩
theorem ok_check_lot (M : Md C K mg) (T : Top K mg "check_lot" s_check_lot ["value"]) : CalD C P w K mg base 1 "check_lot" ["value"] R_check_lot := by
  refine T.okN sc_check_lot (fun ds d h => ?_) fun f cdv A outer s H E hr ds d h => ?_
  · obtain ⟨t, r, rfl, rfl⟩ := h
    rfl
  · obtain ⟨t, r, rfl, rfl⟩ := h
    refine' ⟨rfl, _, ?_⟩
    rotate_left
    refine ds_ifF (dp_is (dp_not (dp_val (dv_callB (cb_isLot M.L) M.isinstance bt_isinstance (da_cons (dv_var 0 rfl rfl) (da_cons (dv_cls M.lot) da_nil))))) ?_) ?_
    · rfl
    exact ds_nil
abbrev N_Lot_init : List Str := ["self", "tree", "found"]
theorem sc_Lot_init : FnScope N_Lot_init ["self", "tree"] (defScope s_Lot_init) := ⟨rfl, rfl, rfl, by decide +kernel, rfl, by decide +kernel, by decide +kernel⟩
theorem ok_init (M : Md C K mg) (ML : LotM C K) (c_is_tree : CalD C P w K mg base 10 "is_tree" ["value", "deep"] (R_is_tree 6)) (c_leaf_rows : CalF C P w K mg base 8 "leaf_rows" ["tree"] (R_leaf_rows 6)) (c_merged : CalD C P w K mg base 4 "merged" ["rounds", "others"] R_merged) (c_check_many : CalD C P w K mg base 1 "check_many" ["rounds"] R_check_many) : CalL C P w K mg base 11 := by
  obtain ⟨f, fd, Fu, mk, hb⟩ := ML.ini
  refine ⟨f, fd, Fu.ok sc_Lot_init (fun vs H Q E h => ?_) (fun cdv A outer s H vs Q E hr h => ?_), mk, hb⟩
  · obtain ⟨x, dx, v, t, rs, rfl, _⟩ := h
    rfl
  · obtain ⟨x, dx, v, t, rs, rfl, hx, rv, ok, q⟩ := h
    obtain ⟨U, hU, hS, eU⟩ := ok.us
    have body : Hs (Xd P w K mg base N_Lot_init "Lot.__init__" s_Lot_init f cdv A outer s H E) (defBody s_Lot_init) (Sg C K [some (.adr x), some t.D, none] (InsAt C K H x 0 none none)) (Sg C K [some (.adr x), some t.D, some (.tun (rs.map rD))] (InsAt C K H x 2 (some t.D) (some (.tun (rs.map rD))))) (fun _ _ => False) := by
      refine hs_cons (h1_d (d1_if (o := .nx _) (k := false) (dp_is (dp_w (dw_or (dp_not (dp_val (dv_call c_is_tree (hr.mono (by decide)) (da_cons (dv_var 1 rfl rfl) (da_cons (dv_glob M.deep rfl) da_nil)) ⟨t, 6, ok.dp, Nat.le_refl _, by decide, fun r h => (ok.rg r h).ro, rfl, rfl⟩))) fun _ => (dw_or1 (dp_cmp (dv_callB cb_lenL M.len bt_len (da_cons (dv_call c_leaf_rows.d (hr.mono (by decide)) (da_cons (dv_var 1 rfl rfl) da_nil) ⟨t, ok.dp, by have := ok.few; omega, rfl, rfl⟩) da_nil)) (dv_glob M.leaves rfl) cd_gt (nomark _))))) ?_) (fun z => nomatch z) fun _ => ds_nil) InsAt.grow) ?_
      · rw [Bool.not_true, Bool.false_or]
        refine decide_eq_false ?_
        have := ok.few
        rw [List.length_map]
        omega
      refine hs_cons (h1_d (d1_set 2 (dv_is (dv_call c_merged (hr.mono (by decide)) (da_cons (dv_call c_leaf_rows.d (hr.mono (by decide)) (da_cons (dv_var 1 rfl rfl) da_nil) ⟨t, ok.dp, by have := ok.few; omega, rfl, rfl⟩) (da_cons (dv_lst da_nil) da_nil)) ⟨t.rows, [], fun r h => ok.rg r (by simpa using h), by have := ok.few; simp; omega, .inl rfl, U, hU, by simpa using hS, rfl⟩) (show _ = Dt.tun (rs.map rD) by rw [← rD_map, eU])) rfl sc_Lot_init.nd) InsAt.grow) ?_
      refine hs_cons (h1_d (d1_expr (dv_call c_check_many (hr.mono (by decide)) (da_cons (dv_var 2 rfl rfl) da_nil) ⟨rs.map rD, by rw [List.length_map]; exact ok.len, rfl, rfl⟩)) InsAt.grow) ?_
      have hnl : nlE [some (.adr x), some t.D, some (.tun (rs.map rD))] = true := by simp [nlE, nl, Tr.nlD, nls_rows]
      have hnr : nl (.tun (rs.map rD)) = true := by simp [nl, nls_rows]
      refine hs_cons (h1_fldT (n' := 1) (dv_var 0 rfl rfl) (dv_var 1 rfl rfl) M.L.cl ML.ft (by decide) (.inr rfl) hnl (Tr.nlD t) (fun d hd => by cases hd)) ?_
      refine hs_cons (h1_fldR (n' := 2) (dv_var 0 rfl rfl) (dv_var 2 rfl rfl) M.L.cl ML.fr (by decide) (.inr rfl) hnl hnr (fun d hd => by cases hd; exact Tr.nlD t)) hs_nil
    refine ⟨_, body, ⟨?_, fun _ _ _ z => z, dx, [], hx, Nat.le_refl _, (fun d z => nomatch z), (fun d z => nomatch z)⟩, fun σ' H' h => q H' h.2.ex (h.2.lot (by decide)), fun _ _ z => z.elim⟩
    exact .cons ⟨_, rfl, .adr x⟩ (.cons ⟨_, rfl, rv⟩ (.cons True.intro .nil))
abbrev N_rounds_of_two : List Str := ["lot", "other", "found"]
theorem sc_rounds_of_two : FnScope N_rounds_of_two ["lot", "other"] (defScope s_rounds_of_two) := ⟨rfl, rfl, rfl, by decide +kernel, rfl, by decide +kernel, by decide +kernel⟩
theorem ok_rounds_of_two (M : Md C K mg) (ML : LotM C K) (T : Top K mg "rounds_of_two" s_rounds_of_two ["lot", "other"]) (c_merged : CalD C P w K mg base 4 "merged" ["rounds", "others"] R_merged) (c_check_many : CalD C P w K mg base 1 "check_many" ["rounds"] R_check_many) (c_P : CalP C P w K mg base 1) : CalD C P w K mg base 5 "rounds_of_two" ["lot", "other"] R_rounds_of_two := by
  refine T.ok sc_rounds_of_two (fun ds d h => ?_) fun f cdv A outer s H E hr ds d h => ?_
  · obtain ⟨t, rs, t2, rs2, ro, h2, rfl, rfl⟩ := h
    rfl
  · obtain ⟨t, rs, t2, rs2, ro, h2, rfl, rfl⟩ := h
    obtain ⟨U, hU, hS, eU⟩ := h2.us
    refine ds_set 2 rfl sc_rounds_of_two.nd (dv_is (dv_call c_merged (hr.mono (by decide)) (da_cons (dv_ofTN (dv_rounds c_P M.L.cl (hr.mono (by decide)) (dv_var 0 rfl rfl))) (da_cons (dv_ofTN (dv_rounds c_P M.L.cl (hr.mono (by decide)) (dv_var 1 rfl rfl))) da_nil)) ⟨rs, rs2, h2.rg, h2.few, .inr rfl, U, hU, hS, rfl⟩) (show _ = Dt.tun (ro.map rD) by rw [← rD_map, eU])) ?_
    refine ds_expr (dv_call c_check_many (hr.mono (by decide)) (da_cons (dv_var 2 rfl rfl) da_nil) ⟨ro.map rD, by rw [List.length_map]; exact h2.len, rfl, rfl⟩) ?_
    exact ds_ret (dv_var 2 rfl rfl)
abbrev N_check_two_lots : List Str := ["lot", "other"]
theorem sc_check_two_lots : FnScope N_check_two_lots ["lot", "other"] (defScope s_check_two_lots) := ⟨rfl, rfl, rfl, by decide +kernel, rfl, by decide +kernel, by decide +kernel⟩
theorem ok_check_two_lots (M : Md C K mg) (ML : LotM C K) (T : Top K mg "check_two_lots" s_check_two_lots ["lot", "other"]) (c_check_lot : CalD C P w K mg base 1 "check_lot" ["value"] R_check_lot) (c_rounds_of_two : CalD C P w K mg base 5 "rounds_of_two" ["lot", "other"] R_rounds_of_two) : CalD C P w K mg base 6 "check_two_lots" ["lot", "other"] R_check_two_lots := by
  refine T.okN sc_check_two_lots (fun ds d h => ?_) fun f cdv A outer s H E hr ds d h => ?_
  · obtain ⟨t, rs, t2, rs2, ro, h2, rfl, rfl⟩ := h
    rfl
  · obtain ⟨t, rs, t2, rs2, ro, h2, rfl, rfl⟩ := h
    refine' ⟨rfl, _, ?_⟩
    rotate_left
    refine ds_expr (dv_call c_check_lot (hr.mono (by decide)) (da_cons (dv_var 0 rfl rfl) da_nil) ⟨_, _, rfl, rfl⟩) ?_
    refine ds_expr (dv_call c_check_lot (hr.mono (by decide)) (da_cons (dv_var 1 rfl rfl) da_nil) ⟨_, _, rfl, rfl⟩) ?_
    refine ds_expr (dv_call c_rounds_of_two (hr.mono (by decide)) (da_cons (dv_var 0 rfl rfl) (da_cons (dv_var 1 rfl rfl) da_nil)) ⟨t, rs, t2, rs2, ro, h2, rfl, rfl⟩) ?_
    exact ds_nil
abbrev N_lot_with : List Str := ["tree", "found"]
theorem sc_lot_with : FnScope N_lot_with ["tree"] (defScope s_lot_with) := ⟨rfl, rfl, rfl, by decide +kernel, rfl, by decide +kernel, by decide +kernel⟩
theorem ok_lot_with (M : Md C K mg) (ML : LotM C K) (T : Top K mg "lot_with" s_lot_with ["tree"]) (c_L : CalL C P w K mg base 11) (c_leaf_rows : CalF C P w K mg base 8 "leaf_rows" ["tree"] (R_leaf_rows 6)) (c_merged : CalD C P w K mg base 4 "merged" ["rounds", "others"] R_merged) : CalD C P w K mg base 13 "lot_with" ["tree"] R_lot_with := by
  refine T.okH sc_lot_with (fun ds d h => ?_) fun f cdv A outer s H E hr ds d h H0 => ?_
  · obtain ⟨t, rs, ok, rfl, rfl⟩ := h
    rfl
  · obtain ⟨t, rs, ok, rfl, rfl⟩ := h
    obtain ⟨U, hU, hS, eU⟩ := ok.us
    have okA : TrOk .all [] := ⟨by decide, fun r h => by simp [Tr.rows] at h, by decide, ⟨[], List.nodup_nil, fun x => by simp [Tr.rows], by simp [srt]⟩, by decide⟩
    refine hs_cons (Ψ' := fun σ H => ∃ x, H0 x = none ∧ Sg C K [some t.D, some (.adr x)] (InsAt C K H0 x 100 (some Tr.all.D) (some (.tun []))) σ H) ?_ ?_
    · obtain ⟨tm, pm, em⟩ := dvF_make (C := C) (X := Xd P w K mg base N_lot_with "lot_with" s_lot_with f cdv A outer s H E) (Γ := env0 N_lot_with [t.D]) (tr := .all) (rs := []) c_L M.lot (hr.mono (by decide)) (dv_tup (da_cons dv_str da_nil)) okA
      refine h1_of (ps_set (i := 1) sc_lot_with.nd rfl (Or.inl rfl) pm) fun σ H D h q _ => em σ H h.1 _ fun a H2 ha e r => q _ _ ⟨a, none_of h.2 ha, (h.1.mono e).set (.adr a) 1, ?_⟩
      cases r with
      | lot g1 g2 g3 g4 g5 g6 => exact ⟨fun b o _ hb => e _ _ (h.2 b o hb), _, _, g1, g6, fun d hd => by cases hd; exact ⟨_, g2, g4⟩, fun d hd => by cases hd; exact ⟨_, g3, g5⟩⟩
    refine hs_ex fun x => ?_
    have hnl : nlE [some t.D, some (.adr x)] = true := by simp [nlE, nl, Tr.nlD]
    have hnr : nl (.tun (rs.map rD)) = true := by simp [nl, nls_rows]
    have pull : ∀ {Φ : Asn} {sts : List Stmt} {Ψ : Asn} {R : V → Hp → Prop} {X : Cx}, (H0 x = none → Hs X sts Φ Ψ R) → Hs X sts (fun σ H => H0 x = none ∧ Φ σ H) Ψ R := fun h => ⟨fun pins s σ H D I ⟨⟨z, p⟩, q, r⟩ => (h z).run pins s σ H D I ⟨p, q, r⟩⟩
    refine pull fun hx => ?_
    refine hs_cons (h1_fldT (n' := 100) (dv_var 1 rfl rfl) (dv_var 0 rfl rfl) M.L.cl ML.ft (by decide) (.inl ⟨rfl, rfl⟩) hnl (Tr.nlD t) (fun d hd => by cases hd; rfl)) ?_
    refine hs_cons (h1_fldR (n' := 100) (dv_var 1 rfl rfl) (dv_is (dv_call c_merged (hr.mono (by decide)) (da_cons (dv_call c_leaf_rows.d (hr.mono (by decide)) (da_cons (dv_var 0 rfl rfl) da_nil) ⟨t, ok.dp, by have := ok.few; omega, rfl, rfl⟩) (da_cons (dv_lst da_nil) da_nil)) ⟨t.rows, [], fun r h => ok.rg r (by simpa using h), by have := ok.few; simp; omega, .inl rfl, U, hU, by simpa using hS, rfl⟩) (show _ = Dt.tun (rs.map rD) by rw [← rD_map, eU])) M.L.cl ML.fr (by decide) (.inl ⟨rfl, rfl⟩) hnl hnr (fun d hd => by cases hd; exact Tr.nlD t)) ?_
    refine hs_retE (pe_var (i := 1) rfl (Or.inl rfl) (by decide) (by decide)) fun σ H h Q q => ?_
    obtain ⟨v, h1, h2⟩ := h.1.get (i := 1) rfl
    cases h2.adr_eq
    exact ⟨_, h1, q _ _ ⟨h.2.ex.ex hx, h.2.lot (by decide)⟩⟩
abbrev N_has_signs : List Str := ["lot", "rounds", "signs"]
theorem sc_has_signs : FnScope N_has_signs ["lot", "rounds", "signs"] (defScope s_has_signs) := ⟨rfl, rfl, rfl, by decide +kernel, rfl, by decide +kernel, by decide +kernel⟩
theorem ok_has_signs (M : Md C K mg) (ML : LotM C K) (T : Top K mg "has_signs" s_has_signs ["lot", "rounds", "signs"]) (c_tree_holds : CalD C P w K mg base 10 "tree_holds" ["tree", "rounds", "signs"] (R_tree_holds 6)) (c_P : CalP C P w K mg base 1) : CalD C P w K mg base 11 "has_signs" ["lot", "rounds", "signs"] R_has_signs := by
  refine T.ok sc_has_signs (fun ds d h => ?_) fun f cdv A outer s H E hr ds d h => ?_
  · obtain ⟨t, rl, rs, ss, fz, h1, h2, h3, rfl, rfl⟩ := h
    rfl
  · obtain ⟨t, rl, rs, ss, fz, h1, h2, h3, rfl, rfl⟩ := h
    exact ds_ret (dv_call c_tree_holds (hr.mono (by decide)) (da_cons (dv_tree c_P M.L.cl (hr.mono (by decide)) (dv_var 0 rfl rfl)) (da_cons (dv_var 1 rfl rfl) (da_cons (dv_var 2 rfl rfl) da_nil))) ⟨t, rs, ss, fz, h1, h2, h3, rfl, rfl⟩)
abbrev N_holds : List Str := ["lot", "place"]
theorem sc_holds : FnScope N_holds ["lot", "place"] (defScope s_holds) := ⟨rfl, rfl, rfl, by decide +kernel, rfl, by decide +kernel, by decide +kernel⟩
theorem ok_holds (M : Md C K mg) (ML : LotM C K) (T : Top K mg "holds" s_holds ["lot", "place"]) (c_check_lot : CalD C P w K mg base 1 "check_lot" ["value"] R_check_lot) (c_check_place : CalD C P w K mg base 4 "check_place" ["value"] R_check_place) (c_has_signs : CalD C P w K mg base 11 "has_signs" ["lot", "rounds", "signs"] R_has_signs) (c_signs_at : CalD C P w K mg base 2 "signs_at" ["rounds", "place"] R_signs_at) (c_P : CalP C P w K mg base 1) : CalD C P w K mg base 12 "holds" ["lot", "place"] R_holds := by
  refine T.ok sc_holds (fun ds d h => ?_) fun f cdv A outer s H E hr ds d h => ?_
  · obtain ⟨t, rs, p, s2, r, ok, hp, rfl, rfl⟩ := h
    rfl
  · obtain ⟨t, rs, p, s2, r, ok, hp, rfl, rfl⟩ := h
    have hB : ∀ c ∈ rs, BR c := fun c hc => by
      obtain ⟨x, hx, rfl⟩ := ok.of_mem hc
      exact (ok.rg x hx).upB
    refine ds_expr (dv_call c_check_lot (hr.mono (by decide)) (da_cons (dv_var 0 rfl rfl) da_nil) ⟨_, _, rfl, rfl⟩) ?_
    refine ds_expr (dv_call c_check_place (hr.mono (by decide)) (da_cons (dv_var 1 rfl rfl) da_nil) ⟨p, s2, r, hp, rfl, rfl⟩) ?_
    refine ds_ret (dv_call c_has_signs (hr.mono (by decide)) (da_cons (dv_var 0 rfl rfl) (da_cons (dv_rounds c_P M.L.cl (hr.mono (by decide)) (dv_var 0 rfl rfl)) (da_cons (dv_call c_signs_at (hr.mono (by decide)) (da_cons (dv_ofTN (dv_rounds c_P M.L.cl (hr.mono (by decide)) (dv_var 0 rfl rfl))) (da_cons (dv_var 1 rfl rfl) da_nil)) ⟨rs, p, s2, r, hB, by have := ok.len; omega, hp.1, rfl, rfl⟩) da_nil))) ⟨t, _, rs, _, _, ok.dp, fun x hx => ⟨ok.rg x hx, ?_⟩, ok.len, rfl, rfl⟩)
    obtain ⟨i, h1, h2, h3⟩ := look_at rs (rs.map fun c => sg (val c p s2 r)) (upR x) (ok.mem hx) (by rw [List.length_map])
    refine ⟨i, h1, h2, ?_⟩
    rw [h3, look_map _ rs _ (ok.mem hx)]
abbrev N_both : List Str := ["lot", "other"]
theorem sc_both : FnScope N_both ["lot", "other"] (defScope s_both) := ⟨rfl, rfl, rfl, by decide +kernel, rfl, by decide +kernel, by decide +kernel⟩
theorem ok_both (M : Md C K mg) (ML : LotM C K) (T : Top K mg "both" s_both ["lot", "other"]) (c_check_two_lots : CalD C P w K mg base 6 "check_two_lots" ["lot", "other"] R_check_two_lots) (c_lot_with : CalD C P w K mg base 13 "lot_with" ["tree"] R_lot_with) (c_P : CalP C P w K mg base 1) : CalD C P w K mg base 14 "both" ["lot", "other"] R_both := by
  refine T.ok sc_both (fun ds d h => ?_) fun f cdv A outer s H E hr ds d h => ?_
  · obtain ⟨t, rs, t2, rs2, ro, h2, ok, rfl, rfl⟩ := h
    rfl
  · obtain ⟨t, rs, t2, rs2, ro, h2, ok, rfl, rfl⟩ := h
    refine ds_expr (dv_call c_check_two_lots (hr.mono (by decide)) (da_cons (dv_var 0 rfl rfl) (da_cons (dv_var 1 rfl rfl) da_nil)) ⟨t, rs, t2, rs2, ro, h2, rfl, rfl⟩) ?_
    exact ds_ret (dv_call c_lot_with (hr.mono (by decide)) (da_cons (dv_tup (da_cons dv_str (da_cons (dv_tup (da_cons (dv_tree c_P M.L.cl (hr.mono (by decide)) (dv_var 0 rfl rfl)) (da_cons (dv_tree c_P M.L.cl (hr.mono (by decide)) (dv_var 1 rfl rfl)) da_nil))) da_nil))) da_nil) ⟨.and2 t t2, ro, ok, rfl, rfl⟩)
abbrev N_either : List Str := ["lot", "other"]
theorem sc_either : FnScope N_either ["lot", "other"] (defScope s_either) := ⟨rfl, rfl, rfl, by decide +kernel, rfl, by decide +kernel, by decide +kernel⟩
theorem ok_either (M : Md C K mg) (ML : LotM C K) (T : Top K mg "either" s_either ["lot", "other"]) (c_check_two_lots : CalD C P w K mg base 6 "check_two_lots" ["lot", "other"] R_check_two_lots) (c_lot_with : CalD C P w K mg base 13 "lot_with" ["tree"] R_lot_with) (c_P : CalP C P w K mg base 1) : CalD C P w K mg base 14 "either" ["lot", "other"] R_either := by
  refine T.ok sc_either (fun ds d h => ?_) fun f cdv A outer s H E hr ds d h => ?_
  · obtain ⟨t, rs, t2, rs2, ro, h2, ok, rfl, rfl⟩ := h
    rfl
  · obtain ⟨t, rs, t2, rs2, ro, h2, ok, rfl, rfl⟩ := h
    refine ds_expr (dv_call c_check_two_lots (hr.mono (by decide)) (da_cons (dv_var 0 rfl rfl) (da_cons (dv_var 1 rfl rfl) da_nil)) ⟨t, rs, t2, rs2, ro, h2, rfl, rfl⟩) ?_
    exact ds_ret (dv_call c_lot_with (hr.mono (by decide)) (da_cons (dv_tup (da_cons dv_str (da_cons (dv_tup (da_cons (dv_tree c_P M.L.cl (hr.mono (by decide)) (dv_var 0 rfl rfl)) (da_cons (dv_tree c_P M.L.cl (hr.mono (by decide)) (dv_var 1 rfl rfl)) da_nil))) da_nil))) da_nil) ⟨.or2 t t2, ro, ok, rfl, rfl⟩)
abbrev N_rest : List Str := ["lot"]
theorem sc_rest : FnScope N_rest ["lot"] (defScope s_rest) := ⟨rfl, rfl, rfl, by decide +kernel, rfl, by decide +kernel, by decide +kernel⟩
theorem ok_rest (M : Md C K mg) (ML : LotM C K) (T : Top K mg "rest" s_rest ["lot"]) (c_check_lot : CalD C P w K mg base 1 "check_lot" ["value"] R_check_lot) (c_lot_with : CalD C P w K mg base 13 "lot_with" ["tree"] R_lot_with) (c_P : CalP C P w K mg base 1) : CalD C P w K mg base 14 "rest" ["lot"] R_rest := by
  refine T.ok sc_rest (fun ds d h => ?_) fun f cdv A outer s H E hr ds d h => ?_
  · obtain ⟨t, rs, ok, rfl, rfl⟩ := h
    rfl
  · obtain ⟨t, rs, ok, rfl, rfl⟩ := h
    refine ds_expr (dv_call c_check_lot (hr.mono (by decide)) (da_cons (dv_var 0 rfl rfl) da_nil) ⟨_, _, rfl, rfl⟩) ?_
    exact ds_ret (dv_call c_lot_with (hr.mono (by decide)) (da_cons (dv_tup (da_cons dv_str (da_cons (dv_tree c_P M.L.cl (hr.mono (by decide)) (dv_var 0 rfl rfl)) da_nil))) da_nil) ⟨.no t, rs, ok, rfl, rfl⟩)
abbrev N_row_outside : List Str := ["pole", "square", "p", "s", "r", "number", "below"]
theorem sc_row_outside : FnScope N_row_outside ["pole", "square"] (defScope s_row_outside) := ⟨rfl, rfl, rfl, by decide +kernel, rfl, by decide +kernel, by decide +kernel⟩
theorem out_gd {p s r n m : Int} (h : Nr p s r) (f : Fr' n m) : Gd (outL p s r n m) := by
  obtain ⟨⟨h1, h2, h3⟩, h4, h5⟩ := h
  have a1 := f.sn
  have a2 := f.sm
  refine ⟨by simp [outL], fun x hx => ?_, m * r * r, by simp [outL], ?_⟩
  · simp only [outL, List.mem_cons, List.not_mem_nil, or_false] at hx
    have k2 : Sm 10 (-2) := Sm.lit (by decide)
    rcases hx with rfl | rfl | rfl | rfl
    · exact ((a2.mul h3).mul h3).mono (by decide)
    · exact (((k2.mul a2).mul h1).mul h3).mono (by decide)
    · exact (((k2.mul a2).mul h2).mul h3).mono (by decide)
    · exact ((a2.mul ((h1.mul h1).add (h2.mul h2))).sub ((a1.mul h3).mul h3)).mono (by decide)
  · have := f.m0
    exact Int.mul_ne_zero (Int.mul_ne_zero (by omega) (by omega)) (by omega)
theorem ok_row_outside (M : Md C K mg) (T : Top K mg "row_outside" s_row_outside ["pole", "square"]) (c_lowest : CalD C P w K mg base 2 "lowest" ["numbers"] R_lowest) : CalD C P w K mg base 3 "row_outside" ["pole", "square"] R_row_outside := by
  refine T.ok sc_row_outside (fun ds d h => ?_) fun f cdv A outer s H E hr ds d h => ?_
  · obtain ⟨p, s2, r, n, m, hn, hf, rfl, rfl⟩ := h
    rfl
  · obtain ⟨p, s2, r, n, m, hn, hf, rfl, rfl⟩ := h
    have gd := out_gd hn hf
    obtain ⟨⟨h1, h2, h3⟩, h4, h5⟩ := hn
    have a1 := hf.sn
    have a2 := hf.sm
    refine ds_asg (dv_tup (da_cons (dv_var 0 rfl rfl) (da_cons (dv_var 1 rfl rfl) da_nil))) (dg_tup rfl (dgs_cons (dg_tup rfl (dgs_cons (dg_name 2 rfl sc_row_outside.nd) (dgs_cons (dg_name 3 rfl sc_row_outside.nd) (dgs_cons (dg_name 4 rfl sc_row_outside.nd) dgs_nil)))) (dgs_cons (dg_tup rfl (dgs_cons (dg_name 5 rfl sc_row_outside.nd) (dgs_cons (dg_name 6 rfl sc_row_outside.nd) dgs_nil))) dgs_nil))) ?_
    exact ds_ret (dv_is (dv_call c_lowest (hr.mono (by decide)) (da_cons (dv_tup (da_cons (dv_mul (dv_mul (dv_var 6 rfl rfl) (dv_var 4 rfl rfl) (by walk_at "bd")) (dv_var 4 rfl rfl) (by walk_at "bd")) (da_cons (dv_mul (dv_mul (dv_mul (dv_neg dv_int) (dv_var 6 rfl rfl) (by walk_at "bd")) (dv_var 2 rfl rfl) (by walk_at "bd")) (dv_var 4 rfl rfl) (by walk_at "bd")) (da_cons (dv_mul (dv_mul (dv_mul (dv_neg dv_int) (dv_var 6 rfl rfl) (by walk_at "bd")) (dv_var 3 rfl rfl) (by walk_at "bd")) (dv_var 4 rfl rfl) (by walk_at "bd")) (da_cons (dv_sub (dv_mul (dv_var 6 rfl rfl) (dv_add (dv_mul (dv_var 2 rfl rfl) (dv_var 2 rfl rfl) (by walk_at "bd")) (dv_mul (dv_var 3 rfl rfl) (dv_var 3 rfl rfl) (by walk_at "bd"))) (by walk_at "bd")) (dv_mul (dv_mul (dv_var 5 rfl rfl) (dv_var 4 rfl rfl) (by walk_at "bd")) (dv_var 4 rfl rfl) (by walk_at "bd"))) da_nil))))) da_nil) ⟨outL p s2 r n m, gd, rfl, rfl⟩) rfl)
abbrev N_opposite : List Str := ["row", "number"]
theorem sc_opposite : FnScope N_opposite ["row"] (defScope s_opposite) := ⟨rfl, rfl, rfl, by decide +kernel, rfl, by decide +kernel, by decide +kernel⟩
theorem ok_opposite (M : Md C K mg) (T : Top K mg "opposite" s_opposite ["row"]) : CalD C P w K mg base 1 "opposite" ["row"] R_opposite := by
  refine T.ok sc_opposite (fun ds d h => ?_) fun f cdv A outer s H E hr ds d h => ?_
  · obtain ⟨r, rfl, rfl⟩ := h
    rfl
  · obtain ⟨r, rfl, rfl⟩ := h
    refine ds_ret (dv_is (dv_callTy cb_tupL M.tuple bt_tuple (da_cons (dv_lc1 1 (fun d => match d with | .int n => .int (-n) | _ => .non) (ds := r.t.map .int) (wk_tup (dv_var 0 rfl rfl)) rfl sc_opposite.nd rfl (blkOk_by (N := N_opposite) (sc := defScope s_opposite) (by decide +kernel)) rfl (by simp [Rw.t]) (fun d hd s H c cl fp => ?_) (fun d hd => ?_)) da_nil)) ?_)
    · obtain ⟨x, hx, rfl⟩ := List.mem_map.mp hd
      exact (dv_neg (dv_var 1 rfl rfl))
    · obtain ⟨x, hx, rfl⟩ := List.mem_map.mp hd
      rfl
    rfl
abbrev N_ring_sides : List Str := ["pole", "ring"]
theorem sc_ring_sides : FnScope N_ring_sides ["pole", "ring"] (defScope s_ring_sides) := ⟨rfl, rfl, rfl, by decide +kernel, rfl, by decide +kernel, by decide +kernel⟩
theorem ok_ring_sides (M : Md C K mg) (T : Top K mg "ring_sides" s_ring_sides ["pole", "ring"]) (c_row_outside : CalD C P w K mg base 3 "row_outside" ["pole", "square"] R_row_outside) (c_opposite : CalD C P w K mg base 1 "opposite" ["row"] R_opposite) : CalD C P w K mg base 4 "ring_sides" ["pole", "ring"] R_ring_sides := by
  refine T.ok sc_ring_sides (fun ds d h => ?_) fun f cdv A outer s H E hr ds d h => ?_
  · obtain ⟨p, s2, r, n, m, n2, m2, hn, hf, hf2, rfl, rfl⟩ := h
    rfl
  · obtain ⟨p, s2, r, n, m, n2, m2, hn, hf, hf2, rfl, rfl⟩ := h
    exact ds_ret (dv_lst (da_cons (dv_call c_row_outside (hr.mono (by decide)) (da_cons (dv_var 0 rfl rfl) (da_cons (dv_ixT (dv_var 1 rfl rfl) dv_int rfl) da_nil)) ⟨p, s2, r, n, m, hn, hf, rfl, rfl⟩) (da_cons (dv_call c_opposite (hr.mono (by decide)) (da_cons (dv_call c_row_outside (hr.mono (by decide)) (da_cons (dv_var 0 rfl rfl) (da_cons (dv_ixT (dv_var 1 rfl rfl) dv_int rfl) da_nil)) ⟨p, s2, r, n2, m2, hn, hf2, rfl, rfl⟩) da_nil) ⟨_, rfl, rfl⟩) da_nil)))
abbrev N_disc_tree : List Str := ["pole", "square"]
theorem sc_disc_tree : FnScope N_disc_tree ["pole", "square"] (defScope s_disc_tree) := ⟨rfl, rfl, rfl, by decide +kernel, rfl, by decide +kernel, by decide +kernel⟩
theorem ok_disc_tree (M : Md C K mg) (T : Top K mg "disc_tree" s_disc_tree ["pole", "square"]) (c_check_ratio : CalD C P w K mg base 5 "check_ratio" ["value"] R_check_ratio) (c_is_fraction : CalD C P w K mg base 3 "is_fraction" ["value"] R_is_fraction) (c_row_outside : CalD C P w K mg base 3 "row_outside" ["pole", "square"] R_row_outside) (c_opposite : CalD C P w K mg base 1 "opposite" ["row"] R_opposite) : CalD C P w K mg base 6 "disc_tree" ["pole", "square"] R_disc_tree := by
  refine T.ok sc_disc_tree (fun ds d h => ?_) fun f cdv A outer s H E hr ds d h => ?_
  · obtain ⟨p, s2, r, n, m, hn, hf, rfl, rfl⟩ := h
    rfl
  · obtain ⟨p, s2, r, n, m, hn, hf, rfl, rfl⟩ := h
    refine ds_expr (dv_call c_check_ratio (hr.mono (by decide)) (da_cons (dv_var 0 rfl rfl) da_nil) ⟨p, s2, r, hn, rfl, rfl⟩) ?_
    refine ds_ifF (dp_is (dp_not (dp_val (dv_call c_is_fraction (hr.mono (by decide)) (da_cons (dv_var 1 rfl rfl) da_nil) ⟨n, m, hf, rfl, rfl⟩))) rfl) ?_
    exact ds_ret (dv_tup (da_cons dv_str (da_cons (dv_call c_opposite (hr.mono (by decide)) (da_cons (dv_call c_row_outside (hr.mono (by decide)) (da_cons (dv_var 0 rfl rfl) (da_cons (dv_var 1 rfl rfl) da_nil)) ⟨p, s2, r, n, m, hn, hf, rfl, rfl⟩) da_nil) ⟨_, rfl, rfl⟩) da_nil)))
abbrev N_ring_tree : List Str := ["pole", "ring", "row"]
theorem sc_ring_tree : FnScope N_ring_tree ["pole", "ring"] (defScope s_ring_tree) := ⟨rfl, rfl, rfl, by decide +kernel, rfl, by decide +kernel, by decide +kernel⟩
theorem ok_ring_tree (M : Md C K mg) (T : Top K mg "ring_tree" s_ring_tree ["pole", "ring"]) (c_check_ratio : CalD C P w K mg base 5 "check_ratio" ["value"] R_check_ratio) (c_is_ring : CalD C P w K mg base 4 "is_ring" ["value"] R_is_ring) (c_ring_sides : CalD C P w K mg base 4 "ring_sides" ["pole", "ring"] R_ring_sides) : CalD C P w K mg base 6 "ring_tree" ["pole", "ring"] R_ring_tree := by
  refine T.ok sc_ring_tree (fun ds d h => ?_) fun f cdv A outer s H E hr ds d h => ?_
  · obtain ⟨p, s2, r, n, m, n2, m2, hn, hf, hf2, hlt, rfl, rfl⟩ := h
    rfl
  · obtain ⟨p, s2, r, n, m, n2, m2, hn, hf, hf2, hlt, rfl, rfl⟩ := h
    refine ds_expr (dv_call c_check_ratio (hr.mono (by decide)) (da_cons (dv_var 0 rfl rfl) da_nil) ⟨p, s2, r, hn, rfl, rfl⟩) ?_
    refine ds_ifF (dp_is (dp_not (dp_val (dv_call c_is_ring (hr.mono (by decide)) (da_cons (dv_var 1 rfl rfl) da_nil) ⟨n, m, n2, m2, hf, hf2, hlt, rfl, rfl⟩))) rfl) ?_
    refine ds_ret (dv_is (dv_tup (da_cons dv_str (da_cons (dv_callTy cb_tupL M.tuple bt_tuple (da_cons (dv_lc1 2 (fun d => .tup [.str "side", d]) (ds := [rD (outR p s2 r n m), rD (negR (outR p s2 r n2 m2))]) (wk_list (dv_call c_ring_sides (hr.mono (by decide)) (da_cons (dv_var 0 rfl rfl) (da_cons (dv_var 1 rfl rfl) da_nil)) ⟨p, s2, r, n, m, n2, m2, hn, hf, hf2, rfl, rfl⟩)) rfl sc_ring_tree.nd rfl (blkOk_by (N := N_ring_tree) (sc := defScope s_ring_tree) (by decide +kernel)) rfl (by simp) (fun d hd s H c cl fp => ?_) (fun d hd => ?_)) da_nil)) da_nil))) rfl)
    · exact dv_tup (da_cons dv_str (da_cons (dv_var 2 rfl rfl) da_nil))
    · simp only [List.mem_cons, List.not_mem_nil, or_false] at hd
      rcases hd with rfl | rfl <;> rfl
end
end K28
set_option Elab.async false
set_option linter.all false
set_option maxRecDepth 100000
set_option maxHeartbeats 0
namespace K28
open PySem PySem.Spec PyProof.Rows L2 Evl
local macro_rules | `(tactic| walk_at "bd") => `(tactic| (refine' cmul ?ha ?hb ?hc; (case ha => repeat' (first | assumption | exact Sm.lit (by decide) | apply Sm.mul | apply Sm.add | apply Sm.sub | apply Sm.neg)); (case hb => repeat' (first | assumption | exact Sm.lit (by decide) | apply Sm.mul | apply Sm.add | apply Sm.sub | apply Sm.neg)); (case hc => decide)))
section
variable {C : Addr} {P : Program} {w : World} {K : PySem.W.Frag} {mg : Str → Option Value} {base : Heap}

/-! ### fields in lots -/
theorem eqvI : ∀ a b : List Int, PyData.eqvAll (pys (a.map .int)) (pys (b.map .int)) = decide (a = b)
  | [], [] => by simp [pys, PyData.eqvAll]
  | [], b :: bs => by simp [pys, PyData.eqvAll]
  | a :: as, [] => by simp [pys, PyData.eqvAll]
  | a :: as, b :: bs => by
    simp only [List.map_cons, pys, py, PyData.eqvAll, PyData.eqv, eqvI as bs, Lean.Grind.beq_eq_decide_eq]
    simp
theorem eqvT (a b : List Int) : PyData.eqv (py (iT a)) (py (iT b)) = decide (a = b) := by
  show PyData.eqv (py (.tup _)) (py (.tup _)) = _
  rw [py, py, PyData.eqv, eqvI]
theorem eqvLA : ∀ l m : List (List Int), PyData.eqvAll (pys (l.map iT)) (pys (m.map iT)) = decide (l = m)
  | [], [] => by simp [pys, PyData.eqvAll]
  | [], b :: bs => by simp [pys, PyData.eqvAll]
  | a :: as, [] => by simp [pys, PyData.eqvAll]
  | a :: as, b :: bs => by
    rw [List.map_cons, List.map_cons, pys, pys, PyData.eqvAll, eqvLA as bs, eqvT]
    simp
theorem eqvLL (l m : List (List Int)) : PyData.eqv (py (.lst (l.map iT))) (py (.lst (m.map iT))) = decide (l = m) := by
  rw [py, py, PyData.eqv, eqvLA]
theorem layI : ∀ a : List Int, PyData.canLayAll0 (pys (a.map .int)) = true ∧ PyData.depthAll (pys (a.map .int)) ≤ 2
  | [] => ⟨rfl, by simp [pys, PyData.depthAll]⟩
  | a :: as => by
    obtain ⟨h1, h2⟩ := layI as
    refine ⟨by simp [pys, py, PyData.canLayAll0, PyData.canLay0, h1], ?_⟩
    simp only [List.map_cons, pys, py, PyData.depthAll, PyData.depth]
    omega
theorem layL : ∀ l : List (List Int), PyData.canLayAll0 (pys (l.map iT)) = true ∧ PyData.depthAll (pys (l.map iT)) ≤ 4
  | [] => ⟨rfl, by simp [pys, PyData.depthAll]⟩
  | a :: as => by
    obtain ⟨h1, h2⟩ := layL as
    obtain ⟨h3, h4⟩ := layI a
    refine ⟨?_, ?_⟩
    · rw [List.map_cons, pys, PyData.canLayAll0, h1, py, PyData.canLay0, h3]
      rfl
    · rw [List.map_cons, pys, PyData.depthAll, py, PyData.depth]
      omega
theorem shLL (l : List (List Int)) : SeqAt.shaped (py (.lst (l.map iT))) = true := by
  obtain ⟨h1, h2⟩ := layL l
  unfold SeqAt.shaped
  rw [py, PyData.canLay0, h1, PyData.depth, Bool.true_and, decide_eq_true_eq]
  omega
theorem plsI : ∀ a : List Int, pls (a.map .int) = true
  | [] => by rw [List.map_nil, pls]
  | a :: as => by rw [List.map_cons, pls, plsI as]; rfl
theorem plLL : ∀ l : List (List Int), pls (l.map iT) = true
  | [] => by rw [List.map_nil, pls]
  | a :: as => by
    rw [List.map_cons, pls, plLL as, pl, plsI]
    rfl
theorem plL' (l : List (List Int)) : pl (.lst (l.map iT)) = true := by rw [pl]; exact plLL l
theorem cd_eqLL {X : Cx} {l m : List (List Int)} (hu : X.A.units + 64 < cLine) : CmpD C X .Eq (.lst (l.map iT)) (.lst (m.map iT)) (decide (l = m)) := cd_eqD hu (plL' l) (plL' m) (shLL l) (shLL m) (eqvLL l m)
theorem cd_neLL {X : Cx} {l m : List (List Int)} (hu : X.A.units + 64 < cLine) : CmpD C X .NotEq (.lst (l.map iT)) (.lst (m.map iT)) (!decide (l = m)) := cd_neD hu (plL' l) (plL' m) (shLL l) (shLL m) (eqvLL l m)
/-- a tree, rounds, all fields of the rounds -/
structure FI (t : Tr) (rs : List Rw) (ks : List (List Int)) : Prop where
  all : R_all_fields [.tup (rs.map rD)] (.dic ks)
  few : ks.length < 64
  bd : ∀ k ∈ ks, k.length = rs.length ∧ BdS 2 k
  rows : ∀ r ∈ t.rows, Rg r ∧ upR r ∈ rs
  dp : t.dp ≤ 6
  len : rs.length ≤ 8
  pos : 1 ≤ rs.length
def sees (t : Tr) (rs : List Rw) (k : List Int) : Bool := t.hv fun r => look rs k (upR r)
def fld (t : Tr) (rs : List Rw) (ks : List (List Int)) : List (List Int) := (srt 2 ks).filter (sees t rs)
def opn (k : List Int) : Bool := !inV (V.int 0) (k.map V.int)
def R_fields_in (ds : List Dt) (d : Dt) : Prop := ∃ t rl rs ks, FI t rs ks ∧ ds = [.lot t.D rl, .tun (rs.map rD)] ∧ d = .lst ((fld t rs ks).map iT)
def R_near_fields_in (ds : List Dt) (d : Dt) : Prop := R_fields_in ds d
def R_is_open (ds : List Dt) (d : Dt) : Prop := ∃ k, ds = [iT k] ∧ d = .bl (opn k)
def R_open_in (ds : List Dt) (d : Dt) : Prop := ∃ l : List (List Int), l.length < 1000 ∧ ds = [.lst (l.map iT)] ∧ d = .lst ((l.filter opn).map iT)
def R_is_empty (ds : List Dt) (d : Dt) : Prop := ∃ t rs ks, FI t rs ks ∧ ds = [lotD t rs] ∧ d = .bl (decide (fld t rs ks = []))
def R_has_near_place (ds : List Dt) (d : Dt) : Prop := ∃ t rs ks, FI t rs ks ∧ ds = [lotD t rs] ∧ d = .bl (!decide (fld t rs ks = []))
def R_rounds_asked (ds : List Dt) (d : Dt) : Prop := ∃ t rs t' rs' ro, R2' rs rs' ro ∧ ds = [lotD t rs, lotD t' rs'] ∧ d = .tun (ro.map rD)
def R_lies_inside (ds : List Dt) (d : Dt) : Prop := ∃ t rs t' rs' ro ks, R2' rs rs' ro ∧ FI t ro ks ∧ FI t' ro ks ∧ ds = [lotD t rs, lotD t' rs'] ∧ d = .bl ((fld t ro ks).all (sees t' ro))
def R_is_same (ds : List Dt) (d : Dt) : Prop := ∃ t rs t' rs' ro ks, R2' rs rs' ro ∧ FI t ro ks ∧ FI t' ro ks ∧ ds = [lotD t rs, lotD t' rs'] ∧ d = .bl (decide (fld t ro ks = fld t' ro ks))
def R_is_open_somewhere (ds : List Dt) (d : Dt) : Prop := ∃ t rs ks, FI t rs ks ∧ ds = [lotD t rs] ∧ d = .bl (!decide ((fld t rs ks).filter opn = []))
def R_is_bounded (ds : List Dt) (d : Dt) : Prop := ∃ t rs ks, FI t rs ks ∧ rs.length ≤ 2 ∧ (∀ r ∈ rs, BR r ∧ r.q ≠ 0) ∧ ds = [lotD t rs] ∧ d = .bl (!sees t rs (rs.map fun r => sg (val r 1 0 0)))
theorem FI.lk {t : Tr} {rs : List Rw} {ks : List (List Int)} (h : FI t rs ks) {k : List Int} (hk : k.length = rs.length) : ∀ r ∈ t.rows, Lk rs k (fun r => look rs k (upR r)) r := fun r hr => Lk.of (h.rows r hr).1 (h.rows r hr).2 hk.symm
theorem fld_mem {t : Tr} {rs : List Rw} {ks : List (List Int)} {k : List Int} (h : k ∈ fld t rs ks) : k ∈ ks := (srt_perm 2 ks).mem_iff.mp (List.mem_filter.mp h).1
theorem fld_len (t : Tr) (rs : List Rw) (ks : List (List Int)) : (fld t rs ks).length ≤ ks.length := by
  have h1 := (srt_perm 2 ks).length_eq
  have h2 := List.length_filter_le (sees t rs) (srt 2 ks)
  unfold fld
  omega
theorem srt_len (S : Int) (ks : List (List Int)) : (srt S ks).length = ks.length := (srt_perm S ks).length_eq
theorem fil_tt (t : List Int → Bool) : ∀ l : List (List Int), (((l.map Dt.ttup).filter fun d => match d with | .ttup k => t k | _ => false).map fun d => match d with | .ttup k => iT k | _ => .non) = (l.filter t).map iT
  | [] => rfl
  | k :: l => by
    rw [List.map_cons, List.filter_cons, List.filter_cons]
    show List.map _ (if t k = true then _ else _) = _
    cases h : t k with
    | true =>
      simp only [if_true, List.map_cons]
      rw [fil_tt t l]
    | false =>
      rw [if_neg (show ¬ (false = true) by decide)]
      exact fil_tt t l
def unI : Dt → List Int
  | .tup xs => xs.map fun d => match d with | .int n => n | _ => 0
  | _ => []
theorem unI_it (k : List Int) : unI (iT k) = k := by
  show (k.map Dt.int).map _ = k
  rw [List.map_map]
  exact List.map_id' k
theorem fil_it (t : List Int → Bool) : ∀ l : List (List Int), (((l.map iT).filter fun d => t (unI d)).map fun d => d) = (l.filter t).map iT
  | [] => rfl
  | k :: l => by
    rw [List.map_cons, List.filter_cons, List.filter_cons, unI_it]
    cases h : t k with
    | true =>
      simp only [if_true, List.map_cons]
      rw [← fil_it t l]
    | false =>
      rw [if_neg (show ¬ (false = true) by decide)]
      exact fil_it t l
theorem lf_it (k : List Int) : lf (iT k) = true := by
  simp only [lf]
  exact lfs_map fun _ _ => rfl
theorem dv_ofTN' {X : Cx} {Γ : Env'} {e : Expr} {xs : List Dt} (h : Dv C X e Γ (.tun xs)) : Dv C X e Γ (.tup xs) := dv_ofTN h

abbrev N_fields_in : List Str := ["lot", "rounds", "signs"]
theorem sc_fields_in : FnScope N_fields_in ["lot", "rounds"] (defScope s_fields_in) := ⟨rfl, rfl, rfl, by decide +kernel, rfl, by decide +kernel, by decide +kernel⟩
theorem ok_fields_in (M : Md C K mg) (ML : LotM C K) (T : Top K mg "fields_in" s_fields_in ["lot", "rounds"]) (c_all_fields : CalD C P w K mg base 4 "all_fields" ["rounds"] R_all_fields) (c_has_signs : CalD C P w K mg base 11 "has_signs" ["lot", "rounds", "signs"] R_has_signs) : CalD C P w K mg base 12 "fields_in" ["lot", "rounds"] R_fields_in := by
  refine T.ok sc_fields_in (fun ds d h => ?_) fun f cdv A outer s H E hr ds d h => ?_
  · obtain ⟨t, rl, rs, ks, hF, rfl, rfl⟩ := h
    rfl
  · obtain ⟨t, rl, rs, ks, hF, rfl, rfl⟩ := h
    refine ds_ret (dv_is (dv_lcT1 2 (fun d => match d with | .ttup k => sees t rs k | _ => false) (fun d => match d with | .ttup k => iT k | _ => .non) (ds := (srt 2 ks).map .ttup) (wk_list (dv_callB (cb_sortDic (S := 2) rfl hF.pos hF.few hF.bd) M.sorted bt_sorted (da_cons (dv_call c_all_fields (hr.mono (by decide)) (da_cons (dv_ofTN (dv_var 1 rfl rfl)) da_nil) hF.all) da_nil))) rfl sc_fields_in.nd rfl (blkOk_by (N := N_fields_in) (sc := defScope s_fields_in) (by decide +kernel)) rfl (by rw [List.length_map, srt_len]; have := hF.few; omega) (fun d hd s H c cl fp => ?_) (fun d hd hT s H c cl fp => ?_) (fun d hd hT => ?_)) (congrArg Dt.lst (fil_tt (sees t rs) (srt 2 ks))))
    · obtain ⟨k, hk0, rfl⟩ := List.mem_map.mp hd
      have hk := (srt_perm 2 ks).mem_iff.mp hk0
      exact (dp_val (dv_call c_has_signs (hr.mono (by decide)) (da_cons (dv_var 0 rfl rfl) (da_cons (dv_var 1 rfl rfl) (da_cons (dv_ofTT (dv_var 2 rfl rfl)) da_nil))) ⟨t, rl, rs, k, _, hF.dp, hF.lk (hF.bd k hk).1, hF.len, rfl, rfl⟩))
    · obtain ⟨k, hk0, rfl⟩ := List.mem_map.mp hd
      exact dv_ofTT (dv_var 2 rfl rfl)
    · obtain ⟨k, hk0, rfl⟩ := List.mem_map.mp hd
      exact lf_it k
abbrev N_near_fields_in : List Str := ["lot", "rounds", "found", "signs"]
theorem sc_near_fields_in : FnScope N_near_fields_in ["lot", "rounds"] (defScope s_near_fields_in) := ⟨rfl, rfl, rfl, by decide +kernel, rfl, by decide +kernel, by decide +kernel⟩
theorem ok_near_fields_in (M : Md C K mg) (ML : LotM C K) (T : Top K mg "near_fields_in" s_near_fields_in ["lot", "rounds"]) (c_all_fields : CalD C P w K mg base 4 "all_fields" ["rounds"] R_all_fields) (c_has_signs : CalD C P w K mg base 11 "has_signs" ["lot", "rounds", "signs"] R_has_signs) : CalD C P w K mg base 12 "near_fields_in" ["lot", "rounds"] R_near_fields_in := by
  refine T.ok sc_near_fields_in (fun ds d h => ?_) fun f cdv A outer s H E hr ds d h => ?_
  · obtain ⟨t, rl, rs, ks, hF, rfl, rfl⟩ := h
    rfl
  · obtain ⟨t, rl, rs, ks, hF, rfl, rfl⟩ := h
    refine ds_set 2 rfl sc_near_fields_in.nd (dv_call c_all_fields (hr.mono (by decide)) (da_cons (dv_ofTN (dv_var 1 rfl rfl)) da_nil) hF.all) ?_
    refine ds_ret (dv_is (dv_lcT1 3 (fun d => match d with | .ttup k => sees t rs k | _ => false) (fun d => match d with | .ttup k => iT k | _ => .non) (ds := (srt 2 ks).map .ttup) (wk_list (dv_callB (cb_sortDic (S := 2) rfl hF.pos hF.few hF.bd) M.sorted bt_sorted (da_cons (dv_var 2 rfl rfl) da_nil))) rfl sc_near_fields_in.nd rfl (blkOk_by (N := N_near_fields_in) (sc := defScope s_near_fields_in) (by decide +kernel)) rfl (by rw [List.length_map, srt_len]; have := hF.few; omega) (fun d hd s H c cl fp => ?_) (fun d hd hT s H c cl fp => ?_) (fun d hd hT => ?_)) (congrArg Dt.lst (fil_tt (sees t rs) (srt 2 ks))))
    · obtain ⟨k, hk0, rfl⟩ := List.mem_map.mp hd
      have hk := (srt_perm 2 ks).mem_iff.mp hk0
      exact (dp_w (dw_and (dp_val (dv_dic (dv_var 2 rfl rfl) (dv_var 3 rfl rfl) hk (by exact Nat.lt_of_le_of_lt (Nat.add_le_add_left (by decide : 1 ≤ 65) _) (room_u hr)))) fun _ => (dw_and1 (dp_val (dv_call c_has_signs (hr.mono (by decide)) (da_cons (dv_var 0 rfl rfl) (da_cons (dv_var 1 rfl rfl) (da_cons (dv_ofTT (dv_var 3 rfl rfl)) da_nil))) ⟨t, rl, rs, k, _, hF.dp, hF.lk (hF.bd k hk).1, hF.len, rfl, rfl⟩)))))
    · obtain ⟨k, hk0, rfl⟩ := List.mem_map.mp hd
      exact dv_ofTT (dv_var 3 rfl rfl)
    · obtain ⟨k, hk0, rfl⟩ := List.mem_map.mp hd
      exact lf_it k
abbrev N_is_open : List Str := ["signs"]
theorem sc_is_open : FnScope N_is_open ["signs"] (defScope s_is_open) := ⟨rfl, rfl, rfl, by decide +kernel, rfl, by decide +kernel, by decide +kernel⟩
theorem ok_is_open (M : Md C K mg) (ML : LotM C K) (T : Top K mg "is_open" s_is_open ["signs"])  : CalD C P w K mg base 1 "is_open" ["signs"] R_is_open := by
  refine T.ok sc_is_open (fun ds d h => ?_) fun f cdv A outer s H E hr ds d h => ?_
  · obtain ⟨k, rfl, rfl⟩ := h
    rfl
  · obtain ⟨k, rfl, rfl⟩ := h
    have h1 : ∀ k : List Int, (k.map Dt.int).all isFl = true := fun k => by simp [isFl]
    have h2 : ∀ k : List Int, (k.map Dt.int).map fl = k.map V.int := fun k => by rw [List.map_map]; rfl
    exact ds_ret (dv_cmp dv_int (dv_var 0 rfl rfl) (cd_notIn rfl (h1 k) (by rw [h2]; rfl)) rfl)
abbrev N_open_in : List Str := ["signs_of_lot", "signs"]
theorem sc_open_in : FnScope N_open_in ["signs_of_lot"] (defScope s_open_in) := ⟨rfl, rfl, rfl, by decide +kernel, rfl, by decide +kernel, by decide +kernel⟩
theorem ok_open_in (M : Md C K mg) (ML : LotM C K) (T : Top K mg "open_in" s_open_in ["signs_of_lot"]) (c_is_open : CalD C P w K mg base 1 "is_open" ["signs"] R_is_open) : CalD C P w K mg base 2 "open_in" ["signs_of_lot"] R_open_in := by
  refine T.ok sc_open_in (fun ds d h => ?_) fun f cdv A outer s H E hr ds d h => ?_
  · obtain ⟨l, hl, rfl, rfl⟩ := h
    rfl
  · obtain ⟨l, hl, rfl, rfl⟩ := h
    refine ds_ret (dv_is (dv_lcT1 1 (fun d => opn (unI d)) (fun d => d) (ds := l.map iT) (wk_list (dv_var 0 rfl rfl)) rfl sc_open_in.nd rfl (blkOk_by (N := N_open_in) (sc := defScope s_open_in) (by decide +kernel)) rfl (by rw [List.length_map]; omega) (fun d hd s H c cl fp => ?_) (fun d hd hT s H c cl fp => ?_) (fun d hd hT => ?_)) (congrArg Dt.lst (fil_it opn l)))
    · obtain ⟨k, hk, rfl⟩ := List.mem_map.mp hd
      rw [unI_it]
      exact dp_val (dv_call c_is_open (hr.mono (by decide)) (da_cons (dv_var 1 rfl rfl) da_nil) ⟨k, rfl, rfl⟩)
    · exact dv_var 1 rfl rfl
    · obtain ⟨k, hk, rfl⟩ := List.mem_map.mp hd
      exact lf_it k
abbrev N_is_empty : List Str := ["lot"]
theorem sc_is_empty : FnScope N_is_empty ["lot"] (defScope s_is_empty) := ⟨rfl, rfl, rfl, by decide +kernel, rfl, by decide +kernel, by decide +kernel⟩
theorem ok_is_empty (M : Md C K mg) (ML : LotM C K) (T : Top K mg "is_empty" s_is_empty ["lot"]) (c_check_lot : CalD C P w K mg base 1 "check_lot" ["value"] R_check_lot) (c_fields_in : CalD C P w K mg base 12 "fields_in" ["lot", "rounds"] R_fields_in) (c_P : CalP C P w K mg base 1) : CalD C P w K mg base 13 "is_empty" ["lot"] R_is_empty := by
  refine T.ok sc_is_empty (fun ds d h => ?_) fun f cdv A outer s H E hr ds d h => ?_
  · obtain ⟨t, rs, ks, hF, rfl, rfl⟩ := h
    rfl
  · obtain ⟨t, rs, ks, hF, rfl, rfl⟩ := h
    refine ds_expr (dv_call c_check_lot (hr.mono (by decide)) (da_cons (dv_var 0 rfl rfl) da_nil) ⟨_, _, rfl, rfl⟩) ?_
    exact ds_ret (dv_cmp (dv_call c_fields_in (hr.mono (by decide)) (da_cons (dv_var 0 rfl rfl) (da_cons (dv_rounds c_P M.L.cl (hr.mono (by decide)) (dv_var 0 rfl rfl)) da_nil)) ⟨t, _, rs, ks, hF, rfl, rfl⟩) (dv_lst da_nil) (cd_eqLL (m := []) (room_u64 hr)) (nomark _))
abbrev N_has_near_place : List Str := ["lot"]
theorem sc_has_near_place : FnScope N_has_near_place ["lot"] (defScope s_has_near_place) := ⟨rfl, rfl, rfl, by decide +kernel, rfl, by decide +kernel, by decide +kernel⟩
theorem ok_has_near_place (M : Md C K mg) (ML : LotM C K) (T : Top K mg "has_near_place" s_has_near_place ["lot"]) (c_check_lot : CalD C P w K mg base 1 "check_lot" ["value"] R_check_lot) (c_near_fields_in : CalD C P w K mg base 12 "near_fields_in" ["lot", "rounds"] R_near_fields_in) (c_P : CalP C P w K mg base 1) : CalD C P w K mg base 13 "has_near_place" ["lot"] R_has_near_place := by
  refine T.ok sc_has_near_place (fun ds d h => ?_) fun f cdv A outer s H E hr ds d h => ?_
  · obtain ⟨t, rs, ks, hF, rfl, rfl⟩ := h
    rfl
  · obtain ⟨t, rs, ks, hF, rfl, rfl⟩ := h
    refine ds_expr (dv_call c_check_lot (hr.mono (by decide)) (da_cons (dv_var 0 rfl rfl) da_nil) ⟨_, _, rfl, rfl⟩) ?_
    exact ds_ret (dv_cmp (dv_call c_near_fields_in (hr.mono (by decide)) (da_cons (dv_var 0 rfl rfl) (da_cons (dv_rounds c_P M.L.cl (hr.mono (by decide)) (dv_var 0 rfl rfl)) da_nil)) ⟨t, _, rs, ks, hF, rfl, rfl⟩) (dv_lst da_nil) (cd_neLL (m := []) (room_u64 hr)) (nomark _))
abbrev N_rounds_asked : List Str := ["lot", "other"]
theorem sc_rounds_asked : FnScope N_rounds_asked ["lot", "other"] (defScope s_rounds_asked) := ⟨rfl, rfl, rfl, by decide +kernel, rfl, by decide +kernel, by decide +kernel⟩
theorem ok_rounds_asked (M : Md C K mg) (ML : LotM C K) (T : Top K mg "rounds_asked" s_rounds_asked ["lot", "other"]) (c_check_lot : CalD C P w K mg base 1 "check_lot" ["value"] R_check_lot) (c_rounds_of_two : CalD C P w K mg base 5 "rounds_of_two" ["lot", "other"] R_rounds_of_two) : CalD C P w K mg base 6 "rounds_asked" ["lot", "other"] R_rounds_asked := by
  refine T.ok sc_rounds_asked (fun ds d h => ?_) fun f cdv A outer s H E hr ds d h => ?_
  · obtain ⟨t, rs, t2, rs2, ro, h2, rfl, rfl⟩ := h
    rfl
  · obtain ⟨t, rs, t2, rs2, ro, h2, rfl, rfl⟩ := h
    refine ds_expr (dv_call c_check_lot (hr.mono (by decide)) (da_cons (dv_var 0 rfl rfl) da_nil) ⟨_, _, rfl, rfl⟩) ?_
    refine ds_expr (dv_call c_check_lot (hr.mono (by decide)) (da_cons (dv_var 1 rfl rfl) da_nil) ⟨_, _, rfl, rfl⟩) ?_
    exact ds_ret (dv_call c_rounds_of_two (hr.mono (by decide)) (da_cons (dv_var 0 rfl rfl) (da_cons (dv_var 1 rfl rfl) da_nil)) ⟨t, rs, t2, rs2, ro, h2, rfl, rfl⟩)
abbrev N_lies_inside : List Str := ["lot", "other", "rounds", "signs"]
theorem sc_lies_inside : FnScope N_lies_inside ["lot", "other"] (defScope s_lies_inside) := ⟨rfl, rfl, rfl, by decide +kernel, rfl, by decide +kernel, by decide +kernel⟩
theorem ok_lies_inside (M : Md C K mg) (ML : LotM C K) (T : Top K mg "lies_inside" s_lies_inside ["lot", "other"]) (c_rounds_asked : CalD C P w K mg base 6 "rounds_asked" ["lot", "other"] R_rounds_asked) (c_has_signs : CalD C P w K mg base 11 "has_signs" ["lot", "rounds", "signs"] R_has_signs) (c_fields_in : CalD C P w K mg base 12 "fields_in" ["lot", "rounds"] R_fields_in) : CalD C P w K mg base 13 "lies_inside" ["lot", "other"] R_lies_inside := by
  refine T.ok sc_lies_inside (fun ds d h => ?_) fun f cdv A outer s H E hr ds d h => ?_
  · obtain ⟨t, rs, t2, rs2, ro, ks, h2, hF, hF2, rfl, rfl⟩ := h
    rfl
  · obtain ⟨t, rs, t2, rs2, ro, ks, h2, hF, hF2, rfl, rfl⟩ := h
    refine ds_set 2 rfl sc_lies_inside.nd (dv_call c_rounds_asked (hr.mono (by decide)) (da_cons (dv_var 0 rfl rfl) (da_cons (dv_var 1 rfl rfl) da_nil)) ⟨t, rs, t2, rs2, ro, h2, rfl, rfl⟩) ?_
    refine ds_ret (dv_is (dv_callB (cb_all (bs := (fld t ro ks).map (sees t2 ro)) rfl) M.all bt_all (da_cons (dv_is (dv_lc1 3 (fun d => .bl (sees t2 ro (unI d))) (ds := (fld t ro ks).map iT) (wk_list (dv_call c_fields_in (hr.mono (by decide)) (da_cons (dv_var 0 rfl rfl) (da_cons (dv_var 2 rfl rfl) da_nil)) ⟨t, _, ro, ks, hF, rfl, rfl⟩)) rfl sc_lies_inside.nd rfl (blkOk_by (N := N_lies_inside) (sc := defScope s_lies_inside) (by decide +kernel)) rfl (by rw [List.length_map]; have := fld_len t ro ks; have := hF.few; omega) (fun d hd s H c cl fp => ?_) (fun d hd => rfl)) (show _ = Dt.lst (((fld t ro ks).map (sees t2 ro)).map Dt.bl) by simp only [List.map_map]; congr 1; exact List.map_congr_left fun k _ => by show Dt.bl (sees t2 ro (unI (iT k))) = _; rw [unI_it]; rfl)) da_nil)) (by rw [List.all_map]; rfl))
    obtain ⟨k, hk, rfl⟩ := List.mem_map.mp hd
    rw [unI_it]
    exact dv_call c_has_signs (hr.mono (by decide)) (da_cons (dv_var 1 rfl rfl) (da_cons (dv_var 2 rfl rfl) (da_cons (dv_var 3 rfl rfl) da_nil))) ⟨t2, _, ro, k, _, hF2.dp, hF2.lk (hF.bd k (fld_mem hk)).1, hF2.len, rfl, rfl⟩
abbrev N_is_same : List Str := ["lot", "other", "rounds"]
theorem sc_is_same : FnScope N_is_same ["lot", "other"] (defScope s_is_same) := ⟨rfl, rfl, rfl, by decide +kernel, rfl, by decide +kernel, by decide +kernel⟩
theorem ok_is_same (M : Md C K mg) (ML : LotM C K) (T : Top K mg "is_same" s_is_same ["lot", "other"]) (c_rounds_asked : CalD C P w K mg base 6 "rounds_asked" ["lot", "other"] R_rounds_asked) (c_fields_in : CalD C P w K mg base 12 "fields_in" ["lot", "rounds"] R_fields_in) : CalD C P w K mg base 13 "is_same" ["lot", "other"] R_is_same := by
  refine T.ok sc_is_same (fun ds d h => ?_) fun f cdv A outer s H E hr ds d h => ?_
  · obtain ⟨t, rs, t2, rs2, ro, ks, h2, hF, hF2, rfl, rfl⟩ := h
    rfl
  · obtain ⟨t, rs, t2, rs2, ro, ks, h2, hF, hF2, rfl, rfl⟩ := h
    refine ds_set 2 rfl sc_is_same.nd (dv_call c_rounds_asked (hr.mono (by decide)) (da_cons (dv_var 0 rfl rfl) (da_cons (dv_var 1 rfl rfl) da_nil)) ⟨t, rs, t2, rs2, ro, h2, rfl, rfl⟩) ?_
    exact ds_ret (dv_cmp (dv_call c_fields_in (hr.mono (by decide)) (da_cons (dv_var 0 rfl rfl) (da_cons (dv_var 2 rfl rfl) da_nil)) ⟨t, _, ro, ks, hF, rfl, rfl⟩) (dv_call c_fields_in (hr.mono (by decide)) (da_cons (dv_var 1 rfl rfl) (da_cons (dv_var 2 rfl rfl) da_nil)) ⟨t2, _, ro, ks, hF2, rfl, rfl⟩) (cd_eqLL (room_u64 hr)) (nomark _))
abbrev N_is_open_somewhere : List Str := ["lot"]
theorem sc_is_open_somewhere : FnScope N_is_open_somewhere ["lot"] (defScope s_is_open_somewhere) := ⟨rfl, rfl, rfl, by decide +kernel, rfl, by decide +kernel, by decide +kernel⟩
theorem ok_is_open_somewhere (M : Md C K mg) (ML : LotM C K) (T : Top K mg "is_open_somewhere" s_is_open_somewhere ["lot"]) (c_check_lot : CalD C P w K mg base 1 "check_lot" ["value"] R_check_lot) (c_fields_in : CalD C P w K mg base 12 "fields_in" ["lot", "rounds"] R_fields_in) (c_open_in : CalD C P w K mg base 2 "open_in" ["signs_of_lot"] R_open_in) (c_P : CalP C P w K mg base 1) : CalD C P w K mg base 13 "is_open_somewhere" ["lot"] R_is_open_somewhere := by
  refine T.ok sc_is_open_somewhere (fun ds d h => ?_) fun f cdv A outer s H E hr ds d h => ?_
  · obtain ⟨t, rs, ks, hF, rfl, rfl⟩ := h
    rfl
  · obtain ⟨t, rs, ks, hF, rfl, rfl⟩ := h
    refine ds_expr (dv_call c_check_lot (hr.mono (by decide)) (da_cons (dv_var 0 rfl rfl) da_nil) ⟨_, _, rfl, rfl⟩) ?_
    exact ds_ret (dv_cmp (dv_call c_open_in (hr.mono (by decide)) (da_cons (dv_call c_fields_in (hr.mono (by decide)) (da_cons (dv_var 0 rfl rfl) (da_cons (dv_rounds c_P M.L.cl (hr.mono (by decide)) (dv_var 0 rfl rfl)) da_nil)) ⟨t, _, rs, ks, hF, rfl, rfl⟩) da_nil) ⟨fld t rs ks, by have := fld_len t rs ks; have := hF.few; omega, rfl, rfl⟩) (dv_lst da_nil) (cd_neLL (m := []) (room_u64 hr)) (nomark _))
abbrev N_is_bounded : List Str := ["lot", "rounds", "signs"]
theorem sc_is_bounded : FnScope N_is_bounded ["lot"] (defScope s_is_bounded) := ⟨rfl, rfl, rfl, by decide +kernel, rfl, by decide +kernel, by decide +kernel⟩
theorem ok_is_bounded (M : Md C K mg) (ML : LotM C K) (T : Top K mg "is_bounded" s_is_bounded ["lot"]) (c_check_lot : CalD C P w K mg base 1 "check_lot" ["value"] R_check_lot) (c_has_signs : CalD C P w K mg base 11 "has_signs" ["lot", "rounds", "signs"] R_has_signs) (c_signs_near_far : CalD C P w K mg base 3 "signs_near_far" ["rounds"] R_signs_near_far) (c_P : CalP C P w K mg base 1) : CalD C P w K mg base 12 "is_bounded" ["lot"] R_is_bounded := by
  refine T.ok sc_is_bounded (fun ds d h => ?_) fun f cdv A outer s H E hr ds d h => ?_
  · obtain ⟨t, rs, ks, hF, hl, hR, rfl, rfl⟩ := h
    rfl
  · obtain ⟨t, rs, ks, hF, hl, hR, rfl, rfl⟩ := h
    refine ds_expr (dv_call c_check_lot (hr.mono (by decide)) (da_cons (dv_var 0 rfl rfl) da_nil) ⟨_, _, rfl, rfl⟩) ?_
    refine ds_set 1 rfl sc_is_bounded.nd (dv_rounds c_P M.L.cl (hr.mono (by decide)) (dv_var 0 rfl rfl)) ?_
    refine ds_ret (dv_is (dv_not (dv_callB (cb_any (bs := [sees t rs (rs.map fun r => sg (val r 1 0 0))]) rfl) M.any bt_any (da_cons (dv_is (dv_lc1 2 (fun d => .bl (sees t rs (rs.map fun r => sg (val r 1 0 0)))) (ds := [iT (rs.map fun r => sg (val r 1 0 0))]) (wk_list (dv_call c_signs_near_far (hr.mono (by decide)) (da_cons (dv_ofTN (dv_var 1 rfl rfl)) da_nil) ⟨rs, hl, hR, rfl, rfl⟩)) rfl sc_is_bounded.nd rfl (blkOk_by (N := N_is_bounded) (sc := defScope s_is_bounded) (by decide +kernel)) rfl (by simp) (fun d hd s H c cl fp => ?_) (fun d hd => rfl)) rfl) da_nil))) (by simp))
    simp only [List.mem_cons, List.not_mem_nil, or_false] at hd
    subst hd
    exact dv_call c_has_signs (hr.mono (by decide)) (da_cons (dv_var 0 rfl rfl) (da_cons (dv_var 1 rfl rfl) (da_cons (dv_var 2 rfl rfl) da_nil))) ⟨t, _, rs, _, _, hF.dp, hF.lk (by rw [List.length_map]), hF.len, rfl, rfl⟩
end
end K28
set_option Elab.async false
set_option linter.all false
set_option maxRecDepth 100000
set_option maxHeartbeats 0
namespace K28
open PySem PySem.Spec PyProof.Rows L2 Evl
local macro_rules | `(tactic| walk_at "bd") => `(tactic| (refine' cmul ?ha ?hb ?hc; (case ha => repeat' (first | assumption | exact Sm.lit (by decide) | apply Sm.mul | apply Sm.add | apply Sm.sub | apply Sm.neg)); (case hb => repeat' (first | assumption | exact Sm.lit (by decide) | apply Sm.mul | apply Sm.add | apply Sm.sub | apply Sm.neg)); (case hc => decide)))
section
variable {C : Addr} {P : Program} {w : World} {K : PySem.W.Frag} {mg : Str → Option Value} {base : Heap}

/-! ### the law's own sums -/
section
variable {X : Cx} {Γ : Env'} {a b c e : Expr} {es : List Expr} {pos : Pos} {body rest : List Stmt} {st : Stmt} {d : Dt} {Γ' : Env'}
/-- while, the turns by number -/
theorem d1_while (m : Nat) (G : Nat → Env') (h0 : G 0 = Γ) (hm : G m = Γ') (ht : ∀ j, j < m → Dp' C X c (G j) true) (hf : Dp' C X c (G m) false) (hb : ∀ j, j < m → Ds C X body (G j) (.nx (G (j + 1))))
    (hp : PassesOwn (model X.prog X.w) X.A X.env X.xe) : D1 C X (.While c body [] pos) Γ (.nx Γ') := by
  let tc : TT := fun σ H Q => ∃ j, j ≤ m ∧ SD C X.K H σ (G j) ∧ ∀ H2, Ex H H2 → Q (decide (j < m)) H2
  have pc : PT X c tc := ⟨fun pins s σ H Q I ⟨j, hj, hs, q⟩ => by
    by_cases hl : j < m
    · obtain ⟨t, p, ev⟩ := ht j hl
      rw [decide_eq_true hl] at q
      exact p.run pins s σ H Q I (ev σ H hs Q q)
    · have e : j = m := by omega
      subst e
      obtain ⟨t, p, ev⟩ := hf
      rw [decide_eq_false hl] at q
      exact p.run pins s σ H Q I (ev σ H hs Q q)⟩
  let tb : TS := fun D σ H => ∃ j, j < m ∧ SD C X.K H σ (G j) ∧ ∀ σ' H', Ex H H' → SD C X.K H' σ' (G (j + 1)) → D.nx σ' H'
  have pb : PSs X body tb := ⟨fun pins s σ H D I ⟨j, hj, hs, q⟩ => by
    obtain ⟨t, p, ev⟩ := hb j hj
    exact p.run pins s σ H D I (ev σ H hs D q)⟩
  refine ⟨_, ps_while hp pc pb, fun σ H hs D q => ?_⟩
  refine ⟨fun k σ' H' => ∃ j, j ≤ m ∧ k = m - j ∧ Ex H H' ∧ SD C X.K H' σ' (G j), ⟨m, 0, Nat.zero_le _, rfl, Ex.refl H, by rw [h0]; exact hs⟩, ?_⟩
  rintro k σ' H' ⟨j, hj, rfl, e1, hs'⟩
  refine ⟨j, hj, hs', fun H2 e2 => ?_⟩
  by_cases hl : j < m
  · rw [decide_eq_true hl]
    exact iteT ⟨fun σ3 H3 => Ex H H3 ∧ SD C X.K H3 σ3 (G (j + 1)), fun σ3 H3 h => ⟨m - (j + 1), by omega, j + 1, hl, rfl, h⟩, j, hl, hs'.mono e2, fun σ4 H4 e4 hs4 => ⟨(e1.trans e2).trans e4, hs4⟩⟩
  · have e : j = m := by omega
    subst e
    rw [decide_eq_false hl]
    exact iteF (q σ' H2 (e1.trans e2) (by rw [← hm]; exact hs'.mono e2))
theorem dsF_cons (h1 : D1 C X st Γ (.nx Γ')) (h2 : DsF C X rest Γ' d) : DsF C X (st :: rest) Γ d := by
  obtain ⟨t, p, ev⟩ := h1
  obtain ⟨u, pu, eu⟩ := h2
  exact ⟨_, pss_cons p pu, fun σ H hs D q => ev σ H hs { D with nx := u D } fun σ' H' e hs' => eu σ' H' hs' D fun a H2 ha e2 r => q a H2 (none_of e ha) (e.trans e2) r⟩
theorem cb_tupT {us : List Dt} : CallD C X (.type "tuple") [.tup us] (.tup us) := ⟨_, call_tuple_of, fun vs H Q r q => by
  obtain ⟨v, rfl, r1⟩ := r.one
  cases r1 with
  | tup hx rx => exact ⟨_, _, rfl, .inr ⟨hx, q _ _ (Ex.refl H) (.tup hx rx)⟩⟩⟩
theorem dv_pow {i j : Int} (ha : Dv C X a Γ (.int i)) (hb : Dv C X b Γ (.int j)) (h : CPow i j) : Dv C X (.BinOp a .Pow b pos) Γ (.int (i ^ j.toNat)) :=
  dv_op op_pow ha hb fun _ _ H _ r1 r2 q => by cases r1; cases r2; exact ⟨i, j, rfl, rfl, h, q _ H (Ex.refl H) (.int _)⟩
end
/-- Euclid's steps -/
def eu : Nat → Nat × Nat → Nat × Nat
  | 0, p => p
  | j + 1, p => eu j (p.2, p.1 % p.2)
theorem eu_succ : ∀ (j : Nat) (p : Nat × Nat), eu (j + 1) p = ((eu j p).2, (eu j p).1 % (eu j p).2)
  | 0, _ => rfl
  | j + 1, p => eu_succ j (p.2, p.1 % p.2)
theorem eu_end : ∀ (b a : Nat), ∃ m, (∀ j, j < m → 0 < (eu j (a, b)).2) ∧ (eu m (a, b)).2 = 0 ∧ (eu m (a, b)).1 = Nat.gcd a b := by
  intro b
  induction b using Nat.strongRecOn with
  | ind b ih =>
    intro a
    by_cases hb : b = 0
    · subst hb
      exact ⟨0, fun j hj => absurd hj (Nat.not_lt_zero j), rfl, by simp [eu]⟩
    · obtain ⟨m, h1, h2, h3⟩ := ih (a % b) (Nat.mod_lt _ (Nat.pos_of_ne_zero hb)) b
      refine ⟨m + 1, fun j hj => ?_, h2, ?_⟩
      · cases j with
        | zero => exact Nat.pos_of_ne_zero hb
        | succ j => exact h1 j (by omega)
      · show (eu m (b, a % b)).1 = _
        rw [h3, Nat.gcd_comm, ← Nat.gcd_rec, Nat.gcd_comm]
theorem abs_nat (i : Int) : (if i < 0 then -i else i) = (i.natAbs : Int) := by
  split <;> omega
def R__law_gcd (ds : List Dt) (d : Dt) : Prop := ∃ a b : Int, ds = [.int a, .int b] ∧ d = .int (Nat.gcd a.natAbs b.natAbs : Nat)
def R__law_low (ds : List Dt) (d : Dt) : Prop := ∃ ns, Gd ns ∧ (ds = [.lst (ns.map .int)] ∨ ds = [iT ns]) ∧ d = iT (low ns)
def R__law_minus (ds : List Dt) (d : Dt) : Prop := ∃ r, ds = [rD r] ∧ d = rD (negR r)
def R__law_apart (ds : List Dt) (d : Dt) : Prop := ∃ a b c x y z, (Sm 64 a ∧ Sm 64 b ∧ Sm 64 c) ∧ (Sm 64 x ∧ Sm 64 y ∧ Sm 64 z) ∧ c ≠ 0 ∧ z ≠ 0 ∧ ds = [iT [a, b, c], iT [x, y, z]] ∧ d = iT (low [(a * z - x * c) * (a * z - x * c) + (b * z - y * c) * (b * z - y * c), c * c * z * z])
def R__law_under (ds : List Dt) (d : Dt) : Prop := ∃ a b x y, (Sm 200 a ∧ Sm 200 b) ∧ (Sm 200 x ∧ Sm 200 y) ∧ ds = [iT [a, b], iT [x, y]] ∧ d = .bl (decide (a * y < x * b))
def R__law_ring_row (ds : List Dt) (d : Dt) : Prop := ∃ p s r n m, Nr p s r ∧ Fr' n m ∧ ds = [iT [p, s, r], iT [n, m]] ∧ d = rD (outR p s r n m)

abbrev N__law_gcd : List Str := ["_law_one_here", "_law_two"]
theorem sc__law_gcd : FnScope N__law_gcd ["_law_one_here", "_law_two"] (defScope s__law_gcd) := ⟨rfl, rfl, rfl, by decide +kernel, rfl, by decide +kernel, by decide +kernel⟩
theorem ok__law_gcd (M : Md C K mg) (T : Top K mg "_law_gcd" s__law_gcd ["_law_one_here", "_law_two"]) : CalD C P w K mg base 1 "_law_gcd" ["_law_one_here", "_law_two"] R__law_gcd := by
  refine T.ok sc__law_gcd (fun ds d h => ?_) fun f cdv A outer s H E hr ds d h => ?_
  · obtain ⟨a, b, rfl, rfl⟩ := h
    rfl
  · obtain ⟨a, b, rfl, rfl⟩ := h
    obtain ⟨m, h1, h2, h3⟩ := eu_end b.natAbs a.natAbs
    refine ds_cons (d1_par 0 1 (da_cons (dv_is (dv_callB cb_abs M.abs bt_abs (da_cons (dv_var 0 rfl rfl) da_nil)) (congrArg Dt.int (abs_nat a))) (da_cons (dv_is (dv_callB cb_abs M.abs bt_abs (da_cons (dv_var 1 rfl rfl) da_nil)) (congrArg Dt.int (abs_nat b))) da_nil)) rfl sc__law_gcd.nd rfl rfl (by decide) rfl rfl) ?_
    refine ds_cons (d1_while m (fun j => [some (.int ((eu j (a.natAbs, b.natAbs)).1 : Int)), some (.int ((eu j (a.natAbs, b.natAbs)).2 : Int))]) rfl rfl (fun j hj => ?_) ?_ (fun j hj => ?_) PassesOwn.never) ?_
    · exact dp_is (dp_cmp (dv_var 1 rfl rfl) dv_int cd_gt (nomark _)) (decide_eq_true (by have := h1 j hj; omega))
    · exact dp_is (dp_cmp (dv_var 1 rfl rfl) dv_int cd_gt (nomark _)) (decide_eq_false (by omega))
    · have hj' := h1 j hj
      rw [eu_succ]
      refine Ds.wk (ds_cons (d1_par 0 1 (da_cons (dv_var 1 rfl rfl) (da_cons (dv_mod (dv_callTy cb_int M.int bt_int (da_cons (dv_var 0 rfl rfl) da_nil)) (dv_var 1 rfl rfl) (by omega)) da_nil)) rfl sc__law_gcd.nd rfl rfl (by decide) rfl rfl) ds_nil) ⟨rfl, ?_, True.intro⟩
      simp
    · rw [h3]
      exact ds_ret (dv_var 0 rfl rfl)
abbrev N__law_low : List Str := ["_law_numbers", "_law_common", "_law_each"]
theorem sc__law_low : FnScope N__law_low ["_law_numbers"] (defScope s__law_low) := ⟨rfl, rfl, rfl, by decide +kernel, rfl, by decide +kernel, by decide +kernel⟩
theorem div_one {ns : List Int} (h : divOf ns = 1) : low ns = ns := by
  unfold low
  rw [h]
  simp
theorem ok__law_low (M : Md C K mg) (T : Top K mg "_law_low" s__law_low ["_law_numbers"]) (c__law_gcd : CalD C P w K mg base 1 "_law_gcd" ["_law_one_here", "_law_two"] R__law_gcd) : CalD C P w K mg base 2 "_law_low" ["_law_numbers"] R__law_low := by
  refine T.ok sc__law_low (fun ds d h => ?_) fun f cdv A outer s H E hr ds d h => ?_
  · obtain ⟨ns, hg, rfl | rfl, rfl⟩ := h <;> rfl
  · obtain ⟨ns, hg, hds, rfl⟩ := h
    obtain ⟨nz, hnz, hn0⟩ := hg.nz
    have hpos := divOf_pos hnz hn0
    have hcond : ∀ (g n : Nat), (if g = 1 then 1 else Nat.gcd g n) = Nat.gcd g n := fun g n => by
      split
      · rename_i e
        rw [e, Nat.gcd_one_left]
      · rfl
    rcases hds with rfl | rfl
    · refine ds_set 1 rfl sc__law_low.nd dv_int ?_
      refine ds_cons (d1_for (ds := ns.map .int) (fun j => [some (.lst (ns.map .int)), some (.int (divOf (ns.take j) : Int)), none]) (fun j => [some (.lst (ns.map .int)), some (.int (divOf (ns.take j) : Int)), (ns[j]?).map .int]) (wk_list (dv_var 0 rfl rfl)) rfl (fun j d hd => ?_) (fun j d hd => ?_) PassesOwn.never rfl) ?_
      · rw [List.getElem?_map] at hd
        obtain ⟨n, hn, rfl⟩ := Option.map_eq_some_iff.mp hd
        rw [hn]
        exact dg_name 2 rfl sc__law_low.nd
      · rw [List.getElem?_map] at hd
        obtain ⟨n, hn, rfl⟩ := Option.map_eq_some_iff.mp hd
        rw [hn, divOf_take hn]
        refine Ds.wk (ds_set 1 rfl sc__law_low.nd (d := .int (Nat.gcd (divOf (ns.take j)) n.natAbs : Nat)) (dv_if (k := !decide ((divOf (ns.take j) : Int) = 1)) (dp_is (dp_cmp (dv_var 1 rfl rfl) dv_int cd_ne (nomark _)) rfl) (fun hk => dv_is (dv_call c__law_gcd (hr.mono (by decide)) (da_cons (dv_var 1 rfl rfl) (da_cons (dv_var 2 rfl rfl) da_nil)) ⟨_, _, rfl, rfl⟩) (by rw [Int.natAbs_natCast])) (fun hk => dv_is dv_int ?_)) ds_nil) ⟨rfl, rfl, True.intro⟩
        have h1 : (divOf (ns.take j) : Int) = 1 := by simpa using hk
        have h2 : divOf (ns.take j) = 1 := by omega
        rw [h2, Nat.gcd_one_left]
        rfl
      · rw [List.length_map, List.take_length]
        refine ds_ret (dv_if (k := decide (1 < (divOf ns : Int))) (dp_is (dp_cmp (dv_var 1 rfl rfl) dv_int cd_gt (nomark _)) rfl) (fun hk => dv_is (dv_callTy cb_tupL M.tuple bt_tuple (da_cons (dv_lc1 2 (fun d => match d with | .int n => .int (n / (divOf ns : Int)) | _ => .non) (ds := ns.map .int) (wk_list (dv_var 0 rfl rfl)) rfl sc__law_low.nd rfl (blkOk_by (N := N__law_low) (sc := defScope s__law_low) (by decide +kernel)) rfl (by rw [List.length_map]; have := hg.len; omega) (fun d hd s H c cl fp => ?_) (fun d hd => ?_)) da_nil)) ?_) (fun hk => dv_is (dv_callTy cb_tupL M.tuple bt_tuple (da_cons (dv_var 0 rfl rfl) da_nil)) ?_))
        · obtain ⟨i, _, rfl⟩ := List.mem_map.mp hd
          exact dv_fdiv (dv_var 2 rfl rfl) (dv_var 1 rfl rfl) (hg.div i)
        · obtain ⟨i, _, rfl⟩ := List.mem_map.mp hd
          rfl
        · simp [low, iT]
        · have h1 := of_decide_eq_false hk
          rw [div_one (by omega)]
    · refine ds_set 1 rfl sc__law_low.nd dv_int ?_
      refine ds_cons (d1_for (ds := ns.map .int) (fun j => [some (iT ns), some (.int (divOf (ns.take j) : Int)), none]) (fun j => [some (iT ns), some (.int (divOf (ns.take j) : Int)), (ns[j]?).map .int]) (wk_tup (dv_var 0 rfl rfl)) rfl (fun j d hd => ?_) (fun j d hd => ?_) PassesOwn.never rfl) ?_
      · rw [List.getElem?_map] at hd
        obtain ⟨n, hn, rfl⟩ := Option.map_eq_some_iff.mp hd
        rw [hn]
        exact dg_name 2 rfl sc__law_low.nd
      · rw [List.getElem?_map] at hd
        obtain ⟨n, hn, rfl⟩ := Option.map_eq_some_iff.mp hd
        rw [hn, divOf_take hn]
        refine Ds.wk (ds_set 1 rfl sc__law_low.nd (d := .int (Nat.gcd (divOf (ns.take j)) n.natAbs : Nat)) (dv_if (k := !decide ((divOf (ns.take j) : Int) = 1)) (dp_is (dp_cmp (dv_var 1 rfl rfl) dv_int cd_ne (nomark _)) rfl) (fun hk => dv_is (dv_call c__law_gcd (hr.mono (by decide)) (da_cons (dv_var 1 rfl rfl) (da_cons (dv_var 2 rfl rfl) da_nil)) ⟨_, _, rfl, rfl⟩) (by rw [Int.natAbs_natCast])) (fun hk => dv_is dv_int ?_)) ds_nil) ⟨rfl, rfl, True.intro⟩
        have h1 : (divOf (ns.take j) : Int) = 1 := by simpa using hk
        have h2 : divOf (ns.take j) = 1 := by omega
        rw [h2, Nat.gcd_one_left]
        rfl
      · rw [List.length_map, List.take_length]
        refine ds_ret (dv_if (k := decide (1 < (divOf ns : Int))) (dp_is (dp_cmp (dv_var 1 rfl rfl) dv_int cd_gt (nomark _)) rfl) (fun hk => dv_is (dv_callTy cb_tupL M.tuple bt_tuple (da_cons (dv_lc1 2 (fun d => match d with | .int n => .int (n / (divOf ns : Int)) | _ => .non) (ds := ns.map .int) (wk_tup (dv_var 0 rfl rfl)) rfl sc__law_low.nd rfl (blkOk_by (N := N__law_low) (sc := defScope s__law_low) (by decide +kernel)) rfl (by rw [List.length_map]; have := hg.len; omega) (fun d hd s H c cl fp => ?_) (fun d hd => ?_)) da_nil)) ?_) (fun hk => dv_is (dv_callTy cb_tupT M.tuple bt_tuple (da_cons (dv_var 0 rfl rfl) da_nil)) ?_))
        · obtain ⟨i, _, rfl⟩ := List.mem_map.mp hd
          exact dv_fdiv (dv_var 2 rfl rfl) (dv_var 1 rfl rfl) (hg.div i)
        · obtain ⟨i, _, rfl⟩ := List.mem_map.mp hd
          rfl
        · simp [low, iT]
        · have h1 := of_decide_eq_false hk
          rw [div_one (by omega)]
abbrev N__law_minus : List Str := ["_law_numbers", "_law_each"]
theorem sc__law_minus : FnScope N__law_minus ["_law_numbers"] (defScope s__law_minus) := ⟨rfl, rfl, rfl, by decide +kernel, rfl, by decide +kernel, by decide +kernel⟩
theorem ok__law_minus (M : Md C K mg) (T : Top K mg "_law_minus" s__law_minus ["_law_numbers"]) : CalD C P w K mg base 1 "_law_minus" ["_law_numbers"] R__law_minus := by
  refine T.ok sc__law_minus (fun ds d h => ?_) fun f cdv A outer s H E hr ds d h => ?_
  · obtain ⟨r, rfl, rfl⟩ := h
    rfl
  · obtain ⟨r, rfl, rfl⟩ := h
    refine ds_ret (dv_is (dv_callTy cb_tupL M.tuple bt_tuple (da_cons (dv_lc1 1 (fun d => match d with | .int n => .int (0 - n) | _ => .non) (ds := r.t.map .int) (wk_tup (dv_var 0 rfl rfl)) rfl sc__law_minus.nd rfl (blkOk_by (N := N__law_minus) (sc := defScope s__law_minus) (by decide +kernel)) rfl (by simp [Rw.t]) (fun d hd s H c cl fp => ?_) (fun d hd => ?_)) da_nil)) ?_)
    · obtain ⟨x, hx, rfl⟩ := List.mem_map.mp hd
      exact (dv_sub dv_int (dv_var 1 rfl rfl))
    · obtain ⟨x, hx, rfl⟩ := List.mem_map.mp hd
      rfl
    simp only [iT, List.map_cons, List.map_nil, Rw.t, negR, Int.zero_sub]
abbrev N__law_apart : List Str := ["_law_one_here", "_law_two", "_law_x", "_law_y"]
theorem sc__law_apart : FnScope N__law_apart ["_law_one_here", "_law_two"] (defScope s__law_apart) := ⟨rfl, rfl, rfl, by decide +kernel, rfl, by decide +kernel, by decide +kernel⟩
theorem sq_pos {x : Int} (h : x ≠ 0) : 0 < x * x := by
  rcases Int.lt_or_gt_of_ne h with c | c
  · have := Int.mul_pos (show 0 < -x by omega) (show 0 < -x by omega)
    rwa [Int.neg_mul_neg] at this
  · exact Int.mul_pos c c
theorem ok__law_apart (M : Md C K mg) (T : Top K mg "_law_apart" s__law_apart ["_law_one_here", "_law_two"]) (c__law_low : CalD C P w K mg base 2 "_law_low" ["_law_numbers"] R__law_low) : CalD C P w K mg base 3 "_law_apart" ["_law_one_here", "_law_two"] R__law_apart := by
  refine T.ok sc__law_apart (fun ds d h => ?_) fun f cdv A outer s H E hr ds d h => ?_
  · obtain ⟨a, b, c, x, y, z, h1, h2, hc0, hz0, rfl, rfl⟩ := h
    rfl
  · obtain ⟨a, b, c, x, y, z, ⟨a1, a2, a3⟩, ⟨b1, b2, b3⟩, hc0, hz0, rfl, rfl⟩ := h
    have d1 : Sm 129 (a * z - x * c) := ((a1.mul b3).sub (b1.mul a3)).mono (by decide)
    have d2 : Sm 129 (b * z - y * c) := ((a2.mul b3).sub (b2.mul a3)).mono (by decide)
    have gd : Gd [(a * z - x * c) * (a * z - x * c) + (b * z - y * c) * (b * z - y * c), c * c * z * z] := by
      refine ⟨by simp, fun n hn => ?_, c * c * z * z, by simp, ?_⟩
      · simp only [List.mem_cons, List.not_mem_nil, or_false] at hn
        rcases hn with rfl | rfl
        · exact ((d1.mul d1).add (d2.mul d2)).mono (by decide)
        · exact (((a3.mul a3).mul b3).mul b3).mono (by decide)
      · exact Int.mul_ne_zero (Int.mul_ne_zero (Int.mul_ne_zero hc0 hc0) hz0) hz0
    refine ds_cons (d1_par 2 3 (da_cons (dv_sub (dv_mul (dv_ixT (dv_var 0 rfl rfl) dv_int rfl) (dv_ixT (dv_var 1 rfl rfl) dv_int rfl) (by walk_at "bd")) (dv_mul (dv_ixT (dv_var 1 rfl rfl) dv_int rfl) (dv_ixT (dv_var 0 rfl rfl) dv_int rfl) (by walk_at "bd"))) (da_cons (dv_sub (dv_mul (dv_ixT (dv_var 0 rfl rfl) dv_int rfl) (dv_ixT (dv_var 1 rfl rfl) dv_int rfl) (by walk_at "bd")) (dv_mul (dv_ixT (dv_var 1 rfl rfl) dv_int rfl) (dv_ixT (dv_var 0 rfl rfl) dv_int rfl) (by walk_at "bd"))) da_nil)) rfl sc__law_apart.nd rfl rfl (by decide) rfl rfl) ?_
    exact ds_ret (dv_call c__law_low (hr.mono (by decide)) (da_cons (dv_tup (da_cons (dv_add (dv_mul (dv_var 2 rfl rfl) (dv_var 2 rfl rfl) (by walk_at "bd")) (dv_mul (dv_var 3 rfl rfl) (dv_var 3 rfl rfl) (by walk_at "bd"))) (da_cons (dv_mul (dv_mul (dv_mul (dv_ixT (dv_var 0 rfl rfl) dv_int rfl) (dv_ixT (dv_var 0 rfl rfl) dv_int rfl) (by walk_at "bd")) (dv_ixT (dv_var 1 rfl rfl) dv_int rfl) (by walk_at "bd")) (dv_ixT (dv_var 1 rfl rfl) dv_int rfl) (by walk_at "bd")) da_nil))) da_nil) ⟨_, gd, .inr rfl, rfl⟩)
abbrev N__law_under : List Str := ["_law_one_here", "_law_two"]
theorem sc__law_under : FnScope N__law_under ["_law_one_here", "_law_two"] (defScope s__law_under) := ⟨rfl, rfl, rfl, by decide +kernel, rfl, by decide +kernel, by decide +kernel⟩
theorem ok__law_under (M : Md C K mg) (T : Top K mg "_law_under" s__law_under ["_law_one_here", "_law_two"]) : CalD C P w K mg base 1 "_law_under" ["_law_one_here", "_law_two"] R__law_under := by
  refine T.ok sc__law_under (fun ds d h => ?_) fun f cdv A outer s H E hr ds d h => ?_
  · obtain ⟨a, b, x, y, ⟨ha, hb⟩, ⟨hx, hy⟩, rfl, rfl⟩ := h
    rfl
  · obtain ⟨a, b, x, y, ⟨ha, hb⟩, ⟨hx, hy⟩, rfl, rfl⟩ := h
    refine ds_ret (dv_is (dv_cmp (dv_mul (dv_ixT (dv_var 0 rfl rfl) dv_int rfl) (dv_ixT (dv_var 1 rfl rfl) dv_int rfl) (by walk_at "bd")) (dv_mul (dv_ixT (dv_var 1 rfl rfl) dv_int rfl) (dv_ixT (dv_var 0 rfl rfl) dv_int rfl) (by walk_at "bd")) cd_lt (nomark _)) ?_)
    rfl
abbrev N__law_ring_row : List Str := ["_law_pole", "_law_part_here", "_law_p", "_law_s", "_law_r", "_law_n", "_law_m"]
theorem sc__law_ring_row : FnScope N__law_ring_row ["_law_pole", "_law_part_here"] (defScope s__law_ring_row) := ⟨rfl, rfl, rfl, by decide +kernel, rfl, by decide +kernel, by decide +kernel⟩
theorem out_alt (p s r n m : Int) : iT [m * r * r, 0 - 2 * m * p * r, 0 - 2 * m * s * r, m * (p * p + s * s) - n * r * r] = iT (outL p s r n m) := by
  have e : ∀ x : Int, 0 - 2 * m * x * r = -2 * m * x * r := fun x => by
    rw [Int.zero_sub, Int.neg_mul, Int.neg_mul, Int.neg_mul]
  rw [e, e]
  rfl
theorem ok__law_ring_row (M : Md C K mg) (T : Top K mg "_law_ring_row" s__law_ring_row ["_law_pole", "_law_part_here"]) (c__law_low : CalD C P w K mg base 2 "_law_low" ["_law_numbers"] R__law_low) : CalD C P w K mg base 3 "_law_ring_row" ["_law_pole", "_law_part_here"] R__law_ring_row := by
  refine T.ok sc__law_ring_row (fun ds d h => ?_) fun f cdv A outer s H E hr ds d h => ?_
  · obtain ⟨p, s2, r, n, m, hn, hf, rfl, rfl⟩ := h
    rfl
  · obtain ⟨p, s2, r, n, m, hn, hf, rfl, rfl⟩ := h
    have gd := out_gd hn hf
    obtain ⟨⟨h1, h2, h3⟩, h4, h5⟩ := hn
    have a1 := hf.sn
    have a2 := hf.sm
    refine ds_asg (dv_tup (da_cons (dv_ixT (dv_var 0 rfl rfl) dv_int rfl) (da_cons (dv_ixT (dv_var 0 rfl rfl) dv_int rfl) (da_cons (dv_ixT (dv_var 0 rfl rfl) dv_int rfl) (da_cons (dv_ixT (dv_var 1 rfl rfl) dv_int rfl) (da_cons (dv_ixT (dv_var 1 rfl rfl) dv_int rfl) da_nil)))))) (dg_tup rfl (dgs_cons (dg_name 2 rfl sc__law_ring_row.nd) (dgs_cons (dg_name 3 rfl sc__law_ring_row.nd) (dgs_cons (dg_name 4 rfl sc__law_ring_row.nd) (dgs_cons (dg_name 5 rfl sc__law_ring_row.nd) (dgs_cons (dg_name 6 rfl sc__law_ring_row.nd) dgs_nil)))))) ?_
    exact ds_ret (dv_call c__law_low (hr.mono (by decide)) (da_is (da_cons (dv_tup (da_cons (dv_mul (dv_mul (dv_var 6 rfl rfl) (dv_var 4 rfl rfl) (by walk_at "bd")) (dv_var 4 rfl rfl) (by walk_at "bd")) (da_cons (dv_sub dv_int (dv_mul (dv_mul (dv_mul dv_int (dv_var 6 rfl rfl) (by walk_at "bd")) (dv_var 2 rfl rfl) (by walk_at "bd")) (dv_var 4 rfl rfl) (by walk_at "bd"))) (da_cons (dv_sub dv_int (dv_mul (dv_mul (dv_mul dv_int (dv_var 6 rfl rfl) (by walk_at "bd")) (dv_var 3 rfl rfl) (by walk_at "bd")) (dv_var 4 rfl rfl) (by walk_at "bd"))) (da_cons (dv_sub (dv_mul (dv_var 6 rfl rfl) (dv_add (dv_mul (dv_var 2 rfl rfl) (dv_var 2 rfl rfl) (by walk_at "bd")) (dv_mul (dv_var 3 rfl rfl) (dv_var 3 rfl rfl) (by walk_at "bd"))) (by walk_at "bd")) (dv_mul (dv_mul (dv_var 5 rfl rfl) (dv_var 4 rfl rfl) (by walk_at "bd")) (dv_var 4 rfl rfl) (by walk_at "bd"))) da_nil))))) da_nil) (congrArg (fun d => [d]) (out_alt p s2 r n m))) ⟨outL p s2 r n m, gd, .inr rfl, rfl⟩)
abbrev N__law_sack : List Str := ["_law_script", "_law_lap", "_law_cell", "_law_stir", "_law_each"]
theorem sc__law_sack : FnScope N__law_sack ["_law_script", "_law_lap"] (defScope s__law_sack) := ⟨rfl, rfl, rfl, by decide +kernel, rfl, by decide +kernel, by decide +kernel⟩
theorem cut_take (ns : List Int) (k : Nat) : cutD (ns.map .int) none (some (k : Int)) = (ns.take k).map .int := by
  unfold cutD
  rw [HT.sIx_none, HT.sIx_nat, List.drop_zero, Nat.sub_zero, List.length_map, List.map_take]
  rcases Nat.le_total k ns.length with h | h
  · rw [Nat.min_eq_left h]
  · rw [Nat.min_eq_right h, List.take_of_length_le (by rw [List.length_map]; exact Nat.le_refl _), List.take_of_length_le (by rw [List.length_map]; exact h)]
/-- the numbers of a sack -/
def cellF (ns : List Int) (k : Nat) : Int := if k < ns.length then ns.getD k 0 else 6133 * (k : Int) + 47 + (ns.take 4).sum % 1000033
def stirF (x e : Int) : Int := (x * 44017 + e % 2147483579 + 13) % 2147483579
def sackX (ns : List Int) (k : Nat) : Int := if cellF ns k < 0 ∨ 10 ^ 18 ≤ cellF ns k then (if cellF ns k < 0 then -cellF ns k else cellF ns k) else 0
def sackY (ns : List Int) (k : Nat) : Int := (ns.take 10 ++ [cellF ns k]).foldl stirF (35023 + 1201 * (k : Int))
def R__law_sack (ds : List Dt) (d : Dt) : Prop := ∃ (ns : List Int) (k : Nat), k ≤ 3 ∧ ns.length ≤ 63 ∧ ds = [.frl (ns.map .int), .int (k : Nat)] ∧ d = .lst [.int (sackX ns k), .int (sackY ns k), .int 0]
def Yok (y : Int) : Prop := 0 ≤ y ∧ y < 2147483579
theorem stir_ok (x e : Int) : Yok (stirF x e) := ⟨Int.emod_nonneg _ (by decide), Int.emod_lt_of_pos _ (by decide)⟩
theorem stir_all : ∀ (l : List Int) (x : Int), Yok x → Yok (l.foldl stirF x)
  | [], _, h => h
  | e :: l, x, _ => stir_all l (stirF x e) (stir_ok x e)
theorem start_ok {k : Nat} (h : k ≤ 3) : Yok (35023 + 1201 * (k : Int)) := by
  unfold Yok
  omega
theorem sackY_ok (ns : List Int) {k : Nat} (h : k ≤ 3) : Yok (sackY ns k) := stir_all _ _ (start_ok h)
theorem Yok.sm {y : Int} (h : Yok y) : Sm 31 y := by
  obtain ⟨h1, h2⟩ := h
  unfold Sm
  have e : (2 : Nat) ^ 31 = 2147483648 := by decide
  omega
theorem Sm.k16 {x : Int} (h : decide (x.natAbs < 2 ^ 16) = true) : Sm 16 x := show x.natAbs < 2 ^ 16 from of_decide_eq_true h
theorem ok__law_sack (M : Md C K mg) (T : Top K mg "_law_sack" s__law_sack ["_law_script", "_law_lap"]) : CalF C P w K mg base 1 "_law_sack" ["_law_script", "_law_lap"] R__law_sack := by
  refine T.okF sc__law_sack (fun ds d h => ?_) fun f cdv A outer s H E hr ds d h => ?_
  · obtain ⟨ns, k, hk, hl, rfl, rfl⟩ := h
    rfl
  · obtain ⟨ns, k, hk, hl, rfl, rfl⟩ := h
    have hlit : ∀ x : Int, Sm 2 (k : Int) := fun _ => by unfold Sm; omega
    have hk2 : Sm 2 (k : Int) := hlit 0
    have hk16 : Sm 16 (6133 : Int) := Sm.k16 (by decide)
    have hk17 : Sm 16 (1201 : Int) := Sm.k16 (by decide)
    have hk18 : Sm 16 (44017 : Int) := Sm.k16 (by decide)
    refine dsF_cons (d1_set 2 (d := .int (cellF ns k)) (dv_if (k := decide (k < ns.length)) (dp_is (dp_cmp (dv_var 1 rfl rfl) (dv_callB cb_lenF M.len bt_len (da_cons (dv_var 0 rfl rfl) da_nil)) cd_lt (nomark _)) ?_) (fun hk' => ?_) (fun hk' => ?_)) rfl sc__law_sack.nd) ?_
    · rw [List.length_map]
      exact decide_eq_decide.mpr ⟨fun _ => by omega, fun _ => by omega⟩
    · have hlt := of_decide_eq_true hk'
      have hix : L2.atI (ns.map Dt.int) (k : Int) = some (.int (cellF ns k)) := atI_nat (by
        rw [List.getElem?_map]
        unfold cellF
        rw [if_pos hlt]
        simp [hlt])
      exact (dv_callTy cb_int M.int bt_int (da_cons (dv_ixF (dv_var 0 rfl rfl) (dv_var 1 rfl rfl) hix) da_nil))
    · have hlt := of_decide_eq_false hk'
      refine dv_is (dv_add (dv_add (dv_mul dv_int (dv_var 1 rfl rfl) (by walk_at "bd")) dv_int) (dv_mod (dv_callTy cb_int M.int bt_int (da_cons (dv_callB (cb_sum rfl) M.sum bt_sum (da_cons (dv_is (dv_slF (dv_var 0 rfl rfl) do_none (do_some dv_int)) (congrArg Dt.lst (cut_take ns 4))) da_nil)) da_nil)) dv_int (by decide))) ?_
      unfold cellF
      rw [if_neg hlt]
    refine dsF_cons (d1_set 3 (dv_add dv_int (dv_mul dv_int (dv_var 1 rfl rfl) (by walk_at "bd"))) rfl sc__law_sack.nd) ?_
    refine dsF_cons (d1_for (ds := (ns.take 10 ++ [cellF ns k]).map .int) (fun j => [some (.frl (ns.map .int)), some (.int (k : Nat)), some (.int (cellF ns k)), some (.int (((ns.take 10 ++ [cellF ns k]).take j).foldl stirF (35023 + 1201 * (k : Int)))), none]) (fun j => [some (.frl (ns.map .int)), some (.int (k : Nat)), some (.int (cellF ns k)), some (.int (((ns.take 10 ++ [cellF ns k]).take j).foldl stirF (35023 + 1201 * (k : Int)))), ((ns.take 10 ++ [cellF ns k])[j]?).map .int]) (wk_list (dv_is (dv_cat (dv_is (dv_slF (dv_var 0 rfl rfl) do_none (do_some dv_int)) (congrArg Dt.lst (cut_take ns 10))) (dv_lst (da_cons (dv_var 2 rfl rfl) da_nil)) (by rw [List.length_map]; have := List.length_take_le 10 ns; show _ + 1 ≤ _; omega)) (by rw [List.map_append]; rfl))) rfl (fun j d hd => ?_) (fun j d hd => ?_) PassesOwn.never rfl) ?_
    · rw [List.getElem?_map] at hd
      obtain ⟨n, hn, rfl⟩ := Option.map_eq_some_iff.mp hd
      rw [hn]
      exact dg_name 4 rfl sc__law_sack.nd
    · rw [List.getElem?_map] at hd
      obtain ⟨n, hn, rfl⟩ := Option.map_eq_some_iff.mp hd
      rw [hn]
      have htk : ((ns.take 10 ++ [cellF ns k]).take (j + 1)).foldl stirF (35023 + 1201 * (k : Int)) = stirF (((ns.take 10 ++ [cellF ns k]).take j).foldl stirF (35023 + 1201 * (k : Int))) n := by
        rw [List.take_add_one, hn, List.foldl_append]
        rfl
      have hy : Yok (((ns.take 10 ++ [cellF ns k]).take j).foldl stirF (35023 + 1201 * (k : Int))) := stir_all _ _ (start_ok hk)
      have hys := hy.sm
      rw [htk]
      exact Ds.wk (ds_set 3 rfl sc__law_sack.nd (dv_mod (dv_callTy cb_int M.int bt_int (da_cons (dv_add (dv_add (dv_mul (dv_var 3 rfl rfl) dv_int (by walk_at "bd")) (dv_mod (dv_callTy cb_int M.int bt_int (da_cons (dv_var 4 rfl rfl) da_nil)) dv_int (by decide))) dv_int) da_nil)) dv_int (by decide)) ds_nil) ⟨rfl, rfl, rfl, rfl, True.intro⟩
    rw [List.length_map]
    rw [List.take_length]
    refine dsF_ret (dvF_is (dvF_lst (da_cons (dv_if (d := .int (sackX ns k)) (k := decide (cellF ns k < 0 ∨ 10 ^ 18 ≤ cellF ns k)) (dp_is (dp_w (dw_or (dp_cmp (dv_var 2 rfl rfl) dv_int cd_lt (nomark _)) fun _ => (dw_or1 (dp_cmp (dv_var 2 rfl rfl) (dv_pow dv_int dv_int (by unfold CPow; decide)) cd_ge (nomark _))))) ?_) (fun hk' => dv_is (dv_callB cb_abs M.abs bt_abs (da_cons (dv_var 2 rfl rfl) da_nil)) ?_) (fun hk' => dv_is dv_int ?_)) (da_cons (dv_var 3 rfl rfl) (da_cons dv_int da_nil)))) ?_)
    · rw [Bool.decide_or]
      rfl
    · unfold sackX
      rw [if_pos (of_decide_eq_true hk')]
    · unfold sackX
      rw [if_neg (of_decide_eq_false hk')]
    · rfl
end
end K28
set_option Elab.async false
set_option linter.all false
set_option maxRecDepth 100000
set_option maxHeartbeats 0
namespace K28
open PySem PySem.Spec PyProof.Rows L2 Evl

/-! ### the sack: a list of three ints that its functions rewrite -/
abbrev sk : Nat → Bool := fun n => n == 3
def Sk (a : Addr) (n : Nat) (H : Hp) : Prop := ∃ x y z : Int, H a = some (.lst [.int x, .int y, .int z]) ∧ Yok y ∧ 0 ≤ z ∧ z ≤ (n : Int)
theorem Sk.ex {a : Addr} {n : Nat} {H H' : Hp} (h : Sk a n H) (e : Ex H H') : Sk a n H' := by
  obtain ⟨x, y, z, h1, h2⟩ := h
  exact ⟨x, y, z, e _ _ h1, h2⟩
theorem Sk.mono {a : Addr} {n m : Nat} {H : Hp} (h : Sk a n H) (l : n ≤ m) : Sk a m H := by
  obtain ⟨x, y, z, h1, h2, h3, h4⟩ := h
  exact ⟨x, y, z, h1, h2, h3, by omega⟩
theorem ExX.of_ex {a : Addr} {H H' : Hp} (e : Ex H H') : ExX a H H' := fun b o _ h => e b o h
theorem ExX.trans {a : Addr} {H H' H2 : Hp} (e : ExX a H H') (e' : ExX a H' H2) : ExX a H H2 := fun b o n h => e' b o n (e b o n h)
theorem ExX.p {a : Addr} {n : Nat} {H H' : Hp} (e : ExX a H H') (h : Sk a n H) : ExP sk false H H' := fun b o hb hl _ => by
  by_cases c : b = a
  · subst c
    obtain ⟨x, y, z, h1, _⟩ := h
    rw [h1] at hb
    cases hb
    have := hl _ rfl
    cases this
  · exact e b o c hb

def spK (C : Addr) (K : PySem.W.Frag) (R : List Dt → (Dt → Prop) → Nat → Prop) : Sp := fun vs H Q _ => ∃ a n us ds P m, vs = .ref a :: us ∧ RpAll C K H us ds ∧ R ds P m ∧ frs sk false ds = true ∧ Sk a n H ∧ n + m ≤ 1000 ∧ ∀ v H' d, P d → Rp C K H' v d → ExX a H H' → Sk a (n + m) H' → Q v H'
abbrev CalK (C : Addr) (P : Program) (w : World) (K : PySem.W.Frag) (mg : Str → Option Value) (base : Heap) (k : Nat) (x : Str) (ps : List Str) (R : List Dt → (Dt → Prop) → Nat → Prop) : Prop := Cal P w K mg base k x ps (spK C K R)

def tEm (C : Addr) (K : PySem.W.Frag) (a : Addr) (Γ : Env') (n : Nat) (P : Dt → Prop) (n2 : Nat) : TE := fun σ H Q => SD C K H σ Γ ∧ Sk a n H ∧ ∀ v H' d, P d → Rp C K H' v d → ExX a H H' → Sk a n2 H' → Q v H'
def Em (C : Addr) (X : Cx) (a : Addr) (e : Expr) (Γ : Env') (n : Nat) (P : Dt → Prop) (n2 : Nat) : Prop := PE X e (tEm C X.K a Γ n P n2)
def tEma (C : Addr) (K : PySem.W.Frag) (a : Addr) (Γ : Env') (n : Nat) (P : List Dt → Prop) (n2 : Nat) : TA := fun σ H Q => SD C K H σ Γ ∧ Sk a n H ∧ ∀ vs H' ds, P ds → RpAll C K H' vs ds → ExX a H H' → Sk a n2 H' → Q vs H'
def Ema (C : Addr) (X : Cx) (a : Addr) (es : List Expr) (Γ : Env') (n : Nat) (P : List Dt → Prop) (n2 : Nat) : Prop := PA X es (tEma C X.K a Γ n P n2)
/-- a test: where it holds, Q holds -/
def tEt (C : Addr) (K : PySem.W.Frag) (a : Addr) (Γ : Env') (n : Nat) (Q0 : Prop) (n2 : Nat) : TT := fun σ H Q => SD C K H σ Γ ∧ Sk a n H ∧ ∀ (k : Bool) H', (k = true → Q0) → ExX a H H' → Sk a n2 H' → Q k H'
def Et (C : Addr) (X : Cx) (a : Addr) (e : Expr) (Γ : Env') (n : Nat) (Q0 : Prop) (n2 : Nat) : Prop := PT X e (tEt C X.K a Γ n Q0 n2)
def Ew (C : Addr) (X : Cx) (a : Addr) (e : Expr) (Γ : Env') (n : Nat) (Q0 : Prop) (n2 : Nat) : Prop := PW X e (tEt C X.K a Γ n Q0 n2)
def tEs (C : Addr) (K : PySem.W.Frag) (a : Addr) (Γ : Env') (n : Nat) (Rr : Dt → Prop) (n2 : Nat) : TS := fun D σ H => SD C K H σ Γ ∧ Sk a n H ∧ ∀ v H' d, Rr d → Rp C K H' v d → ExX a H H' → Sk a n2 H' → D.rt v H'
def Es (C : Addr) (X : Cx) (a : Addr) (sts : List Stmt) (Γ : Env') (n : Nat) (Rr : Dt → Prop) (n2 : Nat) : Prop := PSs X sts (tEs C X.K a Γ n Rr n2)
section
variable {C : Addr} {X : Cx} {a : Addr} {Γ : Env'} {n n1 n2 n3 : Nat} {e e1 e2 c o i : Expr} {es : List Expr} {pos p : Pos} {d : Dt} {P P1 P2 : Dt → Prop} {Ps : List Dt → Prop} {A rest sts : List Stmt} {Rr : Dt → Prop} {Q0 Q1 : Prop}
theorem em_of {t : TE} (h : PE X e t) (i : ∀ σ H Q, SD C X.K H σ Γ → Sk a n H → (∀ v H' d, P d → Rp C X.K H' v d → ExX a H H' → Sk a n2 H' → Q v H') → t σ H Q) : Em C X a e Γ n P n2 :=
  ⟨fun pins s σ H Q I q => h.run pins s σ H Q I (i σ H Q q.1 q.2.1 q.2.2)⟩
theorem ema_of {t : TA} (h : PA X es t) (i : ∀ σ H Q, SD C X.K H σ Γ → Sk a n H → (∀ vs H' ds, Ps ds → RpAll C X.K H' vs ds → ExX a H H' → Sk a n2 H' → Q vs H') → t σ H Q) : Ema C X a es Γ n Ps n2 :=
  ⟨fun pos pins s σ H Q I q => h.run pos pins s σ H Q I (i σ H Q q.1 q.2.1 q.2.2)⟩
theorem et_of {t : TT} (h : PT X c t) (i : ∀ σ H Q, SD C X.K H σ Γ → Sk a n H → (∀ (k : Bool) H', (k = true → Q0) → ExX a H H' → Sk a n2 H' → Q k H') → t σ H Q) : Et C X a c Γ n Q0 n2 :=
  ⟨fun pins s σ H Q I q => h.run pins s σ H Q I (i σ H Q q.1 q.2.1 q.2.2)⟩
theorem ew_of {t : TT} (h : PW X c t) (i : ∀ σ H Q, SD C X.K H σ Γ → Sk a n H → (∀ (k : Bool) H', (k = true → Q0) → ExX a H H' → Sk a n2 H' → Q k H') → t σ H Q) : Ew C X a c Γ n Q0 n2 :=
  ⟨fun wh pins s σ H Q I q => h.run wh pins s σ H Q I (i σ H Q q.1 q.2.1 q.2.2)⟩
theorem es_of {t : TS} (h : PSs X sts t) (i : ∀ σ H D, SD C X.K H σ Γ → Sk a n H → (∀ v H' d, Rr d → Rp C X.K H' v d → ExX a H H' → Sk a n2 H' → D.rt v H') → t D σ H) : Es C X a sts Γ n Rr n2 :=
  ⟨fun pins s σ H D I q => h.run pins s σ H D I (i σ H D q.1 q.2.1 q.2.2)⟩
theorem em_d (h : Dv C X e Γ d) : Em C X a e Γ n (· = d) n := by
  obtain ⟨t, p, ev⟩ := h
  exact em_of p fun σ H Q hs hk q => ev σ H hs _ fun v H2 e2 r => q v H2 d rfl r (.of_ex e2) (hk.ex e2)
theorem em_imp (h : Em C X a e Γ n P n1) (i : ∀ d, P d → P1 d) (l : n1 ≤ n2) : Em C X a e Γ n P1 n2 := em_of h fun σ H Q hs hk q => ⟨hs, hk, fun v H' d hp r x k => q v H' d (i d hp) r x (k.mono l)⟩
theorem ema_nil : Ema C X a [] Γ n (· = []) n := ema_of pa_nil fun σ H Q hs hk q => q [] H [] rfl .nil (.of_ex (Ex.refl H)) hk
theorem ema_cons (he : Em C X a e Γ n P n1) (hr : Ema C X a es Γ n1 Ps n2) (hΓ : frE sk false Γ = true) (hf : ∀ d, P d → fr sk false d = true) (hst : starEach (e :: es) X.env = (false, eval e X.env) :: starEach es X.env := by rfl) :
    Ema C X a (e :: es) Γ n (fun l => ∃ d ds, l = d :: ds ∧ P d ∧ Ps ds) n2 :=
  ema_of (pa_cons he hr hst) fun σ H Q hs hk q => ⟨hs, hk, fun v H1 d pd rd x1 k1 => ⟨hs.pmono (x1.p hk) hΓ, k1, fun vs H2 ds pds rds x2 k2 => q (v :: vs) H2 (d :: ds) ⟨d, ds, rfl, pd, pds⟩ (.cons (rd.pmono (x2.p k1) (hf d pd)) rds) (x1.trans x2) k2⟩⟩
theorem em_tup {k} (h : Ema C X a es Γ n Ps n2) (i : ∀ l, Ps l → l.length ≤ 1000 ∧ P (.tup l)) : Em C X a (.Tuple es k pos) Γ n P n2 :=
  em_of (pe_tup h) fun σ H Q hs hk q => ⟨hs, hk, fun vs H1 ds pds r x1 k1 => by
    obtain ⟨hl, hp⟩ := i ds pds
    refine ⟨by rw [r.length]; exact Nat.le_trans hl (by decide), fun p hp' => ?_⟩
    have e2 := Ex.new (o := .tup vs) hp'
    exact q _ _ _ hp (.tup (.inl (.inl upd_same)) (r.mono e2)) (x1.trans (.of_ex e2)) (k1.ex e2)⟩
theorem em_lst (h : Ema C X a es Γ n Ps n2) (i : ∀ l, Ps l → l.length ≤ 1000 ∧ P (.lst l)) : Em C X a (.List es pos) Γ n P n2 :=
  em_of (pe_lst h) fun σ H Q hs hk q => ⟨hs, hk, fun vs H1 ds pds r x1 k1 => by
    obtain ⟨hl, hp⟩ := i ds pds
    refine ⟨by rw [r.length]; exact Nat.le_trans hl (by decide), fun p hp' => ?_⟩
    have e2 := Ex.new (o := .lst vs) hp'
    exact q _ _ _ hp (.lst upd_same (r.mono e2)) (x1.trans (.of_ex e2)) (k1.ex e2)⟩
/-- a call of a function of the sack -/
theorem em_call {k : Nat} {x : Str} {ps : List Str} {R : List Dt → (Dt → Prop) → Nat → Prop} (cc : CalK C X.prog X.w X.K X.mg X.base k x ps R) (hr : Room k X.A) (ha : Ema C X a (e :: es) Γ n (fun l => ∃ d ds, l = d :: ds ∧ d = .adr a ∧ Ps ds) n1)
    (hR : ∀ ds, Ps ds → frs sk false ds = true ∧ ∃ P' m, R ds P' m ∧ n1 + m ≤ n2 ∧ ∀ d, P' d → P d) (hn : n2 ≤ 1000) (hg : Gl X x := by rfl) (hdb : (x == ("__debug__" : Str)) = false := by decide)
    (he : starEach (e :: es) X.env = (false, eval e X.env) :: starEach es X.env := by rfl) (hpl : (backTo pos (starEach es X.env)).any (·.1) = false := by rfl) : Em C X a (.Call (.Name x p) (e :: es) [] pos) Γ n P n2 := by
  obtain ⟨f, fd, F, hm, hk, hb⟩ := cc.ex
  refine em_of (pe_call F hr hg hm hk hb .nil pass0 ha hdb he hpl) fun σ H Q hs hk q => ⟨hs, hk, fun vs H1 l pl rl x1 k1 => ?_⟩
  obtain ⟨d, ds, rfl, rfl, pds⟩ := pl
  cases rl with
  | cons r rs =>
    cases r.adr_eq
    obtain ⟨hf, P', m, hR', hm', hP'⟩ := hR ds pds
    exact ⟨a, n1, _, ds, P', m, by rw [List.append_nil], rs, hR', hf, k1, by omega, fun v H' d pd rd x2 k2 => q v H' d (hP' d pd) rd (x1.trans x2) (k2.mono hm')⟩
/-- a call of a function of data -/
theorem em_callD {k : Nat} {x : Str} {ps : List Str} {R : List Dt → Dt → Prop} (cc : CalD C X.prog X.w X.K X.mg X.base k x ps R) (hr : Room k X.A) (ha : Ema C X a (e :: es) Γ n Ps n2)
    (hR : ∀ ds, Ps ds → ∃ d, R ds d ∧ P d) (hg : Gl X x := by rfl) (hdb : (x == ("__debug__" : Str)) = false := by decide)
    (he : starEach (e :: es) X.env = (false, eval e X.env) :: starEach es X.env := by rfl) (hpl : (backTo pos (starEach es X.env)).any (·.1) = false := by rfl) : Em C X a (.Call (.Name x p) (e :: es) [] pos) Γ n P n2 := by
  obtain ⟨f, fd, F, hm, hk, hb⟩ := cc.ex
  refine em_of (pe_call F hr hg hm hk hb .nil pass0 ha hdb he hpl) fun σ H Q hs hk q => ⟨hs, hk, fun vs H1 l pl rl x1 k1 => ?_⟩
  obtain ⟨d, hR', hP⟩ := hR l pl
  exact ⟨l, d, hR', by rw [List.append_nil]; exact rl, fun v H2 e2 r => q v H2 d hP r (x1.trans (.of_ex e2)) (k1.ex e2)⟩
theorem em_bin {op : Operator} {r : R2} (ho : OpR X (binaryOp op) r) (h1 : Em C X a e1 Γ n P1 n1) (h2 : Em C X a e2 Γ n1 P2 n2) (hΓ : frE sk false Γ = true)
    (hr : ∀ d1, P1 d1 → ∃ i, d1 = .int i ∧ ∀ d2, P2 d2 → ∃ j k, d2 = .int j ∧ P (.int k) ∧ ∀ H Q, Q (.int k) H → r (.int i) (.int j) H Q) : Em C X a (.BinOp e1 op e2 pos) Γ n P n2 :=
  em_of (pe_op ho h1 h2) fun σ H Q hs hk q => ⟨hs, hk, fun v H1 d pd rd x1 k1 => by
    obtain ⟨i, rfl, hi⟩ := hr d pd
    cases rd
    refine ⟨hs.pmono (x1.p hk) hΓ, k1, fun u H2 d2 pd2 rd2 x2 k2 => ?_⟩
    obtain ⟨j, k, rfl, hP, hr2⟩ := hi d2 pd2
    cases rd2
    exact hr2 H2 Q (q _ H2 _ hP (.int k) (x1.trans x2) k2)⟩
theorem em_int (h : Em C X a e Γ n P n2) (hi : ∀ d, P d → ∃ i, d = .int i) (hm : X.mg "int" = none) (hg : Gl X "int" := by rfl) (he : starEach (e :: []) X.env = (false, eval e X.env) :: starEach [] X.env := by rfl) (hpl : (backTo pos (starEach [] X.env)).any (·.1) = false := by rfl) :
    Em C X a (.Call (.Name "int" p) [e] [] pos) Γ n P n2 := by
  refine em_of (pe_callTy call_int1 hg hm bt_int (pa_cons h pa_nil he) (by decide) (by decide) he hpl) fun σ H Q hs hk q => ⟨hs, hk, fun v H1 d pd rd x1 k1 => ?_⟩
  obtain ⟨i, rfl⟩ := hi d pd
  cases rd
  exact .inl ⟨i, rfl, q _ H1 _ pd (.int i) x1 k1⟩
theorem em_ix {xs : List Dt} (ha : Dv C X o Γ (.lst xs)) (hb : Em C X a i Γ n P n2) (hx : fr sk false (.lst xs) = true) (h : ∀ d, P d → ∃ j d', d = .int j ∧ L2.atI xs j = some d' ∧ P1 d') (hp : PlainIx i := by exact fun _ _ => rfl) : Em C X a (.Subscript o i pos) Γ n P1 n2 := by
  obtain ⟨ta, pa, ea⟩ := ha
  refine em_of (pe_ix ix_list pa hb hp) fun σ H Q hs hk q => ea σ H hs _ fun v H1 e1 r1 => ⟨hs.mono e1, hk.ex e1, fun u H2 d pd rd x2 k2 => ?_⟩
  obtain ⟨j, d', rfl, hj, hP⟩ := h d pd
  cases rd
  have r2 := r1.pmono (x2.p (hk.ex e1)) hx
  cases r2 with
  | lst h1 h2 =>
    obtain ⟨w, hw, rw'⟩ := h2.atI hj
    exact ⟨_, _, j, w, rfl, rfl, .inl (.inl h1), hw, q w H2 d' hP rw' ((ExX.of_ex e1).trans x2) k2⟩
/-! tests -/
theorem et_d {k : Bool} (h : Dp' C X c Γ k) : Et C X a c Γ n (k = true) n := by
  obtain ⟨t, p, ev⟩ := h
  exact et_of p fun σ H Q hs hk q => ev σ H hs _ fun H2 e2 => q k H2 id (.of_ex e2) (hk.ex e2)
/-- a comparison of an int that comes of the sack -/
theorem et_eq (h1 : Em C X a e1 Γ n P1 n2) (h2 : ∀ d, P1 d → ∃ j, d = .int j) {j : Int} (h3 : Dv C X e2 Γ (.int j)) (hΓ : frE sk false Γ = true) (hm : behindInMarks .Eq e2 = false) : Et C X a (.Compare e1 [.Eq] [e2] pos) Γ n True n2 := by
  obtain ⟨tb, pb, eb⟩ := h3
  refine et_of (pt_cmpR op_eq h1 pb hm) fun σ H Q hs hk q => ⟨hs, hk, fun v H1 d pd rd x1 k1 => eb σ H1 (hs.pmono (x1.p hk) hΓ) _ fun u H2 e2 r2 => ?_⟩
  obtain ⟨i, rfl⟩ := h2 d pd
  cases rd
  cases r2
  exact ⟨rfl, _, rfl, q _ H2 (fun _ => True.intro) (x1.trans (.of_ex e2)) (k1.ex e2)⟩
theorem et_w (h : Ew C X a c Γ n Q0 n2) : Et C X a c Γ n Q0 n2 := et_of (PW.pt h) fun σ H Q hs hk q => ⟨hs, hk, q⟩
theorem ew_and1 (h : Et C X a c Γ n Q0 n2) : Ew C X a (.BoolOp .And [c] pos) Γ n Q0 n2 := ew_of (pw_and1 h) fun σ H Q hs hk q => ⟨hs, hk, q⟩
theorem ew_and (h1 : Et C X a c Γ n Q0 n1) (h2 : Ew C X a (.BoolOp .And (e :: es) pos) Γ n1 Q1 n2) (l : n1 ≤ n2) (hΓ : frE sk false Γ = true) : Ew C X a (.BoolOp .And (c :: e :: es) pos) Γ n (Q0 ∧ Q1) n2 :=
  ew_of (pw_and h1 h2) fun σ H Q hs hk q => ⟨hs, hk, fun k H1 hk1 x1 k1 => by
    cases k with
    | true => exact iteT ⟨hs.pmono (x1.p hk) hΓ, k1, fun k2 H2 hq x2 k3 => q k2 H2 (fun z => ⟨hk1 rfl, hq z⟩) (x1.trans x2) k3⟩
    | false => exact iteF (q false H1 (fun z => nomatch z) x1 (k1.mono l))⟩
/-! statements -/
theorem es_ret (h : Em C X a e Γ n Rr n2) : Es C X a (.Return (some e) pos :: rest) Γ n Rr n2 := es_of (pss_cons (ps_ret h) (pss_never (sts := rest))) fun σ H D hs hk q => ⟨hs, hk, q⟩
theorem es_d (h : Ds C X sts Γ (.rt d)) (i : Rr d) : Es C X a sts Γ n Rr n := by
  obtain ⟨t, p, ev⟩ := h
  exact es_of p fun σ H D hs hk q => ev σ H hs D fun v H2 e2 r => q v H2 d i r (.of_ex e2) (hk.ex e2)
theorem es_up (h : Es C X a sts Γ n Rr n1) (l : n1 ≤ n2) : Es C X a sts Γ n Rr n2 := es_of h fun σ H D hs hk q => ⟨hs, hk, fun v H' d hd r x k => q v H' d hd r x (k.mono l)⟩
theorem es_set (j : Nat) {x : Str} {pos' : Pos} (hi : X.N[j]? = some x) (hN : X.N.Nodup) (h : Em C X a e Γ n P n1) (hΓ : frE sk false Γ = true) (k : ∀ d, P d → Es C X a rest (Γ.set j (some d)) n1 Rr n2) (hx : Loc X.env.scope x := by first | exact Or.inl rfl | exact Or.inr rfl) (hs : swapsWith e (some (.Name x pos')) pos.line X.env = pure false := by rfl)
    (hf : X.fn x = true ∨ X.env.scope.names.lookup x = some .local := by first | exact .inl rfl | exact .inr rfl) : Es C X a (.Assign [.Name x pos'] e pos :: rest) Γ n Rr n2 := by
  let u : TS := fun D σ H => ∃ d, P d ∧ tEs C X.K a (Γ.set j (some d)) n1 Rr n2 D σ H
  have pu : PSs X rest u := ⟨fun pins s σ H D I ⟨d, hd, q⟩ => (k d hd).run pins s σ H D I q⟩
  exact es_of (pss_cons (ps_set (i := j) hN hi hx h hs hf) pu) fun σ H D hs hk q => ⟨hs, hk, fun v H1 d pd rd x1 k1 => ⟨d, pd, (hs.pmono (x1.p hk) hΓ).set rd j, k1, fun v2 H2 d2 hd2 r2 x2 k2 => q v2 H2 d2 hd2 r2 (x1.trans x2) k2⟩⟩
/-- x, y = .., .. -/
theorem es_par (j l : Nat) {x y : Str} {px py pt : Pos} {kt k2 pt2} (ha : Ema C X a [e1, e2] Γ n (fun q => ∃ d ds, q = d :: ds ∧ P1 d ∧ ∃ d' ds', ds = d' :: ds' ∧ P2 d' ∧ ds' = []) n1) (hc : X.calm = true) (hN : X.N.Nodup) (hi : X.N[j]? = some x) (hj : X.N[l]? = some y) (hij : j ≠ l) (hx : X.env.scope.names.lookup x = some .local) (hy : X.env.scope.names.lookup y = some .local)
    (hΓ : frE sk false Γ = true) (k : ∀ d1 d2, P1 d1 → P2 d2 → Es C X a rest ((Γ.set j (some d1)).set l (some d2)) n1 Rr n2)
    (hw : swappedStores [.Tuple [.Name x px, .Name y py] kt pt] (.Tuple [e1, e2] k2 pt2) X.env = pure (some [x, y]) := by rfl) (hs : swapsWithSole [.Tuple [.Name x px, .Name y py] kt pt] (.Tuple [e1, e2] k2 pt2) pos.line X.env = pure false := by rfl) :
    Es C X a (.Assign [.Tuple [.Name x px, .Name y py] kt pt] (.Tuple [e1, e2] k2 pt2) pos :: rest) Γ n Rr n2 := by
  let u : TS := fun D σ H => ∃ d1 d2, P1 d1 ∧ P2 d2 ∧ tEs C X.K a ((Γ.set j (some d1)).set l (some d2)) n1 Rr n2 D σ H
  have pu : PSs X rest u := ⟨fun pins s σ H D I ⟨d1, d2, h1, h2, q⟩ => (k d1 d2 h1 h2).run pins s σ H D I q⟩
  refine es_of (pss_cons (ps_par (i := j) (j := l) hc hN hi hj hij hx hy ha hw hs) pu) fun σ H D hs hk q => ⟨hs, hk, fun vs H1 ds pds rs x1 k1 => ?_⟩
  obtain ⟨d1, _, rfl, h1, d2, _, rfl, h2, rfl⟩ := pds
  obtain ⟨v, z, rfl, r1, r2⟩ := rs.two
  exact ⟨v, z, rfl, d1, d2, h1, h2, ((hs.pmono (x1.p hk) hΓ).set r1 j).set r2 l, k1, fun v2 H2 d3 hd2 r3 x2 k2 => q v2 H2 d3 hd2 r3 (x1.trans x2) k2⟩
theorem es_if {A : List Stmt} (h : Et C X a c Γ n Q0 n1) (hΓ : frE sk false Γ = true) (h1 : Q0 → Es C X a A Γ n1 Rr n2) (h2 : Es C X a rest Γ n1 Rr n2) : Es C X a (.If c A [] pos :: rest) Γ n Rr n2 := by
  let u : TS := fun D σ H => Q0 ∧ tEs C X.K a Γ n1 Rr n2 D σ H
  have pu : PSs X A u := ⟨fun pins s σ H D I ⟨hq, q⟩ => (h1 hq).run pins s σ H D I q⟩
  refine es_of (pss_cons (ps_if h pu pss_nil) h2) fun σ H D hs hk q => ⟨hs, hk, fun k H1 hk1 x1 k1 => ?_⟩
  have hs' := hs.pmono (x1.p hk) hΓ
  cases k with
  | true => exact iteT ⟨hk1 rfl, hs', k1, fun v H' d hd r x2 k2 => q v H' d hd r (x1.trans x2) k2⟩
  | false => exact iteF ⟨hs', k1, fun v H' d hd r x2 k2 => q v H' d hd r (x1.trans x2) k2⟩
theorem es_ifT {A : List Stmt} (hc : Dp' C X c Γ true) (h : Es C X a A Γ n Rr n2) : Es C X a (.If c A [] pos :: rest) Γ n Rr n2 := by
  obtain ⟨tc, pc, ec⟩ := hc
  exact es_of (pss_cons (ps_if pc h pss_nil) (pss_never (sts := rest))) fun σ H D hs hk q => ec σ H hs _ fun H1 e1 => iteT ⟨hs.mono e1, hk.ex e1, fun v H' d hd r x2 k2 => q v H' d hd r ((ExX.of_ex e1).trans x2) k2⟩
theorem es_ifF {A : List Stmt} (hc : Dp' C X c Γ false) (h : Es C X a rest Γ n Rr n2) : Es C X a (.If c A [] pos :: rest) Γ n Rr n2 := by
  obtain ⟨tc, pc, ec⟩ := hc
  exact es_of (pss_cons (ps_if pc (pss_never (sts := A)) pss_nil) h) fun σ H D hs hk q => ec σ H hs _ fun H1 e1 => iteF ⟨hs.mono e1, hk.ex e1, fun v H' d hd r x2 k2 => q v H' d hd r ((ExX.of_ex e1).trans x2) k2⟩
/-- if c: x = e; rest, whichever way -/
theorem es_ifset (j : Nat) {x : Str} {pos' ps : Pos} {d0 : Dt} (hc : Et C X a c Γ n Q0 n1) (hj : Γ[j]? = some (some d0)) (h0 : P d0) (he : Q0 → ∃ d, P d ∧ Dv C X e Γ d) (hi : X.N[j]? = some x) (hN : X.N.Nodup) (hΓ : frE sk false Γ = true) (k : ∀ d, P d → Es C X a rest (Γ.set j (some d)) n1 Rr n2)
    (hx : Loc X.env.scope x := by first | exact Or.inl rfl | exact Or.inr rfl) (hs : swapsWith e (some (.Name x pos')) ps.line X.env = pure false := by rfl) (hf : X.fn x = true ∨ X.env.scope.names.lookup x = some .local := by first | exact .inl rfl | exact .inr rfl) :
    Es C X a (.If c [.Assign [.Name x pos'] e ps] [] pos :: rest) Γ n Rr n2 := by
  let u : TS := fun D σ H => ∃ d, P d ∧ tEs C X.K a (Γ.set j (some d)) n1 Rr n2 D σ H
  have pu : PSs X rest u := ⟨fun pins s σ H D I ⟨d, hd, q⟩ => (k d hd).run pins s σ H D I q⟩
  let te : TE := fun σ H Q => Q0 ∧ SD C X.K H σ Γ ∧ ∀ v H' d, P d → Rp C X.K H' v d → Ex H H' → Q v H'
  have pte : PE X e te := ⟨fun pins s σ H Q I ⟨hq, hs, q⟩ => by
    obtain ⟨d, hd, t, p, ev⟩ := he hq
    exact p.run pins s σ H Q I (ev σ H hs Q fun v H2 e2 r => q v H2 d hd r e2)⟩
  refine es_of (pss_cons (ps_if hc (pss_cons (ps_set (i := j) hN hi hx pte hs hf) pss_nil) pss_nil) pu) fun σ H D hs hk q => ⟨hs, hk, fun b H1 hb x1 k1 => ?_⟩
  have hs' := hs.pmono (x1.p hk) hΓ
  cases b with
  | true => exact iteT ⟨hb rfl, hs', fun v H2 d hd r e2 => ⟨d, hd, (hs'.mono e2).set r j, k1.ex e2, fun v3 H3 d3 hd3 r3 x3 k3 => q v3 H3 d3 hd3 r3 ((x1.trans (.of_ex e2)).trans x3) k3⟩⟩
  | false =>
    refine iteF ⟨d0, h0, ?_, k1, fun v3 H3 d3 hd3 r3 x3 k3 => q v3 H3 d3 hd3 r3 (x1.trans x3) k3⟩
    obtain ⟨v, h1, h2⟩ := hs'.get hj
    have z := hs'.set h2 j
    rw [set_self h1] at z
    exact z
end
section
variable {C : Addr} {P : Program} {w : World} {K : PySem.W.Frag} {mg : Str → Option Value} {base : Heap}
theorem Top.okK {x : Str} {st : Stmt} {p0 : Str} {ps N : List Str} {k : Nat} {R : List Dt → (Dt → Prop) → Nat → Prop} (T : Top K mg x st (p0 :: ps)) (S : FnScope N (p0 :: ps) (defScope st)) (len : ∀ ds Pd m, R ds Pd m → ds.length = ps.length)
    (h : ∀ f cdv A outer s H E, Room k (Xd P w K mg base N x st f cdv A outer s H E).A → ∀ ds Pd m, R ds Pd m → frs sk false ds = true → ∀ a n, n + m ≤ 1000 → Es C (Xd P w K mg base N x st f cdv A outer s H E) a (defBody st) (env0 N (.adr a :: ds)) n Pd (n + m)) :
    CalK C P w K mg base (k + 1) x (p0 :: ps) R := by
  obtain ⟨f, fd, F, hm, hb⟩ := T.ex
  refine ⟨f, fd, F.ok S (fun vs H Q E h => ?_) (fun cdv A outer s H vs Q E hr h' => ?_), hm, F.kp, hb⟩
  · obtain ⟨a, n, us, ds, Pd, m, rfl, rp, hR, _⟩ := h
    rw [List.length_cons, List.length_cons, rp.length, len ds Pd m hR]
  · obtain ⟨a, n, us, ds, Pd, m, rfl, rp, hR, hf, hk, hn, q⟩ := h'
    refine ⟨_, h f cdv A outer s H E hr ds Pd m hR hf a n hn, ?_, hk, q⟩
    unfold L2.start
    have e : (V.ref a :: us).length = (Dt.adr a :: ds).length := by rw [List.length_cons, List.length_cons, rp.length]
    rw [e]
    exact SD.of_args _ (.cons (.adr a) rp)
end
end K28
set_option Elab.async false
set_option linter.all false
set_option maxRecDepth 100000
set_option maxHeartbeats 0
namespace K28
open PySem PySem.Spec PyProof.Rows L2 Evl
local macro_rules | `(tactic| walk_at "bd") => `(tactic| (refine' cmul ?ha ?hb ?hc; (case ha => repeat' (first | assumption | exact Sm.lit (by decide) | apply Sm.mul | apply Sm.add | apply Sm.sub | apply Sm.neg)); (case hb => repeat' (first | assumption | exact Sm.lit (by decide) | apply Sm.mul | apply Sm.add | apply Sm.sub | apply Sm.neg)); (case hc => decide)))
section
variable {C : Addr} {P : Program} {w : World} {K : PySem.W.Frag} {mg : Str → Option Value} {base : Heap}

/-! ### the functions of the sack -/
def BxG (H0 : Hp) (a : Addr) (x y z : Int) (H : Hp) : Prop := ExX a H0 H ∧ H a = some (.lst [.int x, .int y, .int z])
theorem BxG.grow {H0 : Hp} {a : Addr} {x y z : Int} : Grow (BxG H0 a x y z) := fun H H' e h => ⟨h.1.trans (.of_ex e), e _ _ h.2⟩
theorem es_raw {X : Cx} {a : Addr} {sts : List Stmt} {Γ : Env'} {n n2 : Nat} {Rr : Dt → Prop} (h : ∀ H0 x y z, Yok y → 0 ≤ z → z ≤ (n : Int) → Hs X sts (Sg C X.K Γ (BxG H0 a x y z)) (fun _ _ => False) (fun v H' => ∃ d, Rr d ∧ Rp C X.K H' v d ∧ ExX a H0 H' ∧ Sk a n2 H')) : Es C X a sts Γ n Rr n2 :=
  ⟨fun pins s σ H D I ⟨hs, ⟨x, y, z, h1, h2, h3, h4⟩, q⟩ => (h H x y z h2 h3 h4).run pins s σ H D I ⟨⟨hs, fun _ _ _ e => e, h1⟩, fun _ _ z => z.elim, fun v H' ⟨d, a, b, c, e⟩ => q v H' d a b c e⟩⟩
/-- what the sack is, as data -/
theorem bx_data {X : Cx} {a : Addr} {Γ : Env'} {H0 H : Hp} {σ : L2.St} {x y z : Int} (h : Sg C X.K (some (.adr a) :: Γ) (BxG H0 a x y z) σ H) : SD C X.K H σ (some (.lst [.int x, .int y, .int z]) :: Γ) :=
  h.1.adr_to (i := 0) rfl (.lst h.2.2 (.cons (.int x) (.cons (.int y) (.cons (.int z) .nil))))
section
variable {X : Cx} {a : Addr} {Γ : Env'} {H0 : Hp} {x y z x' y' z' v : Int} {e o i : Expr} {R : V → Hp → Prop} {pos pos' : Pos}
/-- sack[k] = e -/
theorem h1_sack (k : Nat) (he : Dv C X e (some (.lst [.int x, .int y, .int z]) :: Γ) (.int v)) (ho : Dv C X o (some (.adr a) :: Γ) (.adr a)) (hi : Dv C X i (some (.adr a) :: Γ) (.int (k : Nat))) (hk : k < 3) (hΓ : frE sk false Γ = true) (hv : ([V.int x, V.int y, V.int z] : List V).set k (.int v) = [.int x', .int y', .int z'])
    (hs : swapsWithSole [.Subscript o i pos'] e pos.line X.env = pure false := by rfl) (hw : swappedStores [.Subscript o i pos'] e X.env = pure none := by rfl) (h1 : (assignEach [.Subscript o i pos'] X.env).map (·.2) = [assign (.Subscript o i pos') X.env] := by rfl)
    (hasn : ∀ v, assign (.Subscript o i pos') X.env v = (do
      let box ← holding [v] (eval o X.env)
      let key ← holding [v, box] (eval i X.env)
      standAt pos'
      holding [v, box, key] (setItem box key v)
      release [v, box, key] []) := by intro _; rfl) :
    H1 X (.Assign [.Subscript o i pos'] e pos) (Sg C X.K (some (.adr a) :: Γ) (BxG H0 a x y z)) (Sg C X.K (some (.adr a) :: Γ) (BxG H0 a x' y' z')) R := by
  obtain ⟨te, pe, ee⟩ := he
  obtain ⟨to, po, eo⟩ := ho
  obtain ⟨ti, pi, ei⟩ := hi
  refine h1_of (ps_asg pe (pg_sub po pi set_list hasn) hs hw h1) fun σ H D h q _ => ee σ H (bx_data h) _ fun u H1 e1 r1 => eo σ H1 (h.1.mono e1) _ fun w H2 e2 r2 => ei σ H2 (h.1.mono (e1.trans e2)) _ fun t H3 e3 r3 => ?_
  cases r1
  cases r2.adr_eq
  cases r3
  have e := (e1.trans e2).trans e3
  have hl := e _ _ h.2.2
  have hx : ExP sk false H3 (upd H3 a (.lst ([V.int x, V.int y, V.int z].set k (.int v)))) := ExP.of_lst hl rfl
  refine ⟨a, _, (k : Int), k, rfl, rfl, hl, ?_, q _ _ ⟨(h.1.mono e).pmono hx (by simp [frE, fr, hΓ]), fun b o nb hb => ?_, ?_⟩⟩
  · unfold ixN
    rw [if_pos (by omega), if_pos (by show (k : Int) < 3; omega)]
    simp
  · rw [upd_ne nb]
    exact e _ _ (h.2.1 b o nb hb)
  · rw [upd_same, hv]
theorem h1_setB (j : Nat) {nm : Str} {d : Dt} (he : Dv C X e (some (.lst [.int x, .int y, .int z]) :: Γ) d) (hi : X.N[j]? = some nm) (hN : X.N.Nodup) (hx : Loc X.env.scope nm := by first | exact Or.inl rfl | exact Or.inr rfl) (hs : swapsWith e (some (.Name nm pos')) pos.line X.env = pure false := by rfl)
    (hf : X.fn nm = true ∨ X.env.scope.names.lookup nm = some .local := by first | exact .inl rfl | exact .inr rfl) : H1 X (.Assign [.Name nm pos'] e pos) (Sg C X.K (some (.adr a) :: Γ) (BxG H0 a x y z)) (Sg C X.K ((some (.adr a) :: Γ).set j (some d)) (BxG H0 a x y z)) R := by
  obtain ⟨te, pe, ee⟩ := he
  exact h1_of (ps_set (i := j) hN hi hx pe hs hf) fun σ H D h q _ => ee σ H (bx_data h) _ fun u H1 e1 r1 => q _ _ ⟨(h.1.mono e1).set r1 j, BxG.grow _ _ e1 h.2⟩
theorem hs_retB {rest : List Stmt} {d : Dt} {Ψ : Asn} (he : Dv C X e (some (.lst [.int x, .int y, .int z]) :: Γ) d) (h : ∀ v H, Rp C X.K H v d → BxG H0 a x y z H → R v H) : Hs X (.Return (some e) pos :: rest) (Sg C X.K (some (.adr a) :: Γ) (BxG H0 a x y z)) Ψ R := by
  obtain ⟨te, pe, ee⟩ := he
  exact hs_retE pe fun σ H hh Q q => ee σ H (bx_data hh) _ fun u H1 e1 r1 => q _ _ (h _ _ r1 (BxG.grow _ _ e1 hh.2))
/-- sack[0], digit = divmod(sack[0], many) -/
theorem h1_dm {es : List Expr} {e1 : Expr} {p0 pc ps p3 pt p4 pd : Pos} {kt j0} {xs dg : Str} {many : Int} {q1 q2 : Option Dt} (ha : Da C X (e1 :: es) (some (.lst [.int x, .int y, .int z]) :: some (.int many) :: q1 :: q2 :: []) [.int x, .int many]) (hdm : Unit → Gl X "divmod") (hm : X.mg "divmod" = none) (h1 : 0 < many) (h2 : many < 1073741824) (hN0 : X.N[0]? = some xs) (hN : X.N.Nodup) (hN3 : X.N[3]? = some dg)
    (he : starEach (e1 :: es) X.env = (false, eval e1 X.env) :: starEach es X.env := by rfl) (hpl : (backTo pc (starEach es X.env)).any (·.1) = false := by rfl) (hc : X.calm = true := by rfl) (hv : Vis X.env.scope xs := by exact Or.inl rfl) (hv1 : (xs == ("__debug__" : Str)) = false := by decide) (hv2 : (xs == ("__classdict__" : Str)) = false := by decide) (hl : Loc X.env.scope dg := by exact Or.inl rfl) (hfn : X.fn dg = true ∨ X.env.scope.names.lookup dg = some .local := by exact .inl rfl)
    (hasn : ∀ v, assign (.Subscript (.Name xs p3) (.Constant (.int 0) j0 p4) ps) X.env v = (do
      let box ← holding [v] (eval (.Name xs p3) X.env)
      let key ← holding [v, box] (eval (.Constant (.int 0) j0 p4) X.env)
      standAt ps
      holding [v, box, key] (setItem box key v)
      release [v, box, key] []) := by intro _; rfl)
    (hs2 : (assignEach [.Name dg pd] X.env).map (·.2) = assign (.Name dg pd) X.env :: (assignEach [] X.env).map (·.2) := by rfl) (hs1 : (assignEach [.Subscript (.Name xs p3) (.Constant (.int 0) j0 p4) ps, .Name dg pd] X.env).map (·.2) = assign (.Subscript (.Name xs p3) (.Constant (.int 0) j0 p4) ps) X.env :: (assignEach [.Name dg pd] X.env).map (·.2) := by rfl)
    (hlen : (assignEach [.Subscript (.Name xs p3) (.Constant (.int 0) j0 p4) ps, .Name dg pd] X.env).length = 2 := by rfl) (hst : (assignEach [.Subscript (.Name xs p3) (.Constant (.int 0) j0 p4) ps, .Name dg pd] X.env).findIdx? (·.1) = none := by rfl)
    (hs : swapsWithSole [.Tuple [.Subscript (.Name xs p3) (.Constant (.int 0) j0 p4) ps, .Name dg pd] kt pt] (.Call (.Name "divmod" p0) (e1 :: es) [] pc) pos.line X.env = pure false := by rfl) (hw : swappedStores [.Tuple [.Subscript (.Name xs p3) (.Constant (.int 0) j0 p4) ps, .Name dg pd] kt pt] (.Call (.Name "divmod" p0) (e1 :: es) [] pc) X.env = pure none := by rfl)
    (ht : (assignEach [.Tuple [.Subscript (.Name xs p3) (.Constant (.int 0) j0 p4) ps, .Name dg pd] kt pt] X.env).map (·.2) = [assign (.Tuple [.Subscript (.Name xs p3) (.Constant (.int 0) j0 p4) ps, .Name dg pd] kt pt) X.env] := by rfl) :
    H1 X (.Assign [.Tuple [.Subscript (.Name xs p3) (.Constant (.int 0) j0 p4) ps, .Name dg pd] kt pt] (.Call (.Name "divmod" p0) (e1 :: es) [] pc) pos) (Sg C X.K (some (.adr a) :: some (.int many) :: q1 :: q2 :: []) (BxG H0 a x y z)) (Sg C X.K [some (.adr a), some (.int many), none, some (.int (x % many))] (BxG H0 a (x / many) y z)) R := by
  obtain ⟨ta, pa, ea⟩ := ha
  refine h1_of (ps_asg (pe_callB call_divmod (hdm ()) hm bt_divmod pa (by decide) (by decide) he hpl) (pg_tup (n := 2) hc (pgs_cons (pg_sub (pe_var (i := 0) hN0 hv hv1 hv2) pe_int set_list hasn) (pgs_cons (pg_name (i := 3) hN hN3 hl hfn) pgs_nil hs2) hs1) hlen hst) hs hw ht) fun σ H D h q _ => ea σ H (bx_data h) _ fun vs H1 e1 r1 => ?_
  obtain ⟨v, u, rfl, r2, r3⟩ := r1.two
  cases r2
  cases r3
  refine ⟨x, many, rfl, ⟨h1, h2⟩, fun p hp => ?_⟩
  have e2 := Ex.new (o := .tup [.int (x / many), .int (x % many)]) hp
  have hs2 : SD C X.K _ σ [some (.adr a), some (.int many), none, none] := (h.1.mono (e1.trans e2)).less ⟨rfl, rfl, by cases q1 <;> cases q2 <;> exact True.intro⟩
  obtain ⟨v0, hv0, rv0⟩ := hs2.get (i := 0) rfl
  cases rv0.adr_eq
  have hl2 := (e1.trans e2) _ _ h.2.2
  refine ⟨p, _, rfl, .inl (.inl upd_same), rfl, V.int (x / many), [V.int (x % many)], rfl, ?_⟩
  have hx : ExP sk false (upd H1 p (.tup [.int (x / many), .int (x % many)])) (upd (upd H1 p (.tup [.int (x / many), .int (x % many)])) a (.lst [V.int (x / many), V.int y, V.int z])) := ExP.of_lst hl2 rfl
  refine ⟨_, hv0, a, _, 0, 0, rfl, rfl, hl2, rfl, V.int (x % many), [], rfl, rfl, q _ _ ⟨(hs2.pmono hx rfl).set (.int (x % many)) 3, fun b o nb hb => ?_, upd_same⟩⟩
  show (upd _ a _) b = _
  rw [upd_ne nb]
  exact (e1.trans e2) _ _ (h.2.1 b o nb hb)
end

abbrev N__law_grab : List Str := ["_law_sack_here", "_law_many", "_law_factor", "_law_digit"]
theorem sc__law_grab : FnScope N__law_grab ["_law_sack_here", "_law_many"] (defScope s__law_grab) := ⟨rfl, rfl, rfl, by decide +kernel, rfl, by decide +kernel, by decide +kernel⟩
def R__law_grab (ds : List Dt) (Pd : Dt → Prop) (m : Nat) : Prop := ∃ many : Int, 0 < many ∧ many < 1073741824 ∧ ds = [.int many] ∧ Pd = (fun d => ∃ i, d = .int i ∧ 0 ≤ i ∧ i < many) ∧ m = 1
theorem CDivW.k {i j : Int} (h : 0 < j) (h2 : decide (j.natAbs < 2 ^ 16) = true) : CDivW i j := wide_div h (Sm.k16 h2) (by decide) (by decide)
theorem ok__law_grab (M : Md C K mg) (T : Top K mg "_law_grab" s__law_grab ["_law_sack_here", "_law_many"]) : CalK C P w K mg base 1 "_law_grab" ["_law_sack_here", "_law_many"] R__law_grab := by
  refine T.okK sc__law_grab (fun ds Pd m h => ?_) fun f cdv A outer s H E hr ds Pd m h hfr a n hn => ?_
  · obtain ⟨many, _, _, rfl, _⟩ := h
    rfl
  · obtain ⟨many, hm1, hm2, rfl, rfl, rfl⟩ := h
    refine es_raw fun H0 x y z hy hz0 hzn => ?_
    have hys := hy.sm
    refine hs_cons (h1_ifG (Γ := [some (.lst [.int x, .int y, .int z]), some (.int many), none, none]) (k := decide (0 < x)) (dp_is (dp_cmp (dv_ixL (dv_var 0 rfl rfl) dv_int rfl) dv_int cd_gt (nomark _)) rfl) (fun σ H h => bx_data h) (fun σ H H' e h => ⟨h.1.mono e, BxG.grow _ _ e h.2⟩) (fun hk => ?_) (fun hk => hs_nil)) ?_
    · refine hs_cons (h1_dm (da_cons (dv_ixL (dv_var 0 rfl rfl) dv_int rfl) (da_cons (dv_var 1 rfl rfl) da_nil)) (by exact fun _ => rfl) M.divmod hm1 hm2 rfl sc__law_grab.nd rfl) ?_
      refine hs_retE (pe_var (i := 3) rfl (Or.inl rfl) (by decide) (by decide)) fun σ H h Q q => ?_
      obtain ⟨v, h1, h2⟩ := h.1.get (i := 3) rfl
      exact ⟨v, h1, q _ _ ⟨_, ⟨_, rfl, Int.emod_nonneg _ (by omega), Int.emod_lt_of_pos _ hm1⟩, h2, h.2.1, _, _, _, h.2.2, hy, hz0, by omega⟩⟩
    have hz1 : Sm 12 (z + 1) := by unfold Sm; omega
    have hz2 : Sm 16 (50021 : Int) := Sm.k16 (by decide)
    have hfa : Sm 16 (y % 25013 + 15013) := by
      have h1 := Int.emod_nonneg y (show (25013 : Int) ≠ 0 by decide)
      have h2 := Int.emod_lt_of_pos y (show (0 : Int) < 25013 by decide)
      unfold Sm
      omega
    refine hs_cons (h1_sack (x' := x) (y' := y) (z' := z + 1) 2 (dv_add (dv_ixL (dv_var 0 rfl rfl) dv_int rfl) dv_int) (dv_var 0 rfl rfl) dv_int (by decide) rfl rfl) ?_
    refine hs_cons (h1_setB 2 (dv_add (dv_mod (dv_callTy cb_int M.int bt_int (da_cons (dv_ixL (dv_var 0 rfl rfl) dv_int rfl) da_nil)) dv_int (by decide)) dv_int) rfl sc__law_grab.nd) ?_
    have hy2 : Yok ((y * (y % 25013 + 15013) + 50021 * (z + 1) + 9) % 2147483579) := ⟨Int.emod_nonneg _ (by decide), Int.emod_lt_of_pos _ (by decide)⟩
    refine hs_cons (h1_sack (x' := x) (y' := (y * (y % 25013 + 15013) + 50021 * (z + 1) + 9) % 2147483579) (z' := z + 1) 1 (dv_mod (dv_callTy cb_int M.int bt_int (da_cons (dv_add (dv_add (dv_mul (dv_ixL (dv_var 0 rfl rfl) dv_int rfl) (dv_var 2 rfl rfl) (by walk_at "bd")) (dv_mul dv_int (dv_ixL (dv_var 0 rfl rfl) dv_int rfl) (by walk_at "bd"))) dv_int) da_nil)) dv_int (by decide)) (dv_var 0 rfl rfl) dv_int (by decide) rfl rfl) ?_
    refine hs_retB (dv_mod (dv_callTy cb_int M.int bt_int (da_cons (dv_fdiv (dv_ixL (dv_var 0 rfl rfl) dv_int rfl) dv_int (CDivW.k (by decide) (by first | decide | exact hm1))) da_nil)) (dv_var 1 rfl rfl) (by first | decide | exact hm1)) fun v H hr hb => ⟨_, ⟨_, rfl, Int.emod_nonneg _ (by omega), Int.emod_lt_of_pos _ hm1⟩, hr, hb.1, _, _, _, hb.2, hy2, by omega, by omega⟩
end
end K28
set_option Elab.async false
set_option linter.all false
set_option maxRecDepth 100000
set_option maxHeartbeats 0
namespace K28
open PySem PySem.Spec PyProof.Rows L2 Evl

/-! ### plain sums: lowest terms -/
theorem fold_scale (g : Nat) : ∀ (ns : List Int) (a : Nat), (ns.map fun n => (g : Int) * n).foldl (fun a n => Nat.gcd a n.natAbs) (g * a) = g * ns.foldl (fun a n => Nat.gcd a n.natAbs) a
  | [], a => rfl
  | n :: ns, a => by
    rw [List.map_cons, List.foldl_cons, List.foldl_cons, Int.natAbs_mul, Int.natAbs_natCast, Nat.gcd_mul_left]
    exact fold_scale g ns _
theorem divOf_scale (g : Nat) (ns : List Int) : divOf (ns.map fun n => (g : Int) * n) = g * divOf ns := by
  have h := fold_scale g ns 0
  rw [Nat.mul_zero] at h
  exact h
theorem divOf_dvdI {ns : List Int} {n : Int} (h : n ∈ ns) : (divOf ns : Int) ∣ n := by
  have := divOf_dvd h
  exact Int.ofNat_dvd_left.mpr this
theorem low_scale (ns : List Int) : (low ns).map (fun n => (divOf ns : Int) * n) = ns := by
  unfold low
  rw [List.map_map]
  have : ∀ x ∈ ns, ((fun n => (divOf ns : Int) * n) ∘ fun n => n / (divOf ns : Int)) x = x := fun x hx => Int.mul_ediv_cancel' (divOf_dvdI hx)
  exact (List.map_congr_left this).trans (List.map_id' ns)
theorem divOf_low {ns : List Int} (h : 0 < divOf ns) : divOf (low ns) = 1 := by
  have e := divOf_scale (divOf ns) (low ns)
  rw [low_scale] at e
  have : divOf ns * 1 = divOf ns * divOf (low ns) := by rw [Nat.mul_one]; exact e
  exact (Nat.eq_of_mul_eq_mul_left h this).symm
theorem div_le {a b : Nat} {x : Int} {g : Nat} (hx : Sm a x) : Sm a (x / (g : Int)) := by
  unfold Sm at *
  have h1 : (x / (g : Int)).natAbs ≤ x.natAbs := by
    rcases Nat.eq_zero_or_pos g with z | z
    · subst z; simp
    · rcases Int.lt_or_le x 0 with c | c
      · have h2 : x / (g : Int) < 0 := Int.ediv_neg_of_neg_of_pos c (by omega)
        have h3 : x ≤ x / (g : Int) := by
          have := Int.le_ediv_of_mul_le (a := x) (b := x) (c := (g : Int)) (by omega) (by
            have : x * (g : Int) ≤ x * 1 := Int.mul_le_mul_of_nonpos_left (by omega) (by omega)
            omega)
          exact this
        omega
      · have h2 := Int.ediv_nonneg c (show (0 : Int) ≤ (g : Int) by omega)
        have h3 := Int.ediv_le_self (g : Int) c
        omega
  omega
theorem div_pos {x : Int} {ns : List Int} (h : x ∈ ns) (hx : 0 < x) : 0 < x / (divOf ns : Int) := by
  have hg := divOf_pos h (by omega)
  obtain ⟨c, hc⟩ := divOf_dvdI h
  rw [hc, Int.mul_ediv_cancel_left _ (by omega)]
  rcases Int.lt_or_le 0 c with z | z
  · exact z
  · exfalso
    have := Int.mul_nonpos_of_nonneg_of_nonpos (a := (divOf ns : Int)) (b := c) (by omega) z
    omega
/-- a near place in the law, a fraction in the law -/
structure Nq (p s r : Int) : Prop where
  sp : Sm 32 p
  ss : Sm 32 s
  sr : Sm 4 r
  pos : 0 < r
  one : divOf [p, s, r] = 1
structure Fq (n m : Int) : Prop where
  sn : Sm 76 n
  sm : Sm 16 m
  n0 : 0 < n
  m0 : 0 < m
  one : divOf [n, m] = 1
theorem Nq.nr {p s r : Int} (h : Nq p s r) : Nr p s r := ⟨⟨h.sp.mono (by decide), h.ss.mono (by decide), h.sr.mono (by decide)⟩, h.pos, h.one⟩
theorem Fq.fr {n m : Int} (h : Fq n m) : Fr' n m := ⟨h.sn.mono (by decide), h.sm.mono (by decide), h.n0, h.m0, h.one⟩
theorem low_near {a : Nat} {i j k : Int} (ha : a ≤ 32) (hi : Sm a i) (hj : Sm a j) (hk : Sm 4 k) (h0 : 0 < k) : ∃ p s r, low [i, j, k] = [p, s, r] ∧ Nq p s r ∧ Sm a p ∧ Sm a s := by
  have hm : k ∈ [i, j, k] := by simp
  have hg := divOf_pos hm (by omega)
  exact ⟨i / (divOf [i, j, k] : Int), j / (divOf [i, j, k] : Int), k / (divOf [i, j, k] : Int), rfl, ⟨(div_le (b := 0) hi).mono ha, (div_le (b := 0) hj).mono ha, div_le (b := 0) hk, div_pos hm h0, divOf_low hg⟩, div_le (b := 0) hi, div_le (b := 0) hj⟩
theorem low_frac {n m : Int} (hn : Sm 76 n) (hm : Sm 16 m) (n0 : 0 < n) (m0 : 0 < m) : ∃ a b, low [n, m] = [a, b] ∧ Fq a b ∧ a ≤ n ∧ b ≤ m := by
  have h1 : n ∈ [n, m] := by simp
  have h2 : m ∈ [n, m] := by simp
  have hg := divOf_pos h1 (by omega)
  exact ⟨n / (divOf [n, m] : Int), m / (divOf [n, m] : Int), rfl, ⟨div_le (b := 0) hn, div_le (b := 0) hm, div_pos h1 n0, div_pos h2 m0, divOf_low hg⟩, Int.ediv_le_self _ (by omega), Int.ediv_le_self _ (by omega)⟩
theorem near_gd {i j k : Int} (hi : Sm 32 i) (hj : Sm 32 j) (hk : Sm 4 k) (h0 : 0 < k) : Gd [i, j, k] := ⟨by simp, fun n hn => by
  simp only [List.mem_cons, List.not_mem_nil, or_false] at hn
  rcases hn with rfl | rfl | rfl
  · exact hi.mono (by decide)
  · exact hj.mono (by decide)
  · exact hk.mono (by decide), k, by simp, by omega⟩
theorem frac_gd {n m : Int} (hn : Sm 76 n) (hm : Sm 16 m) (n0 : 0 < n) : Gd [n, m] := ⟨by simp, fun x hx => by
  rw [List.mem_cons, List.mem_singleton] at hx
  rcases hx with rfl | rfl
  · exact hn.mono (by decide)
  · exact hm.mono (by decide), n, by simp, by omega⟩
theorem divOf2 (n m : Int) : divOf [n, m] = Nat.gcd n.natAbs m.natAbs := by
  show Nat.gcd (Nat.gcd 0 n.natAbs) m.natAbs = _
  rw [Nat.gcd_zero_left]
/-- fractions in lowest terms of the same worth are the same -/
theorem frac_inj {n m a b : Int} (h : Fq n m) (k : Fq a b) (e : n * b = a * m) : n = a ∧ m = b := by
  have h1 := h.one
  have k1 := k.one
  rw [divOf2] at h1 k1
  have e' : n.natAbs * b.natAbs = a.natAbs * m.natAbs := by rw [← Int.natAbs_mul, ← Int.natAbs_mul, e]
  have d1 : n.natAbs ∣ a.natAbs := Nat.Coprime.dvd_of_dvd_mul_right (show Nat.Coprime n.natAbs m.natAbs from h1) ⟨b.natAbs, e'.symm⟩
  have d2 : a.natAbs ∣ n.natAbs := Nat.Coprime.dvd_of_dvd_mul_right (show Nat.Coprime a.natAbs b.natAbs from k1) ⟨m.natAbs, e'⟩
  have d3 := Nat.dvd_antisymm d1 d2
  have hn := h.n0
  have ha := k.n0
  have ena : n = a := by omega
  subst ena
  refine ⟨rfl, ?_⟩
  have := Int.eq_of_mul_eq_mul_left (show n ≠ 0 by omega) e
  omega
end K28
set_option Elab.async false
set_option linter.all false
set_option maxRecDepth 100000
set_option maxHeartbeats 0
namespace K28
open PySem PySem.Spec PyProof.Rows L2 Evl
local macro_rules | `(tactic| walk_at "bd") => `(tactic| (refine' cmul ?ha ?hb ?hc; (case ha => repeat' (first | assumption | exact Sm.lit (by decide) | apply Sm.mul | apply Sm.add | apply Sm.sub | apply Sm.neg)); (case hb => repeat' (first | assumption | exact Sm.lit (by decide) | apply Sm.mul | apply Sm.add | apply Sm.sub | apply Sm.neg)); (case hc => decide)))
section
variable {C : Addr} {P : Program} {w : World} {K : PySem.W.Frag} {mg : Str → Option Value} {base : Heap}

/-! ### what is drawn from the sack -/
abbrev PI (p : Int → Prop) : Dt → Prop := fun d => ∃ i, d = .int i ∧ p i
section
variable {X : Cx} {a : Addr} {Γ : Env'} {n n1 n2 : Nat} {e e1 e2 : Expr} {pos : Pos} {p q r : Int → Prop}
theorem em_I {i : Int} (h : Dv C X e Γ (.int i)) (hp : p i) : Em C X a e Γ n (PI p) n := em_imp (em_d h) (fun d hd => ⟨i, hd, hp⟩) (Nat.le_refl _)
theorem em_addI (h1 : Em C X a e1 Γ n (PI p) n1) (h2 : Em C X a e2 Γ n1 (PI q) n2) (h : ∀ i j, p i → q j → r (i + j)) (hΓ : frE sk false Γ = true) : Em C X a (.BinOp e1 .Add e2 pos) Γ n (PI r) n2 :=
  em_bin op_add h1 h2 hΓ fun d ⟨i, hi, pi⟩ => ⟨i, hi, fun d2 ⟨j, hj, qj⟩ => ⟨j, i + j, hj, ⟨_, rfl, h i j pi qj⟩, fun H Q z => ⟨i, j, rfl, rfl, z⟩⟩⟩
theorem em_subI (h1 : Em C X a e1 Γ n (PI p) n1) (h2 : Em C X a e2 Γ n1 (PI q) n2) (h : ∀ i j, p i → q j → r (i - j)) (hΓ : frE sk false Γ = true) : Em C X a (.BinOp e1 .Sub e2 pos) Γ n (PI r) n2 :=
  em_bin op_sub h1 h2 hΓ fun d ⟨i, hi, pi⟩ => ⟨i, hi, fun d2 ⟨j, hj, qj⟩ => ⟨j, i - j, hj, ⟨_, rfl, h i j pi qj⟩, fun H Q z => ⟨i, j, rfl, rfl, z⟩⟩⟩
theorem em_modI (h1 : Em C X a e1 Γ n (PI p) n1) (h2 : Em C X a e2 Γ n1 (PI q) n2) (h : ∀ i j, p i → q j → 0 < j ∧ r (i % j)) (hΓ : frE sk false Γ = true) : Em C X a (.BinOp e1 .Mod e2 pos) Γ n (PI r) n2 :=
  em_bin op_mod h1 h2 hΓ fun d ⟨i, hi, pi⟩ => ⟨i, hi, fun d2 ⟨j, hj, qj⟩ => ⟨j, i % j, hj, ⟨_, rfl, (h i j pi qj).2⟩, fun H Q z => ⟨i, j, rfl, rfl, (h i j pi qj).1, z⟩⟩⟩
theorem fr_PI : ∀ d, PI p d → fr sk false d = true := fun d ⟨i, h, _⟩ => by subst h; rfl
theorem fr_adr : ∀ d, d = Dt.adr a → fr sk false d = true := fun d h => by subst h; rfl
/-- grab(sack, e) -/
theorem em_grab {b : Int} (c : CalK C X.prog X.w X.K X.mg X.base 1 "_law_grab" ["_law_sack_here", "_law_many"] R__law_grab) (hr : Room 1 X.A) {o : Expr} {p0 : Pos} (ho : Dv C X o Γ (.adr a)) (he : Em C X a e Γ n (PI p) n1) (hΓ : frE sk false Γ = true) (hp : ∀ i, p i → 0 < i ∧ i < 1073741824 ∧ i ≤ b) (hn : n1 + 1 ≤ 1000) (hg : Gl X "_law_grab" := by rfl)
    (h1 : starEach (o :: [e]) X.env = (false, eval o X.env) :: starEach [e] X.env := by rfl) (h2 : starEach (e :: []) X.env = (false, eval e X.env) :: starEach [] X.env := by rfl) (hpl : (backTo pos (starEach [e] X.env)).any (·.1) = false := by rfl) :
    Em C X a (.Call (.Name "_law_grab" p0) [o, e] [] pos) Γ n (PI fun i => 0 ≤ i ∧ i < b) (n1 + 1) := by
  refine em_call c hr (ema_cons (em_d ho) (ema_cons he ema_nil hΓ fr_PI h2) hΓ fr_adr h1) (fun ds hds => ?_) hn hg (by decide) h1 hpl
  obtain ⟨d, ds', rfl, ⟨i, rfl, hi⟩, rfl⟩ := hds
  obtain ⟨a1, a2, a3⟩ := hp i hi
  exact ⟨rfl, _, 1, ⟨i, a1, a2, rfl, rfl, rfl⟩, Nat.le_refl _, fun d ⟨j, hj, b1, b2⟩ => ⟨j, hj, b1, by omega⟩⟩
end
def R__law_one (ds : List Dt) (Pd : Dt → Prop) (m : Nat) : Prop := ∃ ns : List Int, ns ≠ [] ∧ ns.length < 1000 ∧ ds = [.lst (ns.map .int)] ∧ Pd = PI (fun i => i ∈ ns) ∧ m = 1
section
variable {X : Cx} {a : Addr} {Γ : Env'} {n n1 n2 : Nat} {e e1 e2 : Expr} {pos : Pos} {p q r : Int → Prop}
theorem em_one (c : CalK C X.prog X.w X.K X.mg X.base 2 "_law_one" ["_law_sack_here", "_law_some"] R__law_one) (hr : Room 2 X.A) {o : Expr} {p0 : Pos} (ns : List Int) (ho : Dv C X o Γ (.adr a)) (he : Dv C X e Γ (.lst (ns.map .int))) (hΓ : frE sk false Γ = true) (h0 : ns ≠ []) (h3 : (ns.length == 3) = false) (hl : ns.length < 1000) (hp : ∀ i ∈ ns, p i) (hn : n + 1 ≤ 1000) (hg : Gl X "_law_one" := by rfl)
    (h1 : starEach (o :: [e]) X.env = (false, eval o X.env) :: starEach [e] X.env := by rfl) (h2 : starEach (e :: []) X.env = (false, eval e X.env) :: starEach [] X.env := by rfl) (hpl : (backTo pos (starEach [e] X.env)).any (·.1) = false := by rfl) :
    Em C X a (.Call (.Name "_law_one" p0) [o, e] [] pos) Γ n (PI p) (n + 1) := by
  have hf : fr sk false (.lst (ns.map .int)) = true := by
    rw [fr, frs_ints, List.length_map]
    show (!(ns.length == 3) && true) = true
    rw [h3]
    rfl
  refine em_call c hr (ema_cons (em_d ho) (ema_cons (em_d he) ema_nil hΓ (fun d hd => by subst hd; exact hf) h2) hΓ fr_adr h1) (fun ds hds => ?_) hn hg (by decide) h1 hpl
  obtain ⟨d, ds', rfl, rfl, rfl⟩ := hds
  exact ⟨by simp [frs, hf], _, 1, ⟨ns, h0, hl, rfl, rfl, rfl⟩, Nat.le_refl _, fun d ⟨j, hj, b⟩ => ⟨j, hj, hp j b⟩⟩
end
def R__law_wide (ds : List Dt) (Pd : Dt → Prop) (m : Nat) : Prop := ds = [] ∧ Pd = PI (fun i => 1 ≤ i ∧ i ≤ 1000000000) ∧ m = 1
def R__law_whole (ds : List Dt) (Pd : Dt → Prop) (m : Nat) : Prop := ∃ w : Int, 1 ≤ w ∧ w ≤ 1000000000 ∧ ds = [.int w] ∧ Pd = PI (fun i => -w ≤ i ∧ i ≤ w) ∧ m = 2
def R__law_near_spot (ds : List Dt) (Pd : Dt → Prop) (m : Nat) : Prop := ds = [] ∧ Pd = (fun d => ∃ p s r, Nq p s r ∧ Sm 30 p ∧ Sm 30 s ∧ d = iT [p, s, r]) ∧ m = 7
def R__law_spot (ds : List Dt) (Pd : Dt → Prop) (m : Nat) : Prop := ds = [] ∧ Pd = (fun d => ∃ p s r, ((p = 1 ∧ s = 0 ∧ r = 0) ∨ Nq p s r) ∧ d = iT [p, s, r]) ∧ m = 8
def R__law_part (ds : List Dt) (Pd : Dt → Prop) (m : Nat) : Prop := ds = [] ∧ Pd = (fun d => ∃ n m, Fq n m ∧ n ≤ 99 ∧ m ≤ 7 ∧ d = iT [n, m]) ∧ m = 4
abbrev RingD (d : Dt) : Prop := ∃ n m n' m', Fq n m ∧ Fq n' m' ∧ n * m' < n' * m ∧ d = .tup [iT [n, m], iT [n', m']]
def R__law_ring (ds : List Dt) (Pd : Dt → Prop) (m : Nat) : Prop := ds = [] ∧ Pd = RingD ∧ m = 8

abbrev N__law_one : List Str := ["_law_sack_here", "_law_some"]
theorem sc__law_one : FnScope N__law_one ["_law_sack_here", "_law_some"] (defScope s__law_one) := ⟨rfl, rfl, rfl, by decide +kernel, rfl, by decide +kernel, by decide +kernel⟩
theorem ok__law_one (M : Md C K mg) (T : Top K mg "_law_one" s__law_one ["_law_sack_here", "_law_some"]) (c__law_grab : CalK C P w K mg base 1 "_law_grab" ["_law_sack_here", "_law_many"] R__law_grab) : CalK C P w K mg base 2 "_law_one" ["_law_sack_here", "_law_some"] R__law_one := by
  refine T.okK sc__law_one (fun ds Pd m h => ?_) fun f cdv A outer s H E hr ds Pd m h hfr a n hn => ?_
  · obtain ⟨ns, h0, hl, rfl, rfl, rfl⟩ := h
    rfl
  · obtain ⟨ns, h0, hl, rfl, rfl, rfl⟩ := h
    have hpos : 0 < ns.length := List.length_pos_iff.mpr h0
    have hfl : fr sk false (.lst (ns.map .int)) = true := by
      simp only [frs, Bool.and_true] at hfr
      exact hfr
    have hΓ : frE sk false [some (.adr a), some (.lst (ns.map .int))] = true := by
      simp only [frE, Bool.and_true]
      rw [hfl]
      rfl
    refine es_ret (em_ix (dv_var 1 rfl rfl) (em_grab (b := (ns.length : Int)) c__law_grab (hr.mono (by decide)) (dv_var 0 rfl rfl) (em_I (p := fun i => i = (ns.length : Int)) (dv_is (dv_callB cb_lenL M.len bt_len (da_cons (dv_var 1 rfl rfl) da_nil)) (by rw [List.length_map])) rfl) hΓ (fun i hi => by subst hi; omega) (by omega)) hfl (fun d hd => ?_))
    obtain ⟨i, rfl, h1, h2⟩ := hd
    have hi : i.toNat < ns.length := by omega
    refine ⟨i, .int ns[i.toNat], rfl, ?_, _, rfl, List.getElem_mem hi⟩
    have e : i = ((i.toNat : Nat) : Int) := by omega
    have h3 := atI_nat (xs := ns.map Dt.int) (j := i.toNat) (v := .int ns[i.toNat]) (by rw [List.getElem?_map]; simp [hi])
    rw [← e] at h3
    exact h3
abbrev N__law_wide : List Str := ["_law_sack_here"]
theorem sc__law_wide : FnScope N__law_wide ["_law_sack_here"] (defScope s__law_wide) := ⟨rfl, rfl, rfl, by decide +kernel, rfl, by decide +kernel, by decide +kernel⟩
theorem ok__law_wide (M : Md C K mg) (T : Top K mg "_law_wide" s__law_wide ["_law_sack_here"]) (c__law_one : CalK C P w K mg base 2 "_law_one" ["_law_sack_here", "_law_some"] R__law_one) : CalK C P w K mg base 3 "_law_wide" ["_law_sack_here"] R__law_wide := by
  refine T.okK sc__law_wide (fun ds Pd m h => ?_) fun f cdv A outer s H E hr ds Pd m h hfr a n hn => ?_
  · obtain ⟨rfl, rfl, rfl⟩ := h
    rfl
  · obtain ⟨rfl, rfl, rfl⟩ := h
    exact es_ret (em_one c__law_one (hr.mono (by decide)) [1, 1, 2, 2, 3, 5, 9, 99, 1000000000] (dv_var 0 rfl rfl) (dv_lst (da_is (da_cons dv_int (da_cons dv_int (da_cons dv_int (da_cons dv_int (da_cons dv_int (da_cons dv_int (da_cons dv_int (da_cons dv_int (da_cons (dv_pow dv_int dv_int (by unfold CPow; decide)) da_nil))))))))) rfl)) rfl (by decide) rfl (by decide) (fun i hi => by simp only [List.mem_cons, List.not_mem_nil, or_false] at hi; omega) (by omega))
abbrev N__law_whole : List Str := ["_law_sack_here", "_law_wide_here", "_law_high"]
theorem sc__law_whole : FnScope N__law_whole ["_law_sack_here", "_law_wide_here"] (defScope s__law_whole) := ⟨rfl, rfl, rfl, by decide +kernel, rfl, by decide +kernel, by decide +kernel⟩
theorem ok__law_whole (M : Md C K mg) (T : Top K mg "_law_whole" s__law_whole ["_law_sack_here", "_law_wide_here"]) (c__law_grab : CalK C P w K mg base 1 "_law_grab" ["_law_sack_here", "_law_many"] R__law_grab) : CalK C P w K mg base 2 "_law_whole" ["_law_sack_here", "_law_wide_here"] R__law_whole := by
  refine T.okK sc__law_whole (fun ds Pd m h => ?_) fun f cdv A outer s H E hr ds Pd m h hfr a n hn => ?_
  · obtain ⟨w0, hw1, hw2, rfl, rfl, rfl⟩ := h
    rfl
  · obtain ⟨w0, hw1, hw2, rfl, rfl, rfl⟩ := h
    have hws : Sm 30 w0 := by unfold Sm; omega
    by_cases hlt : w0 < 100000
    · refine es_ifT (dp_is (dp_cmp (dv_var 1 rfl rfl) (dv_pow dv_int dv_int (by unfold CPow; decide)) cd_lt (nomark _)) (decide_eq_true hlt)) (es_up (es_ret (em_subI (em_grab (b := 2 * w0 + 1) c__law_grab (hr.mono (by decide)) (dv_var 0 rfl rfl) (em_I (p := fun i => i = 2 * w0 + 1) (dv_add (dv_mul dv_int (dv_var 1 rfl rfl) (by walk_at "bd")) dv_int) rfl) rfl (fun i hi => by subst hi; omega) (by omega)) (em_I (p := fun i => i = w0) (dv_var 1 rfl rfl) rfl) (fun i j hi hj => by subst hj; omega) rfl)) (by omega))
    · refine es_ifF (dp_is (dp_cmp (dv_var 1 rfl rfl) (dv_pow dv_int dv_int (by unfold CPow; decide)) cd_lt (nomark _)) (decide_eq_false hlt)) ?_
      refine es_set 2 rfl sc__law_whole.nd (em_grab (b := 65521) c__law_grab (hr.mono (by decide)) (dv_var 0 rfl rfl) (em_I (p := fun i => i = 65521) dv_int rfl) rfl (fun i hi => by subst hi; omega) (by omega)) rfl (fun d hd => ?_)
      obtain ⟨h, rfl, hh1, hh2⟩ := hd
      have hhs : Sm 16 h := by unfold Sm; omega
      have hk : Sm 16 (65521 : Int) := Sm.k16 (by decide)
      refine es_ret (em_subI (p := fun i => 0 ≤ i ∧ i < 2 * w0 + 1) (em_modI (p := fun _ => True) (em_int (em_addI (p := fun _ => True) (em_I (dv_mul (dv_var 2 rfl rfl) dv_int (by walk_at "bd")) True.intro) (em_grab (b := 65521) c__law_grab (hr.mono (by decide)) (dv_var 0 rfl rfl) (em_I (p := fun i => i = 65521) dv_int rfl) rfl (fun i hi => by subst hi; omega) (by omega)) (fun _ _ _ _ => True.intro) rfl) (fun d hd => ⟨_, hd.choose_spec.1⟩) M.int) (em_I (p := fun i => i = 2 * w0 + 1) (dv_add (dv_mul dv_int (dv_var 1 rfl rfl) (by walk_at "bd")) dv_int) rfl) (fun i j _ hj => by subst hj; exact ⟨by omega, Int.emod_nonneg _ (by omega), Int.emod_lt_of_pos _ (by omega)⟩) rfl) (em_I (p := fun i => i = w0) (dv_var 1 rfl rfl) rfl) (fun i j hi hj => by subst hj; omega) rfl)
section
variable {X : Cx} {a : Addr} {Γ : Env'} {n n1 n2 : Nat} {e e1 e2 o : Expr} {pos p0 : Pos} {p q r : Int → Prop}
theorem em_whole (c : CalK C X.prog X.w X.K X.mg X.base 2 "_law_whole" ["_law_sack_here", "_law_wide_here"] R__law_whole) (hr : Room 2 X.A) {w : Int} (ho : Dv C X o Γ (.adr a)) (he : Dv C X e Γ (.int w)) (hΓ : frE sk false Γ = true) (h1 : 1 ≤ w) (h2 : w ≤ 1000000000) (hn : n + 2 ≤ 1000) (hg : Gl X "_law_whole" := by rfl)
    (g1 : starEach (o :: [e]) X.env = (false, eval o X.env) :: starEach [e] X.env := by rfl) (g2 : starEach (e :: []) X.env = (false, eval e X.env) :: starEach [] X.env := by rfl) (hpl : (backTo pos (starEach [e] X.env)).any (·.1) = false := by rfl) :
    Em C X a (.Call (.Name "_law_whole" p0) [o, e] [] pos) Γ n (PI fun i => Sm 30 i) (n + 2) := by
  refine em_call c hr (ema_cons (em_d ho) (ema_cons (em_d he) ema_nil hΓ (fun d hd => by subst hd; rfl) g2) hΓ fr_adr g1) (fun ds hds => ?_) hn hg (by decide) g1 hpl
  obtain ⟨d, ds', rfl, rfl, rfl⟩ := hds
  exact ⟨rfl, _, 2, ⟨w, h1, h2, rfl, rfl, rfl⟩, Nat.le_refl _, fun d ⟨j, hj, b1, b2⟩ => ⟨j, hj, by unfold Sm; omega⟩⟩
/-- f(sack) -/
theorem em_sack {k m : Nat} {x : Str} {R : List Dt → (Dt → Prop) → Nat → Prop} {Pd : Dt → Prop} (c : CalK C X.prog X.w X.K X.mg X.base k x ["_law_sack_here"] R) (hr : Room k X.A) (ho : Dv C X o Γ (.adr a)) (hR : R [] Pd m) (hΓ : frE sk false Γ = true) (hn : n + m ≤ 1000) (hg : Gl X x := by rfl) (hdb : (x == ("__debug__" : Str)) = false := by decide)
    (g1 : starEach (o :: []) X.env = (false, eval o X.env) :: starEach [] X.env := by rfl) (hpl : (backTo pos (starEach [] X.env)).any (·.1) = false := by rfl) : Em C X a (.Call (.Name x p0) [o] [] pos) Γ n Pd (n + m) := by
  refine em_call c hr (ema_cons (em_d ho) ema_nil hΓ fr_adr g1) (fun ds hds => ?_) hn hg hdb g1 hpl
  subst hds
  exact ⟨rfl, Pd, m, hR, Nat.le_refl _, fun d h => h⟩
end
theorem ema_last {X : Cx} {a : Addr} {Γ : Env'} {n n2 : Nat} {e : Expr} {P : Dt → Prop} (he : Em C X a e Γ n P n2) (hst : starEach (e :: []) X.env = (false, eval e X.env) :: starEach [] X.env := by rfl) : Ema C X a [e] Γ n (fun l => ∃ d, l = [d] ∧ P d) n2 :=
  ema_of (pa_cons he pa_nil hst) fun σ H Q hs hk q => ⟨hs, hk, fun v H1 d pd rd x1 k1 => q [v] H1 [d] ⟨d, rfl, pd⟩ (.cons rd .nil) x1 k1⟩
abbrev N__law_near_spot : List Str := ["_law_sack_here", "_law_wide_here"]
theorem sc__law_near_spot : FnScope N__law_near_spot ["_law_sack_here"] (defScope s__law_near_spot) := ⟨rfl, rfl, rfl, by decide +kernel, rfl, by decide +kernel, by decide +kernel⟩
theorem ok__law_near_spot (M : Md C K mg) (T : Top K mg "_law_near_spot" s__law_near_spot ["_law_sack_here"]) (c__law_grab : CalK C P w K mg base 1 "_law_grab" ["_law_sack_here", "_law_many"] R__law_grab) (c__law_one : CalK C P w K mg base 2 "_law_one" ["_law_sack_here", "_law_some"] R__law_one) (c__law_wide : CalK C P w K mg base 3 "_law_wide" ["_law_sack_here"] R__law_wide) (c__law_whole : CalK C P w K mg base 2 "_law_whole" ["_law_sack_here", "_law_wide_here"] R__law_whole) (c__law_low : CalD C P w K mg base 2 "_law_low" ["_law_numbers"] R__law_low) : CalK C P w K mg base 4 "_law_near_spot" ["_law_sack_here"] R__law_near_spot := by
  refine T.okK sc__law_near_spot (fun ds Pd m h => ?_) fun f cdv A outer s H E hr ds Pd m h hfr a n hn => ?_
  · obtain ⟨rfl, rfl, rfl⟩ := h
    rfl
  · obtain ⟨rfl, rfl, rfl⟩ := h
    refine es_set 1 rfl sc__law_near_spot.nd (em_sack c__law_wide (hr.mono (by decide)) (dv_var 0 rfl rfl) ⟨rfl, rfl, rfl⟩ rfl (by omega)) rfl (fun d hd => ?_)
    obtain ⟨w0, rfl, hw1, hw2⟩ := hd
    refine es_ret (em_callD c__law_low (hr.mono (by decide)) (ema_last (em_lst (P := fun d => ∃ i j k, d = .lst [.int i, .int j, .int k] ∧ Sm 30 i ∧ Sm 30 j ∧ 1 ≤ k ∧ k ≤ 5) (ema_cons (em_whole c__law_whole (hr.mono (by decide)) (dv_var 0 rfl rfl) (dv_var 1 rfl rfl) rfl hw1 hw2 (by omega)) (ema_cons (em_whole c__law_whole (hr.mono (by decide)) (dv_var 0 rfl rfl) (dv_var 1 rfl rfl) rfl hw1 hw2 (by omega)) (ema_cons (em_addI (p := fun i => i = 1) (q := fun i => 0 ≤ i ∧ i < 5) (r := fun i => 1 ≤ i ∧ i ≤ 5) (em_I dv_int rfl) (em_grab (b := 5) c__law_grab (hr.mono (by decide)) (dv_var 0 rfl rfl) (em_one (p := fun i => 1 ≤ i ∧ i ≤ 5) c__law_one (hr.mono (by decide)) [1, 1, 2, 5] (dv_var 0 rfl rfl) (dv_lst (da_cons dv_int (da_cons dv_int (da_cons dv_int (da_cons dv_int da_nil))))) rfl (by decide) rfl (by decide) (fun i hi => by simp only [List.mem_cons, List.not_mem_nil, or_false] at hi; omega) (by omega)) rfl (fun i hi => by omega) (by omega)) (fun i j hi hj => by omega) rfl) ema_nil rfl fr_PI) rfl fr_PI) rfl fr_PI) (fun l hl => ?_))) (fun l hl => ?_))
    · obtain ⟨_, _, rfl, ⟨i, rfl, hi⟩, _, _, rfl, ⟨j, rfl, hj⟩, _, _, rfl, ⟨k, rfl, hk⟩, rfl⟩ := hl
      exact ⟨by simp, i, j, k, rfl, hi, hj, hk.1, hk.2⟩
    · obtain ⟨_, rfl, i, j, k, rfl, hi, hj, hk1, hk2⟩ := hl
      have hks : Sm 4 k := by unfold Sm; omega
      obtain ⟨p, s2, r, hlow, hN, hP, hS⟩ := low_near (by decide) hi hj hks (by omega)
      exact ⟨iT (low [i, j, k]), ⟨[i, j, k], near_gd (hi.mono (by decide)) (hj.mono (by decide)) hks (by omega), .inl rfl, rfl⟩, p, s2, r, hN, hP, hS, by rw [hlow]⟩
abbrev N__law_spot : List Str := ["_law_sack_here", "_law_wide_here"]
theorem sc__law_spot : FnScope N__law_spot ["_law_sack_here"] (defScope s__law_spot) := ⟨rfl, rfl, rfl, by decide +kernel, rfl, by decide +kernel, by decide +kernel⟩
theorem ok__law_spot (M : Md C K mg) (T : Top K mg "_law_spot" s__law_spot ["_law_sack_here"]) (c__law_grab : CalK C P w K mg base 1 "_law_grab" ["_law_sack_here", "_law_many"] R__law_grab) (c__law_one : CalK C P w K mg base 2 "_law_one" ["_law_sack_here", "_law_some"] R__law_one) (c__law_wide : CalK C P w K mg base 3 "_law_wide" ["_law_sack_here"] R__law_wide) (c__law_whole : CalK C P w K mg base 2 "_law_whole" ["_law_sack_here", "_law_wide_here"] R__law_whole) (c__law_low : CalD C P w K mg base 2 "_law_low" ["_law_numbers"] R__law_low) : CalK C P w K mg base 4 "_law_spot" ["_law_sack_here"] R__law_spot := by
  refine T.okK sc__law_spot (fun ds Pd m h => ?_) fun f cdv A outer s H E hr ds Pd m h hfr a n hn => ?_
  · obtain ⟨rfl, rfl, rfl⟩ := h
    rfl
  · obtain ⟨rfl, rfl, rfl⟩ := h
    refine es_if (et_eq (em_grab (b := 9) c__law_grab (hr.mono (by decide)) (dv_var 0 rfl rfl) (em_I (p := fun i => i = 9) dv_int rfl) rfl (fun i hi => by subst hi; omega) (by omega)) (fun d hd => ⟨_, hd.choose_spec.1⟩) dv_int rfl rfl) rfl (fun _ => ?_) ?_
    · refine es_up (es_d (ds_ret (dv_tup (da_cons dv_int (da_cons dv_int (da_cons dv_int da_nil))))) ⟨1, 0, 0, .inl ⟨rfl, rfl, rfl⟩, rfl⟩) (by omega)
    refine es_set 1 rfl sc__law_spot.nd (em_sack c__law_wide (hr.mono (by decide)) (dv_var 0 rfl rfl) ⟨rfl, rfl, rfl⟩ rfl (by omega)) rfl (fun d hd => ?_)
    obtain ⟨w0, rfl, hw1, hw2⟩ := hd
    refine es_ret (em_callD c__law_low (hr.mono (by decide)) (ema_last (em_lst (P := fun d => ∃ i j k, d = .lst [.int i, .int j, .int k] ∧ Sm 30 i ∧ Sm 30 j ∧ 1 ≤ k ∧ k ≤ 5) (ema_cons (em_whole c__law_whole (hr.mono (by decide)) (dv_var 0 rfl rfl) (dv_var 1 rfl rfl) rfl hw1 hw2 (by omega)) (ema_cons (em_whole c__law_whole (hr.mono (by decide)) (dv_var 0 rfl rfl) (dv_var 1 rfl rfl) rfl hw1 hw2 (by omega)) (ema_cons (em_addI (p := fun i => i = 1) (q := fun i => 0 ≤ i ∧ i < 5) (r := fun i => 1 ≤ i ∧ i ≤ 5) (em_I dv_int rfl) (em_grab (b := 5) c__law_grab (hr.mono (by decide)) (dv_var 0 rfl rfl) (em_one (p := fun i => 1 ≤ i ∧ i ≤ 5) c__law_one (hr.mono (by decide)) [1, 1, 2, 5] (dv_var 0 rfl rfl) (dv_lst (da_cons dv_int (da_cons dv_int (da_cons dv_int (da_cons dv_int da_nil))))) rfl (by decide) rfl (by decide) (fun i hi => by simp only [List.mem_cons, List.not_mem_nil, or_false] at hi; omega) (by omega)) rfl (fun i hi => by omega) (by omega)) (fun i j hi hj => by omega) rfl) ema_nil rfl fr_PI) rfl fr_PI) rfl fr_PI) (fun l hl => ?_))) (fun l hl => ?_))
    · obtain ⟨_, _, rfl, ⟨i, rfl, hi⟩, _, _, rfl, ⟨j, rfl, hj⟩, _, _, rfl, ⟨k, rfl, hk⟩, rfl⟩ := hl
      exact ⟨by simp, i, j, k, rfl, hi, hj, hk.1, hk.2⟩
    · obtain ⟨_, rfl, i, j, k, rfl, hi, hj, hk1, hk2⟩ := hl
      have hks : Sm 4 k := by unfold Sm; omega
      obtain ⟨p, s2, r, hlow, hN, hP, hS⟩ := low_near (by decide) hi hj hks (by omega)
      exact ⟨iT (low [i, j, k]), ⟨[i, j, k], near_gd (hi.mono (by decide)) (hj.mono (by decide)) hks (by omega), .inl rfl, rfl⟩, p, s2, r, .inr hN, by rw [hlow]⟩
abbrev N__law_part : List Str := ["_law_sack_here", "_law_wide_here"]
theorem sc__law_part : FnScope N__law_part ["_law_sack_here"] (defScope s__law_part) := ⟨rfl, rfl, rfl, by decide +kernel, rfl, by decide +kernel, by decide +kernel⟩
theorem ok__law_part (M : Md C K mg) (T : Top K mg "_law_part" s__law_part ["_law_sack_here"]) (c__law_grab : CalK C P w K mg base 1 "_law_grab" ["_law_sack_here", "_law_many"] R__law_grab) (c__law_one : CalK C P w K mg base 2 "_law_one" ["_law_sack_here", "_law_some"] R__law_one) (c__law_low : CalD C P w K mg base 2 "_law_low" ["_law_numbers"] R__law_low) : CalK C P w K mg base 3 "_law_part" ["_law_sack_here"] R__law_part := by
  refine T.okK sc__law_part (fun ds Pd m h => ?_) fun f cdv A outer s H E hr ds Pd m h hfr a n hn => ?_
  · obtain ⟨rfl, rfl, rfl⟩ := h
    rfl
  · obtain ⟨rfl, rfl, rfl⟩ := h
    refine es_set 1 rfl sc__law_part.nd (em_one (p := fun i => 1 ≤ i ∧ i ≤ 99) c__law_one (hr.mono (by decide)) [1, 2, 4, 9, 99] (dv_var 0 rfl rfl) (dv_lst (da_cons dv_int (da_cons dv_int (da_cons dv_int (da_cons dv_int (da_cons dv_int da_nil)))))) rfl (by decide) rfl (by decide) (fun i hi => by simp only [List.mem_cons, List.not_mem_nil, or_false] at hi; omega) (by omega)) rfl (fun d hd => ?_)
    obtain ⟨w0, rfl, hw1, hw2⟩ := hd
    refine es_ret (em_callD c__law_low (hr.mono (by decide)) (ema_last (em_tup (P := fun d => ∃ i j, d = .tup [.int i, .int j] ∧ (1 ≤ i ∧ i ≤ 99) ∧ 1 ≤ j ∧ j ≤ 7) (ema_cons (em_addI (p := fun i => i = 1) (q := fun i => 0 ≤ i ∧ i < 99) (r := fun i => 1 ≤ i ∧ i ≤ 99) (em_I dv_int rfl) (em_grab (b := 99) c__law_grab (hr.mono (by decide)) (dv_var 0 rfl rfl) (em_I (p := fun i => 1 ≤ i ∧ i ≤ 99) (dv_var 1 rfl rfl) ⟨hw1, hw2⟩) rfl (fun i hi => by omega) (by omega)) (fun i j hi hj => by omega) rfl) (ema_cons (em_addI (p := fun i => i = 1) (q := fun i => 0 ≤ i ∧ i < 7) (r := fun i => 1 ≤ i ∧ i ≤ 7) (em_I dv_int rfl) (em_grab (b := 7) c__law_grab (hr.mono (by decide)) (dv_var 0 rfl rfl) (em_one (p := fun i => 1 ≤ i ∧ i ≤ 7) c__law_one (hr.mono (by decide)) [1, 1, 3, 7] (dv_var 0 rfl rfl) (dv_lst (da_cons dv_int (da_cons dv_int (da_cons dv_int (da_cons dv_int da_nil))))) rfl (by decide) rfl (by decide) (fun i hi => by simp only [List.mem_cons, List.not_mem_nil, or_false] at hi; omega) (by omega)) rfl (fun i hi => by omega) (by omega)) (fun i j hi hj => by omega) rfl) ema_nil rfl fr_PI) rfl fr_PI) (fun l hl => ?_))) (fun l hl => ?_))
    · obtain ⟨_, _, rfl, ⟨i, rfl, hi⟩, _, _, rfl, ⟨j, rfl, hj⟩, rfl⟩ := hl
      exact ⟨by simp, i, j, rfl, hi, hj.1, hj.2⟩
    · obtain ⟨_, rfl, i, j, rfl, hi, hj1, hj2⟩ := hl
      have his : Sm 76 i := Sm.mono (a := 10) (by unfold Sm; omega) (by decide)
      have hjs : Sm 16 j := Sm.mono (a := 10) (by unfold Sm; omega) (by decide)
      obtain ⟨u, v, hlow, hF, hu, hv⟩ := low_frac his hjs (by omega) (by omega)
      exact ⟨iT (low [i, j]), ⟨[i, j], frac_gd his hjs (by omega), .inr rfl, rfl⟩, u, v, hF, by omega, by omega, by rw [hlow]⟩
abbrev N__law_ring : List Str := ["_law_sack_here", "_law_one_here", "_law_two"]
theorem sc__law_ring : FnScope N__law_ring ["_law_sack_here"] (defScope s__law_ring) := ⟨rfl, rfl, rfl, by decide +kernel, rfl, by decide +kernel, by decide +kernel⟩
theorem ok__law_ring (M : Md C K mg) (T : Top K mg "_law_ring" s__law_ring ["_law_sack_here"]) (c__law_part : CalK C P w K mg base 3 "_law_part" ["_law_sack_here"] R__law_part) (c__law_under : CalD C P w K mg base 1 "_law_under" ["_law_one_here", "_law_two"] R__law_under) : CalK C P w K mg base 4 "_law_ring" ["_law_sack_here"] R__law_ring := by
  refine T.okK sc__law_ring (fun ds Pd m h => ?_) fun f cdv A outer s H E hr ds Pd m h hfr a n hn => ?_
  · obtain ⟨rfl, rfl, rfl⟩ := h
    rfl
  · obtain ⟨rfl, rfl, rfl⟩ := h
    have shF : ∀ u v : Int, SeqAt.shaped (py (iT [u, v])) = true := fun u v => by
      simp [py, pys, SeqAt.shaped, PyData.canLay0, PyData.canLayAll0, PyData.depth, PyData.depthAll]
    refine es_par 1 2 (ema_cons (em_sack c__law_part (hr.mono (by decide)) (dv_var 0 rfl rfl) ⟨rfl, rfl, rfl⟩ rfl (by omega)) (ema_cons (em_sack c__law_part (hr.mono (by decide)) (dv_var 0 rfl rfl) ⟨rfl, rfl, rfl⟩ rfl (by omega)) ema_nil rfl (fun d hd => by obtain ⟨u, v, _, _, _, rfl⟩ := hd; rfl)) rfl (fun d hd => by obtain ⟨u, v, _, _, _, rfl⟩ := hd; rfl)) rfl sc__law_ring.nd rfl rfl (by decide) rfl rfl rfl (fun d1 d2 h1 h2 => ?_)
    obtain ⟨u, v, hF, hu, hv, rfl⟩ := h1
    obtain ⟨x, y, hG, hx, hy, rfl⟩ := h2
    have hu0 := hF.n0
    have hv0 := hF.m0
    have hx0 := hG.n0
    have hy0 := hG.m0
    by_cases e : ([u, v] : List Int) = [x, y]
    · have e1 : u = x ∧ v = y := by simpa using e
      obtain ⟨rfl, rfl⟩ := e1
      have hG2 : Fq (u + v) v := ⟨Sm.mono (a := 10) (by unfold Sm; omega) (by decide), hF.sm, by omega, hv0, by
        have h1 := hF.one
        rw [divOf2] at h1 ⊢
        have : (u + v).natAbs = u.natAbs + v.natAbs := by omega
        rw [this, Nat.gcd_add_self_left]
        exact h1⟩
      have hlt : u * v < (u + v) * v := by
        rw [Int.add_mul]
        have := Int.mul_pos hv0 hv0
        omega
      have hund : R__law_under [iT [u, v], iT [u + v, v]] (.bl true) := ⟨u, v, u + v, v, ⟨hF.sn.mono (by decide), hF.sm.mono (by decide)⟩, ⟨hG2.sn.mono (by decide), hF.sm.mono (by decide)⟩, rfl, by rw [decide_eq_true hlt]⟩
      refine es_d (ds_cons (d1_if (o := .nx _) (dp_is (dp_cmp (dv_var 1 rfl rfl) (dv_var 2 rfl rfl) (cd_eqD (room_u64 hr) rfl rfl (shF _ _) (shF _ _) (eqvT _ _)) (nomark _)) (decide_eq_true rfl)) (fun _ => ds_set 2 rfl sc__law_ring.nd (dv_tup (da_cons (dv_add (dv_ixT (dv_var 1 rfl rfl) dv_int rfl) (dv_ixT (dv_var 1 rfl rfl) dv_int rfl)) (da_cons (dv_ixT (dv_var 1 rfl rfl) dv_int rfl) da_nil))) ds_nil) (fun z => nomatch z)) (ds_ret (dv_if (k := true) (dp_val (dv_call c__law_under (hr.mono (by decide)) (da_cons (dv_var 1 rfl rfl) (da_cons (dv_var 2 rfl rfl) da_nil)) hund)) (fun _ => (dv_tup (da_cons (dv_var 1 rfl rfl) (da_cons (dv_var 2 rfl rfl) da_nil)))) (fun z => nomatch z)))) ⟨u, v, u + v, v, hF, hG2, hlt, rfl⟩
    · have hne : u * y ≠ x * v := fun h => by
        obtain ⟨a, b⟩ := frac_inj hF hG h
        exact e (by rw [a, b])
      have hund : R__law_under [iT [u, v], iT [x, y]] (.bl (decide (u * y < x * v))) := ⟨u, v, x, y, ⟨hF.sn.mono (by decide), hF.sm.mono (by decide)⟩, ⟨hG.sn.mono (by decide), hG.sm.mono (by decide)⟩, rfl, rfl⟩
      by_cases hlt : u * y < x * v
      · rw [decide_eq_true hlt] at hund
        exact es_d (ds_cons (d1_if (o := .nx _) (dp_is (dp_cmp (dv_var 1 rfl rfl) (dv_var 2 rfl rfl) (cd_eqD (room_u64 hr) rfl rfl (shF _ _) (shF _ _) (eqvT _ _)) (nomark _)) (decide_eq_false e)) (fun z => nomatch z) (fun _ => ds_nil)) (ds_ret (dv_if (k := true) (dp_val (dv_call c__law_under (hr.mono (by decide)) (da_cons (dv_var 1 rfl rfl) (da_cons (dv_var 2 rfl rfl) da_nil)) hund)) (fun _ => (dv_tup (da_cons (dv_var 1 rfl rfl) (da_cons (dv_var 2 rfl rfl) da_nil)))) (fun z => nomatch z)))) ⟨u, v, x, y, hF, hG, hlt, rfl⟩
      · rw [decide_eq_false hlt] at hund
        exact es_d (ds_cons (d1_if (o := .nx _) (dp_is (dp_cmp (dv_var 1 rfl rfl) (dv_var 2 rfl rfl) (cd_eqD (room_u64 hr) rfl rfl (shF _ _) (shF _ _) (eqvT _ _)) (nomark _)) (decide_eq_false e)) (fun z => nomatch z) (fun _ => ds_nil)) (ds_ret (dv_if (k := false) (dp_val (dv_call c__law_under (hr.mono (by decide)) (da_cons (dv_var 1 rfl rfl) (da_cons (dv_var 2 rfl rfl) da_nil)) hund)) (fun z => nomatch z) (fun _ => (dv_tup (da_cons (dv_var 2 rfl rfl) (da_cons (dv_var 1 rfl rfl) da_nil))))))) ⟨x, y, u, v, hG, hF, by omega, rfl⟩
end
end K28
set_option Elab.async false
set_option linter.all false
set_option maxRecDepth 100000
set_option maxHeartbeats 0
namespace K28
open PySem PySem.Spec PyProof.Rows L2 Evl

/-! ### defs that show lists: nothing is being shown around them -/
/-- a promise that holds where nothing is being shown -/
structure FnG (P : Program) (w : World) (K : PySem.W.Frag) (mg : Str → Option Value) (base : Heap) (k : Nat) (f : Addr) (fd : FuncData) (ps : List Str) (sp : Sp) : Prop where
  len : ∀ vs H Q, sp vs H Q E0 → vs.length = ps.length
  run : ∀ (A : Around) (out : List Env) (s : Shared) (H : Hp) (args : Args) (us : List Value) (vs : List V) (Q : VK), Room k A → A.guards = some [] → Env0 P w K mg base A out s H →
    BindsTo s fd args (ps.zip us) → Vals vs us → sp vs H Q E0 → codeAny (model P w) A (.call (.ref f) args) (CR CX0 out P w H s Q E0) s
section
variable {w : World} {P : Program} {K : PySem.W.Frag} {base : Heap} {mg : Str → Option Value}
theorem fnG_of {x qual : Str} {st : Stmt} {f : Addr} {fd : FuncData} {N ps : List Str} {k : Nat} {sp : Sp} (Fu : Fun K x qual st f fd) (S : FnScope N ps (defScope st)) (len : ∀ vs H Q, sp vs H Q E0 → vs.length = ps.length)
    (hbody : ∀ (cdv : Value) (A : Around) (out : List Env) (s : Shared) (H : Hp) (vs : List V) (Q : VK), Room k (Xd P w K mg base N qual st f cdv A out s H E0).A → (Xd P w K mg base N qual st f cdv A out s H E0).A.guards = some [] → sp vs H Q E0 →
      ∃ t, PSs (Xd P w K mg base N qual st f cdv A out s H E0) (defBody st) t ∧ t { nx := fun _ H' => Q .non H', rt := Q } (start N vs) H) : FnG P w K mg base (k + 1) f fd ps sp := by
  obtain ⟨oc, od, kV, doc, pm, an, cdv, ct, osl, rfl, lk, hcd⟩ := Fu.ex
  refine ⟨len, fun A out s H args us vs Q room free env bind rel want => ?_⟩
  have inK : K.In s.heap := env.mod.kin.keeps fun b o z => (env.bs b o z).1
  have kinds : ∀ y ∈ ps.zip us, (defScope st).names.lookup y.1 = some .local ∨ ((defScope st).names.lookup y.1 = some .cell ∧ ((cellsFrom (s.heap.objs.size + 1) (defScope st).names []).lookup y.1).isSome = true) := by
    rintro ⟨m, u⟩ hy
    exact (S.par m (List.of_mem_zip hy).1).imp id fun z => ⟨z, PySem.W.cellsFrom_some _ _ _ (.inl z)⟩
  refine codeAny_call_function room.depth (inK _ _ lk) rfl S.co S.gen rfl (PySem.W.codeRec_of inK hcd) (bind _ _ _ _ ?_)
  refine wpAny_newFunctionEnv_cells S.kind kinds fun e' he' s1 inn => ?_
  subst he'
  refine ⟨(env.mod.nolimit.keeps fun b o z => (env.bs b o z).1).keeps inn.toInCall.keep, codeAny_func ?_⟩
  obtain ⟨t, pt, ht⟩ := hbody cdv A out s H vs Q (room.deeper _) free want
  have I0 := inv_start (CX := CX0) (qual := qual) (f := f) (cd := cdv) (A := A) (outer := out) (H := H) (E := E0) S room.hd env (len _ _ _ want) rel inn
  refine wpAny_mono (pt.nox.run [] s1 (start N vs) H _ I0 ht) (fun fl s2 q => ?_) fun _ _ q => q
  match fl, q with
  | .ret u, ⟨v, σ', H', J, rv, q⟩ => exact ⟨v, H', J.os, J.bare, J.base, J.hok, rv, q⟩
  | .next, ⟨σ', H', J, q⟩ => exact ⟨V.non, H', J.os, J.bare, J.base, J.hok, rfl, q⟩
  | .brk, ⟨_, _, _, q⟩ => exact q.elim
  | .cont, ⟨_, _, _, q⟩ => exact q.elim
/-- f(e, ..), where nothing is being shown -/
theorem pe_callG {X : Cx} {k : Nat} {f : Addr} {fd : FuncData} {ps : List Str} {sp : Sp} {x : Str} {p pos : Pos} {e : Expr} {es : List Expr} {t : TA} (F : FnG X.prog X.w X.K X.mg X.base k f fd ps sp) (hr : Room k X.A) (hfree : X.A.guards = some []) (hg : Gl X x) (hm : X.mg x = some (.ref f)) (hk : PySem.W.keepIn X.K (.ref f) = true) (hb : Binds X.K fd ps [])
    (ha : PA X (e :: es) t) (hdb : (x == ("__debug__" : Str)) = false := by decide) (he : starEach (e :: es) X.env = (false, eval e X.env) :: starEach es X.env := by rfl) (hpl : (backTo pos (starEach es X.env)).any (·.1) = false := by rfl) : PE X (.Call (.Name x p) (e :: es) [] pos) (tCall sp [] E0 t) := by
  refine ⟨fun pins s σ H Q I h => wpAny_Call_Name_kw (ld_glob I hg hm ?_ hdb)⟩
  refine PySem.W.callWith_K (h₀ := X.base) I.ok.mod.kin hk (thn (ha.run pos pins s σ H _ I h) fun us s1 ⟨vs, H1, J, rel, want⟩ => ⟨J.kIn, ?_⟩) he hpl
  have want0 : sp (vs ++ []) H1 Q E0 := want
  rw [List.append_nil] at want0
  have eq : (us ++ ([] : List Value)).length = ps.length := by rw [List.append_nil, ← rel.length]; exact F.len _ _ _ want0
  have bd := hb s1 us J.kIn eq
  rw [List.append_nil] at bd
  refine wpAny_call (codeAny_mono (F.run X.A X.stack s1 H1 ⟨us, []⟩ us vs Q hr hfree J.env0 bd rel want0) fun r s2 q => ?_)
  match r, q with
  | .error _, q => exact q.elim
  | .ok (.ret u), q => exact J.after q
  | .ok .next, q => exact q.elim
  | .ok .brk, q => exact q.elim
  | .ok .cont, q => exact q.elim
end

/-! ### the law's own call -/
theorem law_callG {P : Program} {w : World} {K : PySem.W.Frag} {mg mb : Str → Option Value} {k : Nat} {fa a : Addr} {fd : FuncData} {x : Str} {sp : Sp} {s : Shared} {vs : List Value} {ns : List Int}
    (inK : K.In s.heap) (hns : s.heap.Ns mainGlobals mg) (hbn : s.heap.Ns builtinsNs mb) (hbb : ∀ x : Str, x ≠ "__name__" → mb x = bootBuiltins x) (hlim : s.heap.NoLimit) (hgens : s.gens = #[])
    (hobj : s.heap.get? a = some { cls := .type "list", data := .seq vs.toArray }) (hints : IntsAre vs ns) (hlen : ns.length ≤ sizeLine) (hr : Room k callerA)
    (F : ∀ base : Heap, K.In base → base.Ns mainGlobals mg → FnG P w K mg base k fa fd [x] sp) (hbind : ∀ (s : Shared) (u : Value), BindsTo s fd ⟨[u], []⟩ [(x, u)])
    (hsp : ∀ H : Hp, Only H → SqL K H a (ns.map V.int) → sp [.ref a] H (fun v _ => v = .bl true) E0) :
    codeAny (model P w) callerA (.call (.ref fa) ⟨[.ref a], []⟩) (fun r s' => r = .ok (.ret (.bool true)) ∧ OldK s.heap s'.heap ∧ s'.os = s.os ∧ AllBare s'.gens) s := by
  have rel := vals_ints hints
  have main : ∀ H : Hp, Only H → SqL K H a (ns.map V.int) → HOk P w H s.heap → (∀ b, H b ≠ none → b = a) → (H a ≠ none → K.lookup a = none) →
      codeAny (model P w) callerA (.call (.ref fa) ⟨[.ref a], []⟩) (fun r s' => r = .ok (.ret (.bool true)) ∧ OldK s.heap s'.heap ∧ s'.os = s.os ∧ AllBare s'.gens) s := by
    intro H only seq hok at1 notK
    have un1 : ∀ {b : Addr}, b ≠ a → H b = none := fun {b} n => Classical.byContradiction fun z => n (at1 b z)
    have sees : ∀ {b : Addr} {o : Obj}, s.heap.get? b = some o → H b = none → (hidT s.heap H).get? b = some o := fun z n => hidT_get z n
    have names : ∀ {b : Addr} {m : Str → Option Value}, s.heap.Ns b m → (hidT s.heap H).Ns b m := by
      rintro b m ⟨o, es, ep, z, d, r⟩
      refine ⟨o, es, ep, sees z (un1 fun c => ?_), d, r⟩
      subst c
      rw [hobj] at z
      cases z
      cases d
    have kB : K.In (hidT s.heap H) := by
      intro b o z
      refine sees (inK b o z) (Classical.byContradiction fun c => ?_)
      have eb := at1 b c
      subst eb
      rw [notK c] at z
      cases z
    have md : Mod K mg (hidT s.heap H) := by
      obtain ⟨mc, l1, l2⟩ := hlim
      exact ⟨kB, names hns, ⟨mb, names hbn, hbb⟩, mc, names l1, l2⟩
    have en : Env0 P w K mg (hidT s.heap H) callerA [] s H := ⟨rfl, md, fun b o z => of_hidT z, Nat.le_of_eq (hidT_size _ _), trivial, (fun b z => by cases z), hok, .of_eq hgens⟩
    refine codeAny_mono ((F _ kB (names hns)).run callerA [] s H ⟨[.ref a], []⟩ [.ref a] [.ref a] _ hr rfl en (hbind s (.ref a)) (.cons rfl .nil) (hsp H only seq)) fun r s' q => ?_
    match r, q with
    | .error _, q => exact q.elim
    | .ok .next, q => exact q.elim
    | .ok .brk, q => exact q.elim
    | .ok .cont, q => exact q.elim
    | .ok (.ret u), ⟨v, H', same, bare, un, hok', rv, ev⟩ =>
      have ev' : v = .bl true := ev
      subst ev'
      obtain rfl : u = Value.bool true := rv
      refine ⟨rfl, OldK.of_keep fun b o z => ?_, same, bare⟩
      rcases only b with n | ⟨ob, xs, n⟩
      · exact un.keep b o z n (fun c => by cases c) (fun c => by cases c)
      · have z1 := (hok b _ n).1
        have z2 := (hok' b _ (un.frzs b ob _ n)).1
        rw [z] at z1
        cases z1
        exact z2
  cases hk : K.lookup a with
  | some o =>
    have z := inK a o hk
    rw [hobj] at z
    cases z
    exact main (fun _ => none) (fun _ => .inl rfl) (.inr ⟨_, vs.toArray, _, hk, rfl, rfl, rfl, by rw [List.size_toArray, hints.length]; exact hlen, by simpa using rel⟩) (fun b u c => by cases (show (none : Option HO) = some u from c)) (fun b c => absurd rfl c) fun c => absurd rfl c
  | none =>
    let o0 : Obj := { cls := .type "list", data := .seq vs.toArray }
    let H0 : Hp := fun b => if b = a then some (.frz o0 (.lst (ns.map V.int))) else none
    have at0 : H0 a = some (.frz o0 (.lst (ns.map V.int))) := if_pos rfl
    have off : ∀ b, b ≠ a → H0 b = none := fun b n => if_neg n
    refine main H0 (fun b => ?_) (.inl (.inr ⟨o0, at0⟩)) (fun b u c => ?_) (fun b c => Classical.byContradiction fun n => c (off b n)) fun _ => hk
    · by_cases e : b = a
      · subst e
        exact .inr ⟨_, _, at0⟩
      · exact .inl (off b e)
    · by_cases e : b = a
      · subst e
        rw [at0] at c
        cases c
        exact ⟨hobj, by rw [List.length_map]; exact hlen, vs, _, rel, hobj⟩
      · rw [off b e] at c
        cases c
theorem walkG {l : PySem.W.OpenLaw} {n k : Nat} {q : Program} {loose : List Str} {XP : (Str → Option Value) → Heap → Prop} {YP : World → Heap → Prop} {d : DefRec} {x : Str} (hn : l.most = some n) (hn2 : n ≤ sizeLine) (hdf : d.params.defaults = []) (hr : Room k callerA)
    (F : ∀ (w : World) (mg : Str → Option Value) (fa : Addr) (h : Heap), YP w h → h.Ns mainGlobals mg → mg d.name = some (.ref fa) → ∃ (K : PySem.W.Frag) (fd : FuncData) (sp : Sp), K.In h ∧ (∀ (s : Shared) (u : Value), BindsTo s fd ⟨[u], []⟩ [(x, u)]) ∧
      (∀ (H : Hp) (a : Addr) (ns : List Int), ns.length ≤ n → Only H → SqL K H a (ns.map V.int) → sp [.ref a] H (fun v _ => v = .bl true) E0) ∧ ∀ base : Heap, K.In base → base.Ns mainGlobals mg → FnG l.prog w K mg base k fa fd [x] sp) :
    PySem.W.WalkO q loose XP YP l.row.toRowW d [] (fun g us => PySem.call g us) := by
  refine Att.attach_call hn hdf fun w s0 s1 mg mb fa o pm cd doc a vs ns Gr Yh ho hd hcd hmg hobj hints hlen hg => ?_
  obtain ⟨K, fd, sp, inK, bind, want, fn⟩ := F w mg fa _ Yh Gr.T.g hmg
  exact law_callG inK Gr.T.g Gr.T.b Gr.T.builtins Gr.T.nolimit hg hobj hints (Nat.le_trans hlen hn2) hr fn bind fun H hO hS => want H a ns hlen hO hS
end K28
set_option Elab.async false
set_option linter.all false
set_option maxRecDepth 100000
set_option maxHeartbeats 0
namespace K28
open PySem PySem.Spec PyProof.Rows L2 Evl

/-! ### plain sums: the circles of a ring -/
structure Oc (p s r n m : Int) (A : Rw) (g : Int) : Prop where
  g0 : 0 < g
  eq : g * A.q = m * r * r
  el : g * A.l = -2 * m * p * r
  em : g * A.m = -2 * m * s * r
  ek : g * A.k = m * (p * p + s * s) - n * r * r
theorem out_ot {p s r n m : Int} (h : Nq p s r) (f : Fq n m) : ∃ g, Oc p s r n m (outR p s r n m) g ∧ BR (outR p s r n m) ∧ divOf (outR p s r n m).t = 1 ∧ 0 < (outR p s r n m).q := by
  have hq : 0 < m * r * r := Int.mul_pos (Int.mul_pos f.m0 h.pos) h.pos
  have hmem : m * r * r ∈ outL p s r n m := by simp [outL]
  have hg := divOf_pos hmem (by omega)
  have e : ∀ x ∈ outL p s r n m, (divOf (outL p s r n m) : Int) * (x / (divOf (outL p s r n m) : Int)) = x := fun x hx => Int.mul_ediv_cancel' (divOf_dvdI hx)
  have k2 : Sm 10 (-2) := Sm.lit (by decide)
  refine ⟨(divOf (outL p s r n m) : Int), ⟨by omega, e _ hmem, e _ (by simp [outL]), e _ (by simp [outL]), e _ (by simp [outL])⟩, ⟨?_, ?_, ?_, ?_⟩, divOf_low hg, div_pos hmem hq⟩
  · exact div_le (b := 0) (((f.sm.mul h.sr).mul h.sr).mono (by decide))
  · exact div_le (b := 0) ((((k2.mul f.sm).mul h.sp).mul h.sr).mono (by decide))
  · exact div_le (b := 0) ((((k2.mul f.sm).mul h.ss).mul h.sr).mono (by decide))
  · exact div_le (b := 0) (((f.sm.mul ((h.sp.mul h.sp).add (h.ss.mul h.ss))).sub ((f.sn.mul h.sr).mul h.sr)).mono (by decide))
theorem pos_of {g x : Int} (hg : 0 < g) (h : 0 < g * x) : 0 < x := by
  rcases Int.lt_or_le 0 x with c | c
  · exact c
  · have := Int.mul_nonpos_of_nonneg_of_nonpos (a := g) (b := x) (by omega) c
    omega
theorem neg_of {g x : Int} (hg : 0 < g) (h : g * x < 0) : x < 0 := by
  rcases Int.lt_or_le x 0 with c | c
  · exact c
  · have := Int.mul_nonneg (a := g) (b := x) (by omega) c
    omega
theorem zero_of {g x : Int} (hg : 0 < g) (h : g * x = 0) : x = 0 := by
  rcases Int.mul_eq_zero.mp h with c | c
  · omega
  · exact c
section
variable {p s r n m n' m' g g' : Int} {A B : Rw}
theorem Oc.bd (h : Oc p s r n m A g) (hr : 0 < r) (hn : 0 < n) (hm : 0 < m) : 0 < bd A := by
  have e : g * (g * K28.bd A) = 4 * (m * n) * (r * r) * (r * r) := by
    have h1 := h.eq; have h2 := h.el; have h3 := h.em; have h4 := h.ek
    unfold K28.bd
    grind
  have hp : 0 < 4 * (m * n) * (r * r) * (r * r) := Int.mul_pos (Int.mul_pos (Int.mul_pos (by decide) (Int.mul_pos hm hn)) (Int.mul_pos hr hr)) (Int.mul_pos hr hr)
  rw [← e] at hp
  exact pos_of h.g0 (pos_of h.g0 hp)
theorem Oc.disc (h : Oc p s r n m A g) (k : Oc p s r n' m' B g') (hr : 0 < r) (hlt : n * m' < n' * m) : K28.bd A * K28.bd B - jt A B * jt A B < 0 := by
  have e1 : g * (g * K28.bd A) = 4 * (m * n) * (r * r) * (r * r) := by
    have h1 := h.eq; have h2 := h.el; have h3 := h.em; have h4 := h.ek
    unfold K28.bd
    grind
  have e2 : g' * (g' * K28.bd B) = 4 * (m' * n') * (r * r) * (r * r) := by
    have h1 := k.eq; have h2 := k.el; have h3 := k.em; have h4 := k.ek
    unfold K28.bd
    grind
  have e3 : g * (g' * jt A B) = 2 * (m * n' + m' * n) * (r * r) * (r * r) := by
    have h1 := h.eq; have h2 := h.el; have h3 := h.em; have h4 := h.ek
    have k1 := k.eq; have k2 := k.el; have k3 := k.em; have k4 := k.ek
    have z : g * (g' * jt A B) = (g * A.l) * (g' * B.l) + (g * A.m) * (g' * B.m) - 2 * ((g * A.q) * (g' * B.k) + (g' * B.q) * (g * A.k)) := by
      unfold jt
      grind
    rw [z, h1, h2, h3, h4, k1, k2, k3, k4]
    grind
  have e : (g * g * (g' * g')) * (K28.bd A * K28.bd B - jt A B * jt A B) = -(4 * ((n' * m - n * m') * (n' * m - n * m')) * ((r * r) * (r * r)) * ((r * r) * (r * r))) := by
    have z : (g * g * (g' * g')) * (K28.bd A * K28.bd B - jt A B * jt A B) = (g * (g * K28.bd A)) * (g' * (g' * K28.bd B)) - (g * (g' * jt A B)) * (g * (g' * jt A B)) := by grind
    rw [z, e1, e2, e3]
    grind
  have hp : 0 < 4 * ((n' * m - n * m') * (n' * m - n * m')) * ((r * r) * (r * r)) * ((r * r) * (r * r)) := by
    have a := Int.mul_pos hr hr
    have b := Int.mul_pos a a
    exact Int.mul_pos (Int.mul_pos (Int.mul_pos (by decide) (Int.mul_pos (by omega) (by omega))) b) b
  exact neg_of (Int.mul_pos (Int.mul_pos h.g0 h.g0) (Int.mul_pos k.g0 k.g0)) (by rw [e]; omega)
/-- the side of the plane of A on the circle of B -/
theorem Oc.side (h : Oc p s r n m A g) (k : Oc p s r n' m' B g') : (g' * g' * g) * ((B.l * B.l + B.m * B.m + (B.q - B.k) * (B.q - B.k)) * (A.q + A.k) - (B.q + B.k) * (B.l * A.l + B.m * A.m + (B.q - B.k) * (A.q - A.k))) =
    2 * ((r * r) * (r * r)) * (n' * m - n * m') * ((r * r + (p * p + s * s)) * m' + r * r * n') := by
  have h1 := h.eq; have h2 := h.el; have h3 := h.em; have h4 := h.ek
  have k1 := k.eq; have k2 := k.el; have k3 := k.em; have k4 := k.ek
  have a1 : (g' * g' * g) * ((B.l * B.l + B.m * B.m + (B.q - B.k) * (B.q - B.k)) * (A.q + A.k) - (B.q + B.k) * (B.l * A.l + B.m * A.m + (B.q - B.k) * (A.q - A.k))) =
      ((g' * B.l) * (g' * B.l) + (g' * B.m) * (g' * B.m) + (g' * B.q - g' * B.k) * (g' * B.q - g' * B.k)) * (g * A.q + g * A.k) - (g' * B.q + g' * B.k) * ((g' * B.l) * (g * A.l) + (g' * B.m) * (g * A.m) + (g' * B.q - g' * B.k) * (g * A.q - g * A.k)) := by grind
  rw [a1, h1, h2, h3, h4, k1, k2, k3, k4]
  grind
theorem sg_pos {x : Int} (h : 0 < x) : sg x = 1 := by
  unfold sg b2
  rw [decide_eq_true h, decide_eq_false (show ¬ x < 0 by omega)]
  rfl
theorem sg_neg {x : Int} (h : x < 0) : sg x = -1 := by
  unfold sg b2
  rw [decide_eq_true h, decide_eq_false (show ¬ 0 < x by omega)]
  rfl
theorem sg_zero : sg 0 = 0 := rfl
theorem Oc.ms1 (h : Oc p s r n m A g) (k : Oc p s r n' m' B g') (hr : 0 < r) (hm' : 0 < m') (hn' : 0 < n') (hlt : n * m' < n' * m) : ms A B = 1 := by
  have hgp : 0 < g' * g' * g := Int.mul_pos (Int.mul_pos k.g0 k.g0) h.g0
  have a := Int.mul_pos hr hr
  have sq : 0 ≤ p * p + s * s := by
    have z : ∀ x : Int, 0 ≤ x * x := fun x => by
      rcases Int.le_total 0 x with c | c
      · exact Int.mul_nonneg c c
      · exact Int.mul_nonneg_of_nonpos_of_nonpos c c
    have := z p
    have := z s
    omega
  have hp : 0 < 2 * ((r * r) * (r * r)) * (n' * m - n * m') * ((r * r + (p * p + s * s)) * m' + r * r * n') := by
    refine Int.mul_pos (Int.mul_pos (Int.mul_pos (by decide) (Int.mul_pos a a)) (by omega)) ?_
    have b1 := Int.mul_pos (show 0 < r * r + (p * p + s * s) by omega) hm'
    have b2 := Int.mul_pos a hn'
    omega
  rw [← h.side k] at hp
  exact sg_pos (pos_of hgp hp)
theorem Oc.ms2 (h : Oc p s r n m A g) (k : Oc p s r n' m' B g') (hr : 0 < r) (hm : 0 < m) (hn : 0 < n) (hlt : n * m' < n' * m) : ms B A = -1 := by
  have hgp : 0 < g * g * g' := Int.mul_pos (Int.mul_pos h.g0 h.g0) k.g0
  have a := Int.mul_pos hr hr
  have sq : 0 ≤ p * p + s * s := by
    have z : ∀ x : Int, 0 ≤ x * x := fun x => by
      rcases Int.le_total 0 x with c | c
      · exact Int.mul_nonneg c c
      · exact Int.mul_nonneg_of_nonpos_of_nonpos c c
    have := z p
    have := z s
    omega
  have hp : 0 < 2 * ((r * r) * (r * r)) * (n' * m - n * m') * ((r * r + (p * p + s * s)) * m + r * r * n) := by
    refine Int.mul_pos (Int.mul_pos (Int.mul_pos (by decide) (Int.mul_pos a a)) (by omega)) ?_
    have b1 := Int.mul_pos (show 0 < r * r + (p * p + s * s) by omega) hm
    have b2 := Int.mul_pos a hn
    omega
  have e := k.side h
  have e2 : 2 * ((r * r) * (r * r)) * (n * m' - n' * m) * ((r * r + (p * p + s * s)) * m + r * r * n) = -(2 * ((r * r) * (r * r)) * (n' * m - n * m') * ((r * r + (p * p + s * s)) * m + r * r * n)) := by grind
  rw [e2] at e
  exact sg_neg (neg_of hgp (by rw [e]; omega))
/-- the value at a place -/
theorem Oc.val (h : Oc p s r n m A g) {x y t : Int} (ht : t ≠ 0) : g * K28.val A x y t = m * ((p * t - x * r) * (p * t - x * r) + (s * t - y * r) * (s * t - y * r)) - n * (r * r * t * t) := by
  have h1 := h.eq; have h2 := h.el; have h3 := h.em; have h4 := h.ek
  unfold K28.val
  rw [if_neg ht]
  have e : g * (A.q * (x * x + y * y) + A.l * x * t + A.m * y * t + A.k * t * t) = (g * A.q) * (x * x + y * y) + (g * A.l) * x * t + (g * A.m) * y * t + (g * A.k) * t * t := by grind
  rw [e, h1, h2, h3, h4]
  grind
end
theorem negR_t (r : Rw) : (negR r).t = neg r.t := rfl
theorem divOf_neg (ns : List Int) : divOf (neg ns) = divOf ns := by
  have h : ∀ (ns : List Int) (a : Nat), (ns.map fun n => -n).foldl (fun g n => Nat.gcd g n.natAbs) a = ns.foldl (fun g n => Nat.gcd g n.natAbs) a := by
    intro ns
    induction ns with
    | nil => intro a; rfl
    | cons n ns ih =>
      intro a
      rw [List.map_cons, List.foldl_cons, List.foldl_cons, Int.natAbs_neg]
      exact ih _
  exact h ns 0
theorem bd_negR (r : Rw) : bd (negR r) = bd r := by
  unfold bd negR
  grind
theorem upR_pos {r : Rw} (h : 0 < r.q) : upR r = r := by unfold upR; rw [if_pos h]
theorem upR_neg {r : Rw} (h : 0 < r.q) : upR (negR r) = r := by
  unfold upR
  rw [if_neg (show ¬ 0 < (negR r).q by unfold negR; simp only; omega)]
  cases r
  simp [negR]
/-- the sums of a law's ring, once and for all -/
structure Cc (p s r n m n' m' : Int) (A B : Rw) : Prop where
  nq : Nq p s r
  f : Fq n m
  f' : Fq n' m'
  lt : n * m' < n' * m
  eA : A = outR p s r n m
  eB : B = outR p s r n' m'
theorem rg_of {p s r n m : Int} (h : Nq p s r) (f : Fq n m) : Rg (outR p s r n m) ∧ Rg (negR (outR p s r n m)) ∧ 0 < (outR p s r n m).q := by
  obtain ⟨g, o, b, one, q0⟩ := out_ot h f
  have hb := o.bd h.pos f.n0 f.m0
  refine ⟨⟨⟨b, one, hb⟩, by omega⟩, ⟨⟨⟨b.q.neg, b.l.neg, b.m.neg, b.k.neg⟩, by rw [negR_t, divOf_neg]; exact one, by rw [bd_negR]; exact hb⟩, ?_⟩, q0⟩
  show -(outR p s r n m).q ≠ 0
  omega
end K28
set_option Elab.async false
set_option linter.all false
set_option maxRecDepth 100000
set_option maxHeartbeats 0
namespace K28
open PySem PySem.Spec PyProof.Rows L2 Evl

/-! ### the lots of a law's ring, as data -/
abbrev smT (A : Rw) : Tr := .side (negR A)
abbrev baT (A B : Rw) : Tr := .and2 (.side A) (.side (negR B))
abbrev riT (A : Rw) : Tr := .rim A
abbrev eiT (A B : Rw) : Tr := .or2 (baT A B) (smT A)
abbrev boT (A B : Rw) : Tr := .and2 (baT A B) (smT A)
structure Cq (A B : Rw) : Prop where
  rA : Rg A
  rA' : Rg (negR A)
  qA : 0 < A.q
  rB : Rg B
  rB' : Rg (negR B)
  qB : 0 < B.q
  dAB : bd A * bd B - jt A B * jt A B < 0
  dBA : bd B * bd A - jt B A * jt B A < 0
  m1 : ms A B = 1
  m2 : ms B A = -1
theorem jt_comm (A B : Rw) : jt A B = jt B A := by
  unfold jt
  grind
theorem cq_of {p s r n m n' m' : Int} (h : Nq p s r) (f : Fq n m) (f' : Fq n' m') (hlt : n * m' < n' * m) : Cq (outR p s r n m) (outR p s r n' m') := by
  obtain ⟨a1, a2, a3⟩ := rg_of h f
  obtain ⟨b1, b2, b3⟩ := rg_of h f'
  obtain ⟨g, o, _⟩ := out_ot h f
  obtain ⟨g', o', _⟩ := out_ot h f'
  have d := o.disc o' h.pos hlt
  refine ⟨a1, a2, a3, b1, b2, b3, d, ?_, o.ms1 o' h.pos f'.m0 f'.n0 hlt, o.ms2 o' h.pos f.m0 f.n0 hlt⟩
  rw [jt_comm, Int.mul_comm (bd (outR p s r n' m'))]
  exact d
theorem negR_q {A : Rw} (h : 0 < A.q) : ¬ 0 < (negR A).q := by
  show ¬ 0 < -A.q
  omega
section
variable {A B : Rw}
theorem Cq.ne (h : Cq A B) : A.t ≠ B.t := fun e => by
  have e' := Rw.t_inj e
  subst e'
  have d := h.dAB
  have z : jt A A = bd A := by
    unfold jt bd
    grind
  rw [z] at d
  omega
theorem Cq.ne' (h : Cq A B) : B.t ≠ A.t := fun e => h.ne e.symm
theorem sm_A (h : 0 < A.q) (f : Rw → Int) (x : Int) (e : f (negR A) = x) : (smT A).hv f = decide (x ≤ 0) := by
  show (if 0 < (negR A).q then _ else _) = _
  rw [if_neg (negR_q h), e]
theorem si_A (h : 0 < A.q) (f : Rw → Int) (x : Int) (e : f A = x) : (Tr.side A).hv f = decide (0 ≤ x) := by
  show (if 0 < A.q then _ else _) = _
  rw [if_pos h, e]
/-- what the trees say at the signs x of A, y of B -/
structure Sv (A B : Rw) (ro : List Rw) (k : List Int) (x y : Int) : Prop where
  sA : sees (smT A) ro k = decide (x ≤ 0)
  sB : sees (smT B) ro k = decide (y ≤ 0)
  ba : sees (baT A B) ro k = (decide (0 ≤ x) && decide (y ≤ 0))
  ri : sees (riT A) ro k = decide (x = 0)
  ei : sees (eiT A B) ro k = ((decide (0 ≤ x) && decide (y ≤ 0)) || decide (x ≤ 0))
  bo : sees (boT A B) ro k = ((decide (0 ≤ x) && decide (y ≤ 0)) && decide (x ≤ 0))
  no : sees (.no (baT A B)) ro k = !(decide (0 ≤ x) && decide (y ≤ 0))
theorem sv_of (h : Cq A B) {ro : List Rw} {k : List Int} {x y : Int} (ex : look ro k A = x) (ey : look ro k B = y) : Sv A B ro k x y := by
  have uA := upR_pos h.qA
  have uB := upR_pos h.qB
  have vA := upR_neg h.qA
  have vB := upR_neg h.qB
  have s1 : sees (smT A) ro k = decide (x ≤ 0) := sm_A h.qA _ x (by rw [vA]; exact ex)
  have s2 : sees (smT B) ro k = decide (y ≤ 0) := sm_A h.qB _ y (by rw [vB]; exact ey)
  have s3 : sees (.side A) ro k = decide (0 ≤ x) := si_A h.qA _ x (by rw [uA]; exact ex)
  have s4 : sees (baT A B) ro k = (decide (0 ≤ x) && decide (y ≤ 0)) := by
    show (sees (.side A) ro k && sees (smT B) ro k) = _
    rw [s3, s2]
  refine ⟨s1, s2, s4, ?_, ?_, ?_, ?_⟩
  · show decide (look ro k (upR A) = 0) = _
    rw [uA, ex]
  · show (sees (baT A B) ro k || sees (smT A) ro k) = _
    rw [s4, s1]
  · show (sees (baT A B) ro k && sees (smT A) ro k) = _
    rw [s4, s1]
  · show (!sees (baT A B) ro k) = _
    rw [s4]
theorem sv_AB (h : Cq A B) (x y : Int) : Sv A B [A, B] [x, y] x y := sv_of h (by simp [look]) (by simp [look, h.ne])
theorem sv_BA (h : Cq A B) (x y : Int) : Sv A B [B, A] [y, x] x y := sv_of h (by simp [look, h.ne']) (by simp [look])
/-- both circles' rounds, in their order, and all their fields -/
structure Od (A B : Rw) (ro : List Rw) (ks : List (List Int)) : Prop where
  all : R_all_fields [.tup (ro.map rD)] (.dic ks)
  few : ks.length < 64
  bd : ∀ k ∈ ks, k.length = ro.length ∧ BdS 2 k
  len : ro.length = 2
  mA : A ∈ ro
  mB : B ∈ ro
  only : ∀ r ∈ ro, r = A ∨ r = B
  us : ro.map Rw.t = srt S0 [A.t, B.t]
  e1 : fld (eiT A B) ro ks = fld (smT B) ro ks
  e2 : fld (boT A B) ro ks = fld (riT A) ro ks
  l1 : (fld (smT A) ro ks).all (sees (smT B) ro) = true
  l2 : (fld (baT A B) ro ks).all (sees (smT B) ro) = true
  l3 : (fld (smT B) ro ks).all (sees (smT A) ro) = false
  l4 : (fld (smT B) ro ks).all (sees (baT A B) ro) = false
  o1 : (fld (baT A B) ro ks).filter opn ≠ []
  ne : fld (baT A B) ro ks ≠ []
  b1 : sees (baT A B) ro (ro.map fun r => sg (val r 1 0 0)) = false
  b2 : sees (.no (baT A B)) ro (ro.map fun r => sg (val r 1 0 0)) = true
def ks1 : List (List Int) := [[-1, -1], [0, -1], [1, -1], [1, 0], [1, 1]]
def ks2 : List (List Int) := [[-1, 1], [0, 1], [1, 1], [-1, -1], [-1, 0]]
theorem BdS.all {ks : List (List Int)} (h : (ks.all fun k => k.length == 2 && k.all fun m => decide (-2 ≤ m) && decide (m < 2)) = true) : ∀ k ∈ ks, k.length = 2 ∧ BdS 2 k := fun k hk => by
  have h1 := List.all_eq_true.mp h k hk
  rw [Bool.and_eq_true] at h1
  refine ⟨by simpa using h1.1, fun m hm => ?_⟩
  have h2 := List.all_eq_true.mp h1.2 m hm
  rw [Bool.and_eq_true] at h2
  exact ⟨of_decide_eq_true h2.1, of_decide_eq_true h2.2⟩
theorem srt_ks1 : srt 2 ks1 = [[-1, -1], [0, -1], [1, -1], [1, 0], [1, 1]] := (srt_eq (d := 2) (List.Perm.refl _) (by decide +kernel) (BdS.all (by decide))).symm
theorem srt_ks2 : srt 2 ks2 = [[-1, -1], [-1, 0], [-1, 1], [0, 1], [1, 1]] := (srt_eq (d := 2) (by decide) (by decide +kernel) (BdS.all (by decide))).symm
theorem val_far {r : Rw} (h : 0 < r.q) : sg (val r 1 0 0) = 1 := sg_pos h
theorem od_AB (h : Cq A B) (ord : rk S0 A.t ≤ rk S0 B.t) : Od A B [A, B] ks1 := by
  have s := sv_AB h
  have a := s (-1) (-1)
  have b := s 0 (-1)
  have c := s 1 (-1)
  have d := s 1 0
  have e := s 1 1
  have fs : ∀ t, fld t [A, B] ks1 = [[-1, -1], [0, -1], [1, -1], [1, 0], [1, 1]].filter (sees t [A, B]) := fun t => by
    unfold fld
    rw [srt_ks1]
  have far : ([A, B].map fun r => sg (val r 1 0 0)) = [1, 1] := by simp [val_far h.qA, val_far h.qB]
  have hA := h.rA.ro.b
  have hB := h.rB.ro.b
  refine ⟨⟨[A, B], fun i => if i = 0 then [0, -1] else [1, 0], fun i => if i = 0 then [[-1, -1], [0, -1], [1, -1]] else [[1, -1], [1, 0], [1, 1]], by simp, by simp, fun r hr => ?_, fun i hi => ?_, rfl, congrArg Dt.dic (show ks1 = accF (fun i => if i = 0 then [[-1, -1], [0, -1], [1, -1]] else [[1, -1], [1, 0], [1, 1]]) 2 by decide)⟩, by decide, BdS.all (by decide), rfl, by simp, by simp, fun r hr => by simpa using hr, ?_, ?_, ?_, ?_, ?_, ?_, ?_, ?_, ?_, ?_, ?_⟩
  · simp only [List.mem_cons, List.not_mem_nil, or_false] at hr
    rcases hr with rfl | rfl
    · exact hA
    · exact hB
  · have hi2 : i = 0 ∨ i = 1 := by
      have : i < 2 := hi
      omega
    rcases hi2 with rfl | rfl
    · refine ⟨⟨[A, B], 0, A, rfl, by simp, fun o ho => ?_, fun j o hj hne => ?_, rfl, rfl⟩, .inr (.inl ⟨A, B, hA, hB, rfl, ?_⟩), .inr (.inl ⟨0, -1, rfl, rfl⟩), rfl⟩
      · simp only [List.mem_cons, List.not_mem_nil, or_false] at ho
        rcases ho with rfl | rfl
        · exact hA
        · exact hB
      · match j, hne, hj with
        | 1, _, hj =>
          cases hj
          exact h.dAB
        | j + 2, _, hj => simp at hj
      · rw [h.m2]
        rfl
    · refine ⟨⟨[A, B], 1, B, rfl, by simp, fun o ho => ?_, fun j o hj hne => ?_, rfl, rfl⟩, .inr (.inr ⟨A, B, hA, hB, rfl, ?_⟩), .inr (.inr ⟨1, 0, rfl, rfl⟩), rfl⟩
      · simp only [List.mem_cons, List.not_mem_nil, or_false] at ho
        rcases ho with rfl | rfl
        · exact hA
        · exact hB
      · match j, hne, hj with
        | 0, _, hj =>
          cases hj
          exact h.dBA
        | j + 2, _, hj => simp at hj
      · rw [h.m1]
        rfl
  · have e : ([A, B].map Rw.t) = [A.t, B.t] := rfl
    rw [e]
    exact srt_eq (d := 4) (List.Perm.refl _) (by simpa using ord) fun x hx => by
      rw [List.mem_cons, List.mem_singleton] at hx
      have q : ∀ {r : Rw}, Rg r → 0 < r.q → r.t.length = 4 ∧ BdS S0 r.t := fun {r} hr hq => by
        have z := upT_ok hr
        rwa [← upT_t, upR_pos hq] at z
      rcases hx with rfl | rfl
      · exact q h.rA h.qA
      · exact q h.rB h.qB
  · simp [fs, List.filter, a.ei, b.ei, c.ei, d.ei, e.ei, a.sB, b.sB, c.sB, d.sB, e.sB]
  · simp [fs, List.filter, a.bo, b.bo, c.bo, d.bo, e.bo, a.ri, b.ri, c.ri, d.ri, e.ri]
  · simp [fs, List.filter, a.sA, b.sA, c.sA, d.sA, e.sA, a.sB, b.sB, c.sB, d.sB, e.sB]
  · simp [fs, List.filter, a.ba, b.ba, c.ba, d.ba, e.ba, a.sB, b.sB, c.sB, d.sB, e.sB]
  · simp [fs, List.filter, a.sA, b.sA, c.sA, d.sA, e.sA, a.sB, b.sB, c.sB, d.sB, e.sB]
  · simp [fs, List.filter, a.ba, b.ba, c.ba, d.ba, e.ba, a.sB, b.sB, c.sB, d.sB, e.sB]
  · simp only [fs, List.filter, a.ba, b.ba, c.ba, d.ba, e.ba]
    decide
  · simp only [fs, List.filter, a.ba, b.ba, c.ba, d.ba, e.ba]
    decide
  · rw [far, e.ba]
    decide
  · rw [far, e.no]
    decide
theorem od_BA (h : Cq A B) (ord : rk S0 B.t ≤ rk S0 A.t) : Od A B [B, A] ks2 := by
  have s := sv_BA h
  have a := s (-1) (-1)
  have b := s 0 (-1)
  have c := s 1 (-1)
  have d := s 1 0
  have e := s 1 1
  have fs : ∀ t, fld t [B, A] ks2 = [[-1, -1], [-1, 0], [-1, 1], [0, 1], [1, 1]].filter (sees t [B, A]) := fun t => by
    unfold fld
    rw [srt_ks2]
  have far : ([B, A].map fun r => sg (val r 1 0 0)) = [1, 1] := by simp [val_far h.qA, val_far h.qB]
  have hA := h.rA.ro.b
  have hB := h.rB.ro.b
  refine ⟨⟨[B, A], fun i => if i = 0 then [0, 1] else [-1, 0], fun i => if i = 0 then [[-1, 1], [0, 1], [1, 1]] else [[-1, -1], [-1, 0], [-1, 1]], by simp, by simp, fun r hr => ?_, fun i hi => ?_, rfl, congrArg Dt.dic (show ks2 = accF (fun i => if i = 0 then [[-1, 1], [0, 1], [1, 1]] else [[-1, -1], [-1, 0], [-1, 1]]) 2 by decide)⟩, by decide, BdS.all (by decide), rfl, by simp, by simp, fun r hr => ((by simpa using hr : r = B ∨ r = A)).symm, ?_, ?_, ?_, ?_, ?_, ?_, ?_, ?_, ?_, ?_, ?_⟩
  · simp only [List.mem_cons, List.not_mem_nil, or_false] at hr
    rcases hr with rfl | rfl
    · exact hB
    · exact hA
  · have hi2 : i = 0 ∨ i = 1 := by
      have : i < 2 := hi
      omega
    rcases hi2 with rfl | rfl
    · refine ⟨⟨[B, A], 0, B, rfl, by simp, fun o ho => ?_, fun j o hj hne => ?_, rfl, rfl⟩, .inr (.inl ⟨B, A, hB, hA, rfl, ?_⟩), .inr (.inl ⟨0, 1, rfl, rfl⟩), rfl⟩
      · simp only [List.mem_cons, List.not_mem_nil, or_false] at ho
        rcases ho with rfl | rfl
        · exact hB
        · exact hA
      · match j, hne, hj with
        | 1, _, hj =>
          cases hj
          exact h.dBA
        | j + 2, _, hj => simp at hj
      · rw [h.m1]
        rfl
    · refine ⟨⟨[B, A], 1, A, rfl, by simp, fun o ho => ?_, fun j o hj hne => ?_, rfl, rfl⟩, .inr (.inr ⟨B, A, hB, hA, rfl, ?_⟩), .inr (.inr ⟨-1, 0, rfl, rfl⟩), rfl⟩
      · simp only [List.mem_cons, List.not_mem_nil, or_false] at ho
        rcases ho with rfl | rfl
        · exact hB
        · exact hA
      · match j, hne, hj with
        | 0, _, hj =>
          cases hj
          exact h.dAB
        | j + 2, _, hj => simp at hj
      · rw [h.m2]
        rfl
  · have e : ([B, A].map Rw.t) = [B.t, A.t] := rfl
    rw [e]
    exact srt_eq (d := 4) (List.Perm.swap _ _ _) (by simpa using ord) fun x hx => by
      rw [List.mem_cons, List.mem_singleton] at hx
      have q : ∀ {r : Rw}, Rg r → 0 < r.q → r.t.length = 4 ∧ BdS S0 r.t := fun {r} hr hq => by
        have z := upT_ok hr
        rwa [← upT_t, upR_pos hq] at z
      rcases hx with rfl | rfl
      · exact q h.rA h.qA
      · exact q h.rB h.qB
  · simp [fs, List.filter, a.ei, b.ei, c.ei, d.ei, e.ei, a.sB, b.sB, c.sB, d.sB, e.sB]
  · simp [fs, List.filter, a.bo, b.bo, c.bo, d.bo, e.bo, a.ri, b.ri, c.ri, d.ri, e.ri]
  · simp [fs, List.filter, a.sA, b.sA, c.sA, d.sA, e.sA, a.sB, b.sB, c.sB, d.sB, e.sB]
  · simp [fs, List.filter, a.ba, b.ba, c.ba, d.ba, e.ba, a.sB, b.sB, c.sB, d.sB, e.sB]
  · simp [fs, List.filter, a.sA, b.sA, c.sA, d.sA, e.sA, a.sB, b.sB, c.sB, d.sB, e.sB]
  · simp [fs, List.filter, a.ba, b.ba, c.ba, d.ba, e.ba, a.sB, b.sB, c.sB, d.sB, e.sB]
  · simp only [fs, List.filter, a.ba, b.ba, c.ba, d.ba, e.ba]
    decide
  · simp only [fs, List.filter, a.ba, b.ba, c.ba, d.ba, e.ba]
    decide
  · rw [far, e.ba]
    decide
  · rw [far, e.no]
    decide
theorem od_of (h : Cq A B) : ∃ ro ks, Od A B ro ks := by
  rcases Int.le_total (rk S0 A.t) (rk S0 B.t) with o | o
  · exact ⟨_, _, od_AB h o⟩
  · exact ⟨_, _, od_BA h o⟩
end
end K28
set_option Elab.async false
set_option linter.all false
set_option maxRecDepth 100000
set_option maxHeartbeats 0
namespace K28
open PySem PySem.Spec PyProof.Rows L2 Evl

/-! ### lots and their fields, ready for the law -/
section
variable {A B : Rw} {ro : List Rw} {ks : List (List Int)} {t : Tr}
theorem Cq.up (h : Cq A B) {r : Rw} (hr : r = A ∨ r = negR A ∨ r = B ∨ r = negR B) : Rg r ∧ (upR r = A ∨ upR r = B) := by
  rcases hr with rfl | rfl | rfl | rfl
  · exact ⟨h.rA, .inl (upR_pos h.qA)⟩
  · exact ⟨h.rA', .inl (upR_neg h.qA)⟩
  · exact ⟨h.rB, .inr (upR_pos h.qB)⟩
  · exact ⟨h.rB', .inr (upR_neg h.qB)⟩
theorem Od.fi (o : Od A B ro ks) (h : Cq A B) (hr : ∀ r ∈ t.rows, r = A ∨ r = negR A ∨ r = B ∨ r = negR B) (hd : t.dp ≤ 6) : FI t ro ks := by
  refine ⟨o.all, o.few, o.bd, fun r hr' => ?_, hd, by have := o.len; omega, by have := o.len; omega⟩
  obtain ⟨a, b⟩ := h.up (hr r hr')
  refine ⟨a, ?_⟩
  rcases b with b | b
  · rw [b]; exact o.mA
  · rw [b]; exact o.mB
theorem Od.us' (o : Od A B ro ks) (h : Cq A B) {rows : List Rw} (hr : ∀ r ∈ rows, r = A ∨ r = negR A ∨ r = B ∨ r = negR B) (hA : A ∈ rows ∨ negR A ∈ rows) (hB : B ∈ rows ∨ negR B ∈ rows) : ∃ U : List (List Int), U.Nodup ∧ SameSet U (rows.map upT) ∧ ro.map Rw.t = srt S0 U := by
  refine ⟨[A.t, B.t], by simpa using h.ne, fun x => ⟨fun hx => ?_, fun hx => ?_⟩, o.us⟩
  · simp only [List.mem_cons, List.not_mem_nil, or_false] at hx
    rcases hx with rfl | rfl
    · rcases hA with z | z
      · exact List.mem_map.mpr ⟨A, z, by rw [← upT_t, upR_pos h.qA]⟩
      · exact List.mem_map.mpr ⟨negR A, z, by rw [← upT_t, upR_neg h.qA]⟩
    · rcases hB with z | z
      · exact List.mem_map.mpr ⟨B, z, by rw [← upT_t, upR_pos h.qB]⟩
      · exact List.mem_map.mpr ⟨negR B, z, by rw [← upT_t, upR_neg h.qB]⟩
  · obtain ⟨r, hr', rfl⟩ := List.mem_map.mp hx
    rw [← upT_t]
    rcases (h.up (hr r hr')).2 with b | b <;> rw [b] <;> simp
theorem Od.tr (o : Od A B ro ks) (h : Cq A B) (hr : ∀ r ∈ t.rows, r = A ∨ r = negR A ∨ r = B ∨ r = negR B) (hA : A ∈ t.rows ∨ negR A ∈ t.rows) (hB : B ∈ t.rows ∨ negR B ∈ t.rows) (hd : t.dp ≤ 6) (hl : t.rows.length ≤ 24) : TrOk t ro :=
  ⟨hd, fun r hr' => (h.up (hr r hr')).1, hl, o.us' h hr hA hB, by have := o.len; omega⟩
theorem Od.two (o : Od A B ro ks) (h : Cq A B) {rs os : List Rw} (hr : ∀ r ∈ rs ++ os, r = A ∨ r = B) (hA : A ∈ rs ++ os) (hB : B ∈ rs ++ os) (hl : (rs ++ os).length < 64) : R2' rs os ro := by
  have hr' : ∀ r ∈ rs ++ os, r = A ∨ r = negR A ∨ r = B ∨ r = negR B := fun r z => (hr r z).elim .inl fun c => .inr (.inr (.inl c))
  exact ⟨fun r z => (h.up (hr' r z)).1, hl, o.us' h hr' (.inl hA) (.inl hB), by have := o.len; omega⟩
/-! one circle -/
def ks0 : List (List Int) := [[-1], [0], [1]]
theorem srt_ks0 : srt 2 ks0 = [[-1], [0], [1]] := (srt_eq (d := 1) (List.Perm.refl _) (by decide +kernel) (by
  intro k hk
  simp only [ks0, List.mem_cons, List.not_mem_nil, or_false] at hk
  rcases hk with rfl | rfl | rfl <;> exact ⟨rfl, fun m hm => by simp at hm; omega⟩)).symm
theorem fi1 (g : Rg A) (gn : Rg (negR A)) (q : 0 < A.q) (hr : ∀ r ∈ t.rows, r = A ∨ r = negR A) (hd : t.dp ≤ 6) : FI t [A] ks0 := by
  have hA := g.ro.b
  refine ⟨⟨[A], fun _ => [0], fun _ => [[-1], [0], [1]], by simp, by simp, fun r hr => ?_, fun i hi => ?_, rfl, congrArg Dt.dic (show ks0 = accF (fun _ => [[-1], [0], [1]]) 1 by decide)⟩, by decide, fun k hk => ?_, fun r hr' => ?_, hd, by simp, by simp⟩
  · simp only [List.mem_cons, List.not_mem_nil, or_false] at hr
    subst hr
    exact hA
  · have hi0 : i = 0 := by
      have : i < 1 := hi
      omega
    subst hi0
    refine ⟨⟨[A], 0, A, rfl, by simp, fun o ho => ?_, fun j o hj hne => ?_, rfl, rfl⟩, .inl ⟨A, hA, rfl, rfl⟩, .inl ⟨0, rfl, rfl⟩, rfl⟩
    · simp only [List.mem_cons, List.not_mem_nil, or_false] at ho
      subst ho
      exact hA
    · match j, hne, hj with
      | j + 1, _, hj => simp at hj
  · simp only [ks0, List.mem_cons, List.not_mem_nil, or_false] at hk
    rcases hk with rfl | rfl | rfl <;> exact ⟨rfl, fun m hm => by simp at hm; omega⟩
  · rcases hr r hr' with rfl | rfl
    · exact ⟨g, by rw [upR_pos q]; simp⟩
    · exact ⟨gn, by rw [upR_neg q]; simp⟩
theorem us1 {rows : List Rw} (q : 0 < A.q) (hr : ∀ r ∈ rows, r = A ∨ r = negR A) (h0 : rows ≠ []) : ∃ U : List (List Int), U.Nodup ∧ SameSet U (rows.map upT) ∧ [A].map Rw.t = srt S0 U := by
  have up : ∀ r ∈ rows, upT r = A.t := fun r z => by
    rw [← upT_t]
    rcases hr r z with rfl | rfl
    · rw [upR_pos q]
    · rw [upR_neg q]
  refine ⟨[A.t], by simp, fun x => ⟨fun hx => ?_, fun hx => ?_⟩, by simp [srt]⟩
  · simp only [List.mem_cons, List.not_mem_nil, or_false] at hx
    subst hx
    obtain ⟨r, z⟩ := List.exists_mem_of_ne_nil rows h0
    exact List.mem_map.mpr ⟨r, z, up r z⟩
  · obtain ⟨r, z, rfl⟩ := List.mem_map.mp hx
    rw [up r z]
    simp
theorem tr1 (g : Rg A) (gn : Rg (negR A)) (q : 0 < A.q) (hr : ∀ r ∈ t.rows, r = A ∨ r = negR A) (h0 : t.rows ≠ []) (hd : t.dp ≤ 6) (hl : t.rows.length ≤ 24) : TrOk t [A] := by
  refine ⟨hd, fun r z => ?_, hl, us1 q hr h0, by simp⟩
  rcases hr r z with rfl | rfl
  · exact g
  · exact gn
theorem two1 (g : Rg A) (q : 0 < A.q) : R2' [A] [A] [A] := ⟨fun r z => by simp at z; subst z; exact g, by simp, us1 (rows := [A] ++ [A]) q (fun r z => .inl (by simpa using z)) (by simp), by simp⟩
theorem see1 (q : 0 < A.q) (x : Int) : sees (smT A) [A] [x] = decide (x ≤ 0) ∧ sees (riT A) [A] [x] = decide (x = 0) := by
  have e : look [A] [x] A = x := by simp [look]
  refine ⟨sm_A q _ x (by rw [upR_neg q]; exact e), ?_⟩
  show decide (look [A] [x] (upR A) = 0) = _
  rw [upR_pos q, e]
theorem rim1 (q : 0 < A.q) : fld (riT A) [A] ks0 = [[0]] := by
  unfold fld
  rw [srt_ks0]
  simp [List.filter, (see1 q (-1)).2, (see1 q 0).2, (see1 q 1).2]
theorem far1 (q : 0 < A.q) : ([A].map fun r => sg (val r 1 0 0)) = [1] := by simp [val_far q]
/-! the places of the law -/
theorem sg_le (x : Int) : decide (sg x ≤ 0) = decide (x ≤ 0) := by
  rcases Int.lt_trichotomy x 0 with c | c | c
  · rw [sg_neg c]; exact decide_eq_decide.mpr (by omega)
  · subst c; rfl
  · rw [sg_pos c]; exact decide_eq_decide.mpr (by omega)
theorem sg_ge (x : Int) : decide (0 ≤ sg x) = decide (0 ≤ x) := by
  rcases Int.lt_trichotomy x 0 with c | c | c
  · rw [sg_neg c]; exact decide_eq_decide.mpr (by omega)
  · subst c; rfl
  · rw [sg_pos c]; exact decide_eq_decide.mpr (by omega)
end
/-- what holds answers of the disc of A, of the ring from A to B -/
def inD (A : Rw) (x y t : Int) : Bool := decide (val A x y t ≤ 0)
def inR (A B : Rw) (x y t : Int) : Bool := decide (0 ≤ val A x y t) && decide (val B x y t ≤ 0)
theorem hv_sm {A : Rw} (q : 0 < A.q) (x y t : Int) : (smT A).hv (fun r => sg (val (upR r) x y t)) = inD A x y t := by
  rw [sm_A q _ (sg (val A x y t)) (by rw [upR_neg q])]
  exact sg_le _
theorem hv_ba {A B : Rw} (q : 0 < A.q) (q' : 0 < B.q) (x y t : Int) : (baT A B).hv (fun r => sg (val (upR r) x y t)) = inR A B x y t := by
  show ((Tr.side A).hv _ && (smT B).hv _) = _
  rw [hv_sm q', si_A q _ (sg (val A x y t)) (by rw [upR_pos q]), sg_ge]
  rfl
/-- the gap in lowest terms -/
theorem gap_of {p s r x y t : Int} (hr : 0 < r) (ht : 0 < t) : ∃ a b g : Int, low [(p * t - x * r) * (p * t - x * r) + (s * t - y * r) * (s * t - y * r), r * r * t * t] = [a, b] ∧ 0 < g ∧ g * a = (p * t - x * r) * (p * t - x * r) + (s * t - y * r) * (s * t - y * r) ∧ g * b = r * r * t * t := by
  have hp : 0 < r * r * t * t := Int.mul_pos (Int.mul_pos (Int.mul_pos hr hr) ht) ht
  have hm : r * r * t * t ∈ [(p * t - x * r) * (p * t - x * r) + (s * t - y * r) * (s * t - y * r), r * r * t * t] := by simp
  have hg := divOf_pos hm (by omega)
  exact ⟨_, _, (divOf [(p * t - x * r) * (p * t - x * r) + (s * t - y * r) * (s * t - y * r), r * r * t * t] : Int), rfl, by omega, Int.mul_ediv_cancel' (divOf_dvdI (by simp)), Int.mul_ediv_cancel' (divOf_dvdI hm)⟩
theorem lt_scale {g a b : Int} (hg : 0 < g) : (g * a < g * b) ↔ a < b := ⟨fun h => Int.lt_of_mul_lt_mul_left h (by omega), fun h => Int.mul_lt_mul_of_pos_left h hg⟩
/-- under, against the value's sign -/
theorem under_val {p s r n m x y t a b g ga : Int} {A : Rw} (o : Oc p s r n m A ga) (ht : t ≠ 0) (hg : 0 < g) (e1 : g * a = (p * t - x * r) * (p * t - x * r) + (s * t - y * r) * (s * t - y * r)) (e2 : g * b = r * r * t * t) :
    (n * b < a * m ↔ 0 < val A x y t) ∧ (a * m < n * b ↔ val A x y t < 0) := by
  have v := o.val (x := x) (y := y) ht
  rw [← e1, ← e2] at v
  have e : ga * val A x y t = g * (a * m - n * b) := by rw [v]; grind
  have i1 : 0 < val A x y t ↔ 0 < a * m - n * b := by
    constructor
    · intro h
      have := Int.mul_pos o.g0 h
      rw [e] at this
      exact pos_of hg this
    · intro h
      have := Int.mul_pos hg h
      rw [← e] at this
      exact pos_of o.g0 this
  have i2 : val A x y t < 0 ↔ a * m - n * b < 0 := by
    constructor
    · intro h
      have := Int.mul_neg_of_pos_of_neg o.g0 h
      rw [e] at this
      exact neg_of hg this
    · intro h
      have := Int.mul_neg_of_pos_of_neg hg h
      rw [← e] at this
      exact neg_of o.g0 this
  rw [i1, i2]
  omega
end K28
set_option Elab.async false
set_option linter.all false
set_option maxRecDepth 100000
set_option maxHeartbeats 0
namespace K28
open PySem PySem.Spec PyProof.Rows L2 Evl

/-! ### lists of truth values, shown; calls by keywords -/
abbrev bD (bs : List Bool) : Dt := .lst (bs.map .bl)
/-- a list of truth values can be shown -/
def Rb (bs : List Bool) : Bool := pl (bD bs) && ((py (bD bs)).showable && (!(py (bD bs)).hasDict && (decide ((py (bD bs)).depth ≤ 60) && decide ((py (bD bs)).shown.length ≤ sizeLine))))
def shB (bs : List Bool) : Str := (py (bD bs)).shown
section
variable {C : Addr} {X : Cx} {Γ : Env'} {e e1 e2 : Expr} {p pos k1 k2 : Pos} {d d1 d2 : Dt}
theorem dv_repr {bs : List Bool} (he : Dv C X e Γ (bD bs)) (hfree : X.A.guards = some []) (hu : X.A.units + 64 < cLine) (hb : Rb bs = true) (hm : X.mg "repr" = none) (hg : Gl X "repr" := by rfl)
    (h1 : starEach (e :: []) X.env = (false, eval e X.env) :: starEach [] X.env := by rfl) (hpl : (backTo pos (starEach [] X.env)).any (·.1) = false := by rfl) : Dv C X (.Call (.Name "repr" p) [e] [] pos) Γ (.str (shB bs)) := by
  unfold Rb at hb
  simp only [Bool.and_eq_true, decide_eq_true_eq] at hb
  obtain ⟨b1, b2, b3, b4, b5⟩ := hb
  exact dv_callB (cb_repr hfree hu b1 b2 (by simpa using b3) b4 ⟨_, rfl⟩ b5) hm bt_repr (da_cons he da_nil h1) hg (by decide) (by decide) h1 hpl
/-- a def that is called by keywords, too -/
structure TopKw (K : PySem.W.Frag) (mg : Str → Option Value) (x : Str) (st : Stmt) (a b : Str) : Prop where
  ex : ∃ f fd g gV, Fun K x x st f fd ∧ mg x = some (.ref f) ∧ KBinds K fd [a, b] [b, a] g gV ∧ ∀ u v : V, gV [] [u, v] = [v, u]
structure CalKw (C : Addr) (P : Program) (w : World) (K : PySem.W.Frag) (mg : Str → Option Value) (base : Heap) (k : Nat) (x : Str) (a b : Str) (R : List Dt → Dt → Prop) : Prop where
  ex : ∃ f fd g gV, FnOk P w K mg base CX0 k f fd [a, b] (spD C K R) ∧ mg x = some (.ref f) ∧ PySem.W.keepIn K (.ref f) = true ∧ KBinds K fd [a, b] [b, a] g gV ∧ ∀ u v : V, gV [] [u, v] = [v, u]
theorem dv_callKw {k : Nat} {x a b : Str} {R : List Dt → Dt → Prop} (c : CalKw C X.prog X.w X.K X.mg X.base k x a b R) (hr : Room k X.A) (h1 : Dv C X e1 Γ d1) (h2 : Dv C X e2 Γ d2) (hR : R [d2, d1] d) (hg : Gl X x := by rfl)
    (hall : (backToKw pos (keywordEach [⟨some b, e1, k1⟩, ⟨some a, e2, k2⟩] X.env)).all (·.1.isSome) = true := by rfl) (hks : (backToKw pos (keywordEach [⟨some b, e1, k1⟩, ⟨some a, e2, k2⟩] X.env)).filterMap (·.1) = [b, a] := by rfl)
    (hpl : ((backTo pos (starEach [] X.env)).any (·.1) || (backToKw pos (keywordEach [⟨some b, e1, k1⟩, ⟨some a, e2, k2⟩] X.env)).any (·.1.isNone)) = false := by rfl) (hdb : (x == ("__debug__" : Str)) = false := by decide) :
    Dv C X (.Call (.Name x p) [] [⟨some b, e1, k1⟩, ⟨some a, e2, k2⟩] pos) Γ d := by
  obtain ⟨f, fd, g, gV, F, hm, hk, hb, hgV⟩ := c.ex
  obtain ⟨t1, p1, v1⟩ := h1
  obtain ⟨t2, p2, v2⟩ := h2
  refine ⟨_, pe_callK0 F hr hg hm hk hb pass0 (pk_cons p1 (pk_cons p2 pk_nil)) hall hks hpl hdb, fun σ H hs Q q => v1 σ H hs _ fun u H1 e1 r1 => v2 σ H1 (hs.mono e1) _ fun v H2 e2 r2 => ?_⟩
  show spD C X.K R (gV [] [u, v]) H2 Q E0
  rw [hgV]
  exact ⟨[d2, d1], d, hR, .cons r2 (.cons (r1.mono e2) .nil), fun v H3 e3 r3 => q v H3 ((e1.trans e2).trans e3) r3⟩
end
theorem TopKw.ok {C : Addr} {P : Program} {w : World} {K : PySem.W.Frag} {mg : Str → Option Value} {base : Heap} {x a b : Str} {st : Stmt} {N : List Str} {k : Nat} {R : List Dt → Dt → Prop} (T : TopKw K mg x st a b) (S : FnScope N [a, b] (defScope st)) (len : ∀ ds d, R ds d → ds.length = [a, b].length)
    (h : ∀ f cdv A outer s H E, Room k (Xd P w K mg base N x st f cdv A outer s H E).A → ∀ ds d, R ds d → Ds C (Xd P w K mg base N x st f cdv A outer s H E) (defBody st) (env0 N ds) (.rt d)) : CalKw C P w K mg base (k + 1) x a b R := by
  obtain ⟨f, fd, g, gV, F, hm, hb, hV⟩ := T.ex
  exact ⟨f, fd, g, gV, fun_okD F S len (h f), hm, F.kp, hb, hV⟩
end K28
set_option Elab.async false
set_option linter.all false
set_option maxRecDepth 100000
set_option maxHeartbeats 0
namespace K28
open PySem PySem.Spec PyProof.Rows L2 Evl
local macro_rules | `(tactic| walk_at "bd") => `(tactic| (refine' cmul ?ha ?hb ?hc; (case ha => repeat' (first | assumption | exact Sm.lit (by decide) | apply Sm.mul | apply Sm.add | apply Sm.sub | apply Sm.neg)); (case hb => repeat' (first | assumption | exact Sm.lit (by decide) | apply Sm.mul | apply Sm.add | apply Sm.sub | apply Sm.neg)); (case hc => decide)))
section
variable {C : Addr} {P : Program} {w : World} {K : PySem.W.Frag} {mg : Str → Option Value} {base : Heap}

/-! ### one lap of the law -/
def spR : Sp := fun vs H Q _ => ∃ a, vs = [.ref a] ∧ Sk a 0 H ∧ ∀ H', ExX a H H' → Q (.bl true) H'
/-- a place that the law asks of -/
def SpotD (d : Dt) : Prop := ∃ x y t, ((x = 1 ∧ y = 0 ∧ t = 0) ∨ Nq x y t) ∧ d = iT [x, y, t]
theorem Nq.plc {x y t : Int} (h : Nq x y t) : Pl x y t := h.nr.pl
theorem far_pl : Pl 1 0 0 := ⟨⟨Sm.mono (a := 10) (Sm.lit (by decide)) (by decide), Sm.mono (a := 10) (Sm.lit (by decide)) (by decide), Sm.mono (a := 10) (Sm.lit (by decide)) (by decide)⟩, .inl ⟨rfl, rfl, rfl⟩⟩
theorem rb4 : ∀ b1 b2 b3 : Bool, Rb [b1, b2, b3, b3] = true := by
  intro b1 b2 b3
  cases b1 <;> cases b2 <;> cases b3 <;> decide +kernel
theorem rb8 : Rb [true, true, true, true, true, true, false, false] = true := by decide +kernel
theorem rb5 : Rb [true, true, true, true, false] = true := by decide +kernel
theorem rb5' : Rb [true, false, false, true, false] = true := by decide +kernel

abbrev N__law_right : List Str := ["_law_sack_here", "_law_spots", "_law_gap", "_law_spot_here", "_law_told", "_law_pole", "_law_ring_here", "_law_low_here", "_law_high", "_law_small", "_law_large", "_law_band", "_law_twin", "_law_due", "_law_rim", "_law_side", "_law_lot"]
theorem sc__law_right : FnScope N__law_right ["_law_sack_here"] (defScope s__law_right) := ⟨rfl, rfl, rfl, by decide +kernel, rfl, by decide +kernel, by decide +kernel⟩
theorem ok__law_right (M : Md C K mg) {f : Addr} {fd : FuncData} (Fu : Fun K "_law_right" "_law_right" s__law_right f fd) (c__law_low : CalD C P w K mg base 2 "_law_low" ["_law_numbers"] R__law_low) (c__law_minus : CalD C P w K mg base 1 "_law_minus" ["_law_numbers"] R__law_minus) (c__law_apart : CalD C P w K mg base 3 "_law_apart" ["_law_one_here", "_law_two"] R__law_apart) (c__law_under : CalD C P w K mg base 1 "_law_under" ["_law_one_here", "_law_two"] R__law_under) (c__law_ring_row : CalD C P w K mg base 3 "_law_ring_row" ["_law_pole", "_law_part_here"] R__law_ring_row) (c_disc_tree : CalD C P w K mg base 6 "disc_tree" ["pole", "square"] R_disc_tree) (c_ring_tree : CalD C P w K mg base 6 "ring_tree" ["pole", "ring"] R_ring_tree) (c_holds : CalD C P w K mg base 12 "holds" ["lot", "place"] R_holds) (c_is_same : CalD C P w K mg base 13 "is_same" ["lot", "other"] R_is_same) (c_either : CalD C P w K mg base 14 "either" ["lot", "other"] R_either) (c_both : CalD C P w K mg base 14 "both" ["lot", "other"] R_both) (c_lies_inside : CalD C P w K mg base 13 "lies_inside" ["lot", "other"] R_lies_inside) (c_is_bounded : CalD C P w K mg base 12 "is_bounded" ["lot"] R_is_bounded) (c_rest : CalD C P w K mg base 14 "rest" ["lot"] R_rest) (c_is_open_somewhere : CalD C P w K mg base 13 "is_open_somewhere" ["lot"] R_is_open_somewhere) (c_is_empty : CalD C P w K mg base 13 "is_empty" ["lot"] R_is_empty) (c_has_near_place : CalD C P w K mg base 13 "has_near_place" ["lot"] R_has_near_place) (c__law_grab : CalK C P w K mg base 1 "_law_grab" ["_law_sack_here", "_law_many"] R__law_grab) (c__law_near_spot : CalK C P w K mg base 4 "_law_near_spot" ["_law_sack_here"] R__law_near_spot) (c__law_spot : CalK C P w K mg base 4 "_law_spot" ["_law_sack_here"] R__law_spot) (c__law_ring : CalK C P w K mg base 4 "_law_ring" ["_law_sack_here"] R__law_ring) (k_disc_tree : CalKw C P w K mg base 6 "disc_tree" "pole" "square" R_disc_tree) (k_ring_tree : CalKw C P w K mg base 6 "ring_tree" "pole" "ring" R_ring_tree) (c_L : CalL C P w K mg base 11) : FnG P w K mg base 16 f fd ["_law_sack_here"] spR := by
  refine fnG_of (N := N__law_right) Fu sc__law_right (fun vs H Q h => ?_) fun cdv A outer s H vs Q hr hfree h => ?_
  · obtain ⟨a, rfl, _⟩ := h
    rfl
  obtain ⟨a, rfl, hsk, hq⟩ := h
  suffices body : Es C (Xd P w K mg base N__law_right "_law_right" s__law_right f cdv A outer s H E0) a (defBody s__law_right) (env0 N__law_right [.adr a]) 0 (fun d => d = .bl true) 100 by
    refine ⟨_, body, .cons ⟨_, rfl, .adr a⟩ (SD.of_args 16 .nil), hsk, fun v H' d hd r x _ => ?_⟩
    subst hd
    cases r
    exact hq H' x
  have shF : ∀ u v : Int, SeqAt.shaped (py (iT [u, v])) = true := fun u v => by
    simp [py, pys, SeqAt.shaped, PyData.canLay0, PyData.canLayAll0, PyData.depth, PyData.depthAll]
  refine es_par 5 6 (P1 := fun d => ∃ p s r, Nq p s r ∧ Sm 30 p ∧ Sm 30 s ∧ d = iT [p, s, r]) (P2 := RingD) (ema_cons (em_sack c__law_near_spot (hr.mono (by decide)) (dv_var 0 rfl rfl) ⟨rfl, rfl, rfl⟩ rfl (by omega)) (ema_cons (em_sack c__law_ring (hr.mono (by decide)) (dv_var 0 rfl rfl) ⟨rfl, rfl, rfl⟩ rfl (by omega)) ema_nil rfl (fun d hd => by obtain ⟨_, _, _, _, _, _, _, rfl⟩ := hd; rfl)) rfl (fun d hd => by obtain ⟨_, _, _, _, _, _, rfl⟩ := hd; rfl)) rfl sc__law_right.nd rfl rfl (by decide) rfl rfl rfl (fun d1 d2 h1 h2 => ?_)
  obtain ⟨p, s2, r, hN, hP, hS, rfl⟩ := h1
  have hr5 := hN.sr
  have hr0 := hN.pos
  have hps : Sm 31 (p + r) := by unfold Sm at *; omega
  have gd1 : Gd [p + r, s2, r] := near_gd (hps.mono (by decide)) hN.ss hN.sr hN.pos
  obtain ⟨p1, s1, r1, low1, hN1, hP1, hS1⟩ := low_near (a := 31) (by decide) hps (hS.mono (by decide)) hN.sr hN.pos
  have hring2 : ∀ d, RingD d → fr sk false d = true := fun d hd => by obtain ⟨_, _, _, _, _, _, _, rfl⟩ := hd; rfl
  have hring0 : fr sk false d2 = true := hring2 d2 h2
  have hG0 : frE sk false [some (.adr a), none, none, none, none, some (iT [p, s2, r]), some d2, none, none, none, none, none, none, none, none, none, none] = true := by
    simp only [frE, hring0]
    rfl
  refine es_set 1 rfl sc__law_right.nd (em_lst (P := fun d => ∃ x y t x' y' t', Nq x y t ∧ Sm 31 x ∧ Sm 31 y ∧ ((x' = 1 ∧ y' = 0 ∧ t' = 0) ∨ Nq x' y' t') ∧ d = .lst [iT [x, y, t], iT [p1, s1, r1], iT [p, s2, r], iT [x', y', t'], iT [1, 0, 0]]) (ema_cons (em_sack c__law_near_spot (hr.mono (by decide)) (dv_var 0 rfl rfl) ⟨rfl, rfl, rfl⟩ hG0 (by omega)) (ema_cons (em_d (dv_is (dv_call c__law_low (hr.mono (by decide)) (da_cons (dv_tup (da_cons (dv_add (dv_ixT (dv_var 5 rfl rfl) dv_int rfl) (dv_ixT (dv_var 5 rfl rfl) dv_int rfl)) (da_cons (dv_ixT (dv_var 5 rfl rfl) dv_int rfl) (da_cons (dv_ixT (dv_var 5 rfl rfl) dv_int rfl) da_nil)))) da_nil) ⟨_, gd1, .inr rfl, rfl⟩) (congrArg iT low1))) (ema_cons (em_d (dv_var 5 rfl rfl)) (ema_cons (em_sack c__law_spot (hr.mono (by decide)) (dv_var 0 rfl rfl) ⟨rfl, rfl, rfl⟩ hG0 (by omega)) (ema_cons (em_d (dv_tup (da_cons dv_int (da_cons dv_int (da_cons dv_int da_nil))))) ema_nil hG0 (fun d hd => by subst hd; rfl)) hG0 (fun d hd => by obtain ⟨_, _, _, _, rfl⟩ := hd; rfl)) hG0 (fun d hd => by subst hd; rfl)) hG0 (fun d hd => by subst hd; rfl)) hG0 (fun d hd => by obtain ⟨_, _, _, _, _, _, rfl⟩ := hd; rfl)) (fun l hl => ?_)) hG0 (fun d hd => ?_)
  · obtain ⟨_, _, rfl, ⟨x, y, t, z1, z2, z3, rfl⟩, _, _, rfl, rfl, _, _, rfl, rfl, _, _, rfl, ⟨x', y', t', z4, rfl⟩, _, _, rfl, rfl, rfl⟩ := hl
    exact ⟨by simp, x, y, t, x', y', t', z1, z2.mono (by decide), z3.mono (by decide), z4, rfl⟩
  obtain ⟨x0, y0, t0, x9, y9, t9, hN0, hX0, hY0, hFar, rfl⟩ := hd
  have hG1 : frE sk false [some (.adr a), some (.lst [iT [x0, y0, t0], iT [p1, s1, r1], iT [p, s2, r], iT [x9, y9, t9], iT [1, 0, 0]]), none, none, none, some (iT [p, s2, r]), some d2, none, none, none, none, none, none, none, none, none, none] = true := by
    simp only [frE, hring0]
    rfl
  refine es_set 2 rfl sc__law_right.nd (em_callD (P := fun d => ∃ u v, d = iT [u, v] ∧ 0 < v ∧ Sm 76 u ∧ Sm 16 v ∧ (0 < u → Fq u v)) c__law_apart (hr.mono (by decide)) (ema_cons (em_d (dv_var 5 rfl rfl)) (ema_last (em_ix (P1 := fun d => ∃ x y t, Nq x y t ∧ Sm 31 x ∧ Sm 31 y ∧ d = iT [x, y, t]) (dv_var 1 rfl rfl) (em_grab (b := 2) c__law_grab (hr.mono (by decide)) (dv_var 0 rfl rfl) (em_I (p := fun i => i = 2) dv_int rfl) hG1 (fun i hi => by subst hi; omega) (by omega)) rfl (fun d hd => ?_))) hG1 (fun d hd => by subst hd; rfl)) (fun l hl => ?_)) hG1 (fun d hd => ?_)
  · obtain ⟨i, rfl, hi1, hi2⟩ := hd
    have hi3 : i = 0 ∨ i = 1 := by omega
    rcases hi3 with rfl | rfl
    · exact ⟨0, _, rfl, rfl, x0, y0, t0, hN0, hX0, hY0, rfl⟩
    · exact ⟨1, _, rfl, rfl, p1, s1, r1, hN1, hP1, hS1, rfl⟩
  · obtain ⟨_, _, rfl, rfl, _, rfl, x, y, t, hNx, hx, hy, rfl⟩ := hl
    obtain ⟨u, v, gg, hlow, hgg, eu1, ev1⟩ := gap_of (p := p) (s := s2) (x := x) (y := y) hN.pos hNx.pos
    have hX : Sm 37 (p * t - x * r) := ((hP.mul hNx.sr).sub (hx.mul hN.sr)).mono (by decide)
    have hY : Sm 37 (s2 * t - y * r) := ((hS.mul hNx.sr).sub (hy.mul hN.sr)).mono (by decide)
    have hXX : Sm 76 ((p * t - x * r) * (p * t - x * r) + (s2 * t - y * r) * (s2 * t - y * r)) := ((hX.mul hX).add (hY.mul hY)).mono (by decide)
    have hYY : Sm 16 (r * r * t * t) := ((hN.sr.mul hN.sr).mul hNx.sr).mul hNx.sr
    have hv0 : 0 < v := pos_of hgg (by rw [ev1]; exact Int.mul_pos (Int.mul_pos (Int.mul_pos hN.pos hN.pos) hNx.pos) hNx.pos)
    have e1 : [((p * t - x * r) * (p * t - x * r) + (s2 * t - y * r) * (s2 * t - y * r)) / (divOf [(p * t - x * r) * (p * t - x * r) + (s2 * t - y * r) * (s2 * t - y * r), r * r * t * t] : Int), (r * r * t * t) / (divOf [(p * t - x * r) * (p * t - x * r) + (s2 * t - y * r) * (s2 * t - y * r), r * r * t * t] : Int)] = [u, v] := hlow
    simp only [List.cons.injEq, and_true] at e1
    have hus : Sm 76 u := by rw [← e1.1]; exact div_le (b := 0) hXX
    have hvs : Sm 16 v := by rw [← e1.2]; exact div_le (b := 0) hYY
    refine ⟨iT [u, v], ⟨p, s2, r, x, y, t, hN.nr.1, hNx.nr.1, by omega, by have := hNx.pos; omega, rfl, by rw [hlow]⟩, u, v, rfl, hv0, hus, hvs, fun hu0 => ⟨hus, hvs, hu0, hv0, ?_⟩⟩
    have hmem : r * r * t * t ∈ [(p * t - x * r) * (p * t - x * r) + (s2 * t - y * r) * (s2 * t - y * r), r * r * t * t] := by simp
    have hp4 : 0 < r * r * t * t := Int.mul_pos (Int.mul_pos (Int.mul_pos hN.pos hN.pos) hNx.pos) hNx.pos
    rw [← hlow]
    exact divOf_low (divOf_pos hmem (by omega))
  obtain ⟨u, v, rfl, hv0, hus, hvs, hF⟩ := hd
  obtain ⟨n0, m0, n1, m1, hf0, hf1, hlt0, rfl⟩ := h2
  refine es_ifset 6 (P := RingD) (Q0 := (decide (0 < u) = true) ∧ True ∧ ((!decide ([u, v] = [n1, m1])) = true)) (et_w (ew_and (et_d (dp_cmp (dv_ixT (dv_var 2 rfl rfl) dv_int rfl) dv_int cd_gt (nomark _))) (ew_and (et_eq (em_grab (b := 2) c__law_grab (hr.mono (by decide)) (dv_var 0 rfl rfl) (em_I (p := fun i => i = 2) dv_int rfl) rfl (fun i hi => by subst hi; omega) (by omega)) (fun d hd => ⟨_, hd.choose_spec.1⟩) dv_int rfl rfl) (ew_and1 (et_d (dp_cmp (dv_var 2 rfl rfl) (dv_ixT (dv_var 6 rfl rfl) dv_int rfl) (cd_neD (room_u64 hr) rfl rfl (shF _ _) (shF _ _) (eqvT _ _)) (nomark _)))) (Nat.le_refl _) rfl) (by omega) rfl)) rfl ⟨n0, m0, n1, m1, hf0, hf1, hlt0, rfl⟩ (fun hQ => ?_) rfl sc__law_right.nd rfl (fun d hd => ?_)
  · have hFu := hF (of_decide_eq_true hQ.1)
    have hne : n1 * v ≠ u * m1 := fun e => by
      obtain ⟨z1, z2⟩ := frac_inj hf1 hFu e
      have := hQ.2.2
      rw [z1, z2] at this
      simp at this
    have hund : R__law_under [iT [n1, m1], iT [u, v]] (.bl (decide (n1 * v < u * m1))) := ⟨n1, m1, u, v, ⟨hf1.sn.mono (by decide), hf1.sm.mono (by decide)⟩, ⟨hus.mono (by decide), hvs.mono (by decide)⟩, rfl, rfl⟩
    by_cases hlt : n1 * v < u * m1
    · rw [decide_eq_true hlt] at hund
      exact ⟨_, ⟨n1, m1, u, v, hf1, hFu, hlt, rfl⟩, dv_if (k := true) (dp_val (dv_call c__law_under (hr.mono (by decide)) (da_cons (dv_ixT (dv_var 6 rfl rfl) dv_int rfl) (da_cons (dv_var 2 rfl rfl) da_nil)) hund)) (fun _ => (dv_tup (da_cons (dv_ixT (dv_var 6 rfl rfl) dv_int rfl) (da_cons (dv_var 2 rfl rfl) da_nil)))) (fun z => nomatch z)⟩
    · rw [decide_eq_false hlt] at hund
      exact ⟨_, ⟨u, v, n1, m1, hFu, hf1, by omega, rfl⟩, dv_if (k := false) (dp_val (dv_call c__law_under (hr.mono (by decide)) (da_cons (dv_ixT (dv_var 6 rfl rfl) dv_int rfl) (da_cons (dv_var 2 rfl rfl) da_nil)) hund)) (fun z => nomatch z) (fun _ => (dv_tup (da_cons (dv_var 2 rfl rfl) (da_cons (dv_ixT (dv_var 6 rfl rfl) dv_int rfl) da_nil))))⟩
  obtain ⟨n, m, n2, m2, hf, hf2, hlt, rfl⟩ := hd
  refine es_up (es_d (d := .bl true) ?_ rfl) (by omega)

  obtain ⟨A, eA⟩ : ∃ A, A = outR p s2 r n m := ⟨_, rfl⟩
  obtain ⟨B, eB⟩ : ∃ B, B = outR p s2 r n2 m2 := ⟨_, rfl⟩
  have cq : Cq A B := by rw [eA, eB]; exact cq_of hN hf hf2 hlt
  obtain ⟨ro, ks, od⟩ := od_of cq
  have hdA : R_disc_tree [iT [p, s2, r], iT [n, m]] (smT A).D := ⟨p, s2, r, n, m, hN.nr, hf.fr, rfl, by rw [eA]⟩
  have hdB : R_disc_tree [iT [p, s2, r], iT [n2, m2]] (smT B).D := ⟨p, s2, r, n2, m2, hN.nr, hf2.fr, rfl, by rw [eB]⟩
  have hrg : R_ring_tree [iT [p, s2, r], .tup [iT [n, m], iT [n2, m2]]] (baT A B).D := ⟨p, s2, r, n, m, n2, m2, hN.nr, hf.fr, hf2.fr, hlt, rfl, by rw [eA, eB]⟩
  have hrA : R__law_ring_row [iT [p, s2, r], iT [n, m]] (rD A) := ⟨p, s2, r, n, m, hN.nr, hf.fr, rfl, by rw [eA]⟩
  have hrB : R__law_ring_row [iT [p, s2, r], iT [n2, m2]] (rD B) := ⟨p, s2, r, n2, m2, hN.nr, hf2.fr, rfl, by rw [eB]⟩
  have trA : TrOk (smT A) [A] := tr1 cq.rA cq.rA' cq.qA (fun r hr => .inr (by simpa [Tr.rows] using hr)) (by simp [Tr.rows]) (by simp [Tr.dp]) (by simp [Tr.rows])
  have trB : TrOk (smT B) [B] := tr1 cq.rB cq.rB' cq.qB (fun r hr => .inr (by simpa [Tr.rows] using hr)) (by simp [Tr.rows]) (by simp [Tr.dp]) (by simp [Tr.rows])
  have trR : TrOk (riT A) [A] := tr1 cq.rA cq.rA' cq.qA (fun r hr => .inl (by simpa [Tr.rows] using hr)) (by simp [Tr.rows]) (by simp [Tr.dp]) (by simp [Tr.rows])
  have trBa : TrOk (baT A B) ro := od.tr cq (fun r hr => by simp [Tr.rows] at hr; rcases hr with rfl | rfl <;> simp) (by simp [Tr.rows]) (by simp [Tr.rows]) (by simp [Tr.dp]) (by simp [Tr.rows])
  have trEi : TrOk (eiT A B) ro := od.tr cq (fun r hr => by simp [Tr.rows] at hr; rcases hr with rfl | rfl | rfl <;> simp) (by simp [Tr.rows]) (by simp [Tr.rows]) (by simp [Tr.dp]) (by simp [Tr.rows])
  have trBo : TrOk (boT A B) ro := od.tr cq (fun r hr => by simp [Tr.rows] at hr; rcases hr with rfl | rfl | rfl <;> simp) (by simp [Tr.rows]) (by simp [Tr.rows]) (by simp [Tr.dp]) (by simp [Tr.rows])
  have trNo : TrOk (.no (baT A B)) ro := od.tr cq (fun r hr => by simp [Tr.rows] at hr; rcases hr with rfl | rfl <;> simp) (by simp [Tr.rows]) (by simp [Tr.rows]) (by simp [Tr.dp]) (by simp [Tr.rows])
  refine ds_asg (dv_var 6 rfl rfl) (dg_tup rfl (dgs_cons (dg_name 7 rfl sc__law_right.nd) (dgs_cons (dg_name 8 rfl sc__law_right.nd) dgs_nil))) ?_
  refine ds_cons (d1_par 9 10 (da_cons (DvF.dv (dvF_make c_L M.lot (hr.mono (by decide)) (dv_call c_disc_tree (hr.mono (by decide)) (da_cons (dv_var 5 rfl rfl) (da_cons (dv_var 7 rfl rfl) da_nil)) hdA) trA)) (da_cons (DvF.dv (dvF_make c_L M.lot (hr.mono (by decide)) (dv_callKw k_disc_tree (hr.mono (by decide)) (dv_var 8 rfl rfl) (dv_var 5 rfl rfl) hdB) trB)) da_nil)) rfl sc__law_right.nd rfl rfl (by decide) rfl rfl) ?_
  refine ds_cons (d1_par 11 12 (da_cons (DvF.dv (dvF_make c_L M.lot (hr.mono (by decide)) (dv_call c_ring_tree (hr.mono (by decide)) (da_cons (dv_var 5 rfl rfl) (da_cons (dv_var 6 rfl rfl) da_nil)) hrg) trBa)) (da_cons (DvF.dv (dvF_make c_L M.lot (hr.mono (by decide)) (dv_callKw k_ring_tree (hr.mono (by decide)) (dv_var 6 rfl rfl) (dv_var 5 rfl rfl) hrg) trBa)) da_nil)) rfl sc__law_right.nd rfl rfl (by decide) rfl rfl) ?_
  refine Ds.less (Δ := [some (.adr a), some (.lst [iT [x0, y0, t0], iT [p1, s1, r1], iT [p, s2, r], iT [x9, y9, t9], iT [1, 0, 0]]), none, none, none, some (iT [p, s2, r]), some (.tup [iT [n, m], iT [n2, m2]]), some (iT [n, m]), some (iT [n2, m2]), some (lotD (smT A) [A]), some (lotD (smT B) [B]), some (lotD (baT A B) ro), some (lotD (baT A B) ro), none, none, none, none]) ?_ ⟨rfl, rfl, rfl, rfl, rfl, rfl, rfl, rfl, rfl, rfl, True.intro⟩
  have hs6 : Sm 31 (s2 - 3 * r) := by unfold Sm at *; omega
  have gd6 : Gd [p, s2 - 3 * r, r] := near_gd hN.sp (hs6.mono (by decide)) hN.sr hN.pos
  obtain ⟨p6, s6, r6, low6, hN6, _, _⟩ := low_near (a := 31) (by decide) (hP.mono (by decide)) hs6 hN.sr hN.pos
  have hL : ∀ d ∈ ([iT [x0, y0, t0], iT [p1, s1, r1], iT [p, s2, r], iT [x9, y9, t9], iT [1, 0, 0], iT [p6, s6, r6]] : List Dt), SpotD d := fun d hd => by
    simp only [List.mem_cons, List.not_mem_nil, or_false] at hd
    rcases hd with rfl | rfl | rfl | rfl | rfl | rfl
    · exact ⟨_, _, _, .inr hN0, rfl⟩
    · exact ⟨_, _, _, .inr hN1, rfl⟩
    · exact ⟨_, _, _, .inr hN, rfl⟩
    · exact ⟨_, _, _, hFar, rfl⟩
    · exact ⟨1, 0, 0, .inl ⟨rfl, rfl, rfl⟩, rfl⟩
    · exact ⟨_, _, _, .inr hN6, rfl⟩
  refine ds_cons (d1_for (ds := [iT [x0, y0, t0], iT [p1, s1, r1], iT [p, s2, r], iT [x9, y9, t9], iT [1, 0, 0], iT [p6, s6, r6]]) (fun _ => [some (.adr a), some (.lst [iT [x0, y0, t0], iT [p1, s1, r1], iT [p, s2, r], iT [x9, y9, t9], iT [1, 0, 0]]), none, none, none, some (iT [p, s2, r]), some (.tup [iT [n, m], iT [n2, m2]]), some (iT [n, m]), some (iT [n2, m2]), some (lotD (smT A) [A]), some (lotD (smT B) [B]), some (lotD (baT A B) ro), some (lotD (baT A B) ro), none, none, none, none]) (fun j => ([some (.adr a), some (.lst [iT [x0, y0, t0], iT [p1, s1, r1], iT [p, s2, r], iT [x9, y9, t9], iT [1, 0, 0]]), none, none, none, some (iT [p, s2, r]), some (.tup [iT [n, m], iT [n2, m2]]), some (iT [n, m]), some (iT [n2, m2]), some (lotD (smT A) [A]), some (lotD (smT B) [B]), some (lotD (baT A B) ro), some (lotD (baT A B) ro), none, none, none, none] : Env').set 3 (([iT [x0, y0, t0], iT [p1, s1, r1], iT [p, s2, r], iT [x9, y9, t9], iT [1, 0, 0], iT [p6, s6, r6]] : List Dt)[j]?)) (wk_list (dv_is (dv_cat (dv_var 1 rfl rfl) (dv_lst (da_cons (dv_is (dv_call c__law_low (hr.mono (by decide)) (da_cons (dv_tup (da_cons (dv_ixT (dv_var 5 rfl rfl) dv_int rfl) (da_cons (dv_sub (dv_ixT (dv_var 5 rfl rfl) dv_int rfl) (dv_mul dv_int (dv_ixT (dv_var 5 rfl rfl) dv_int rfl) (by walk_at "bd"))) (da_cons (dv_ixT (dv_var 5 rfl rfl) dv_int rfl) da_nil)))) da_nil) ⟨_, gd6, .inr rfl, rfl⟩) (congrArg iT low6)) da_nil)) (by simp)) rfl)) rfl (fun j d hd => ?_) (fun j d hd => ?_) PassesOwn.never rfl) ?_
  · rw [hd]
    exact dg_name 3 rfl sc__law_right.nd
  · rw [hd]
    obtain ⟨x, y, t, hxy, rfl⟩ := hL d (List.mem_of_getElem? hd)
    have hpl : Pl x y t := by
      rcases hxy with ⟨rfl, rfl, rfl⟩ | hNx
      · exact far_pl
      · exact hNx.plc
    rcases hxy with ⟨rfl, rfl, rfl⟩ | hNx
    · have f1 : inD A 1 0 0 = false := decide_eq_false (by show ¬ (A.q ≤ 0); have := cq.qA; omega)
      have f2 : inD B 1 0 0 = false := decide_eq_false (by show ¬ (B.q ≤ 0); have := cq.qB; omega)
      have f3 : inR A B 1 0 0 = false := by
        show (_ && inD B 1 0 0) = false
        rw [f2, Bool.and_false]
      refine Ds.wk (ds_set 13 rfl sc__law_right.nd (dv_is (dv_lst (da_cons dv_bl (da_cons dv_bl (da_cons dv_bl da_nil)))) (show Dt.lst [.bl false, .bl false, .bl false] = bD [inD A 1 0 0, inD B 1 0 0, inR A B 1 0 0] by rw [f1, f2, f3]; rfl)) (ds_cons (d1_if (o := .nx _) (k := false) (dp_is (dp_cmp (dv_ixT (dv_var 3 rfl rfl) dv_int rfl) dv_int cd_ne (nomark _)) rfl) (fun z => nomatch z) (fun _ => ds_nil)) (ds_ifF (dp_is (dp_cmp (dv_repr (bs := [inD A 1 0 0, inD B 1 0 0, inR A B 1 0 0, inR A B 1 0 0]) (dv_lst (da_cons (dv_is (dv_call c_holds (hr.mono (by decide)) (da_cons (dv_var 9 rfl rfl) (da_cons (dv_var 3 rfl rfl) da_nil)) ⟨smT A, [A], 1, 0, 0, trA, hpl, rfl, rfl⟩) (congrArg Dt.bl (hv_sm cq.qA 1 0 0))) (da_cons (dv_is (dv_call c_holds (hr.mono (by decide)) (da_cons (dv_var 10 rfl rfl) (da_cons (dv_var 3 rfl rfl) da_nil)) ⟨smT B, [B], 1, 0, 0, trB, hpl, rfl, rfl⟩) (congrArg Dt.bl (hv_sm cq.qB 1 0 0))) (da_cons (dv_is (dv_call c_holds (hr.mono (by decide)) (da_cons (dv_var 11 rfl rfl) (da_cons (dv_var 3 rfl rfl) da_nil)) ⟨baT A B, ro, 1, 0, 0, trBa, hpl, rfl, rfl⟩) (congrArg Dt.bl (hv_ba cq.qA cq.qB 1 0 0))) (da_cons (dv_is (dv_call c_holds (hr.mono (by decide)) (da_cons (dv_var 12 rfl rfl) (da_cons (dv_var 3 rfl rfl) da_nil)) ⟨baT A B, ro, 1, 0, 0, trBa, hpl, rfl, rfl⟩) (congrArg Dt.bl (hv_ba cq.qA cq.qB 1 0 0))) da_nil))))) hfree (room_u64 hr) (rb4 _ _ _) M.repr) (dv_repr (bs := [inD A 1 0 0, inD B 1 0 0, inR A B 1 0 0, inR A B 1 0 0]) (dv_is (dv_cat (dv_var 13 rfl rfl) (dv_slL (dv_var 13 rfl rfl) (do_some dv_int) do_none) (by show 3 + 1 ≤ _; decide)) (show _ = bD [inD A 1 0 0, inD B 1 0 0, inR A B 1 0 0, inR A B 1 0 0] from rfl)) hfree (room_u64 hr) (rb4 _ _ _) M.repr) cd_neS (nomark _)) (by simp)) ds_nil))) ⟨rfl, rfl, rfl, rfl, rfl, rfl, rfl, rfl, rfl, rfl, True.intro⟩
    · obtain ⟨ga, oA, _⟩ := out_ot hN hf
      obtain ⟨gb, oB, _⟩ := out_ot hN hf2
      rw [← eA] at oA
      rw [← eB] at oB
      have ht0 : t ≠ 0 := by have := hNx.pos; omega
      obtain ⟨u6, v6, g6, hlow, hg6, eu6, ev6⟩ := gap_of (p := p) (s := s2) (x := x) (y := y) hN.pos hNx.pos
      obtain ⟨uA1, uA2⟩ := under_val oA ht0 hg6 eu6 ev6
      obtain ⟨uB1, uB2⟩ := under_val oB ht0 hg6 eu6 ev6
      have hgap : R__law_apart [iT [p, s2, r], iT [x, y, t]] (iT [u6, v6]) := ⟨p, s2, r, x, y, t, hN.nr.1, hNx.nr.1, by omega, ht0, rfl, by rw [hlow]⟩
      have hX : Sm 40 (p * t - x * r) := ((hN.sp.mul hNx.sr).sub (hNx.sp.mul hN.sr)).mono (by decide)
      have hY : Sm 40 (s2 * t - y * r) := ((hN.ss.mul hNx.sr).sub (hNx.ss.mul hN.sr)).mono (by decide)
      have e1 : [((p * t - x * r) * (p * t - x * r) + (s2 * t - y * r) * (s2 * t - y * r)) / (divOf [(p * t - x * r) * (p * t - x * r) + (s2 * t - y * r) * (s2 * t - y * r), r * r * t * t] : Int), (r * r * t * t) / (divOf [(p * t - x * r) * (p * t - x * r) + (s2 * t - y * r) * (s2 * t - y * r), r * r * t * t] : Int)] = [u6, v6] := hlow
      simp only [List.cons.injEq, and_true] at e1
      have hus6 : Sm 200 u6 := by rw [← e1.1]; exact div_le (b := 0) (((hX.mul hX).add (hY.mul hY)).mono (by decide))
      have hvs6 : Sm 200 v6 := by rw [← e1.2]; exact div_le (b := 0) ((((hN.sr.mul hN.sr).mul hNx.sr).mul hNx.sr).mono (by decide))
      have w1 : R__law_under [iT [n, m], iT [u6, v6]] (.bl (decide (0 < val A x y t))) := ⟨n, m, u6, v6, ⟨hf.sn.mono (by decide), hf.sm.mono (by decide)⟩, ⟨hus6, hvs6⟩, rfl, congrArg Dt.bl (decide_eq_decide.mpr uA1.symm)⟩
      have w2 : R__law_under [iT [n2, m2], iT [u6, v6]] (.bl (decide (0 < val B x y t))) := ⟨n2, m2, u6, v6, ⟨hf2.sn.mono (by decide), hf2.sm.mono (by decide)⟩, ⟨hus6, hvs6⟩, rfl, congrArg Dt.bl (decide_eq_decide.mpr uB1.symm)⟩
      have w3 : R__law_under [iT [u6, v6], iT [n, m]] (.bl (decide (val A x y t < 0))) := ⟨u6, v6, n, m, ⟨hus6, hvs6⟩, ⟨hf.sn.mono (by decide), hf.sm.mono (by decide)⟩, rfl, congrArg Dt.bl (decide_eq_decide.mpr uA2.symm)⟩
      have b1 : (!decide (0 < val A x y t)) = inD A x y t := by
        unfold inD
        rw [← decide_not]
        exact decide_eq_decide.mpr ⟨fun _ => by omega, fun _ => by omega⟩
      have b2 : (!decide (0 < val B x y t)) = inD B x y t := by
        unfold inD
        rw [← decide_not]
        exact decide_eq_decide.mpr ⟨fun _ => by omega, fun _ => by omega⟩
      have b3 : ((!decide (val A x y t < 0)) && (!decide (0 < val B x y t))) = inR A B x y t := by
        rw [b2]
        unfold inR inD
        rw [← decide_not]
        congr 1
        exact decide_eq_decide.mpr ⟨fun _ => by omega, fun _ => by omega⟩
      refine Ds.wk (ds_set 13 rfl sc__law_right.nd (dv_lst (da_cons dv_bl (da_cons dv_bl (da_cons dv_bl da_nil)))) (ds_cons (d1_if (o := .nx _) (k := true) (dp_is (dp_cmp (dv_ixT (dv_var 3 rfl rfl) dv_int rfl) dv_int cd_ne (nomark _)) (by rw [decide_eq_false ht0]; rfl)) (fun _ => ds_set 2 rfl sc__law_right.nd (dv_call c__law_apart (hr.mono (by decide)) (da_cons (dv_var 5 rfl rfl) (da_cons (dv_var 3 rfl rfl) da_nil)) hgap) (ds_set 13 rfl sc__law_right.nd (dv_is (dv_lst (da_cons (dv_not (dv_call c__law_under (hr.mono (by decide)) (da_cons (dv_var 7 rfl rfl) (da_cons (dv_var 2 rfl rfl) da_nil)) w1)) (da_cons (dv_not (dv_call c__law_under (hr.mono (by decide)) (da_cons (dv_var 8 rfl rfl) (da_cons (dv_var 2 rfl rfl) da_nil)) w2)) (da_cons (dv_and (dv_not (dv_call c__law_under (hr.mono (by decide)) (da_cons (dv_var 2 rfl rfl) (da_cons (dv_var 7 rfl rfl) da_nil)) w3)) fun _ => (dv_one (dv_not (dv_call c__law_under (hr.mono (by decide)) (da_cons (dv_var 8 rfl rfl) (da_cons (dv_var 2 rfl rfl) da_nil)) w2)))) da_nil)))) (show _ = bD [inD A x y t, inD B x y t, inR A B x y t] by rw [b1, b2, ← b3, b2]; rfl)) ds_nil)) (fun z => nomatch z)) (ds_ifF (dp_is (dp_cmp (dv_repr (bs := [inD A x y t, inD B x y t, inR A B x y t, inR A B x y t]) (dv_lst (da_cons (dv_is (dv_call c_holds (hr.mono (by decide)) (da_cons (dv_var 9 rfl rfl) (da_cons (dv_var 3 rfl rfl) da_nil)) ⟨smT A, [A], x, y, t, trA, hpl, rfl, rfl⟩) (congrArg Dt.bl (hv_sm cq.qA x y t))) (da_cons (dv_is (dv_call c_holds (hr.mono (by decide)) (da_cons (dv_var 10 rfl rfl) (da_cons (dv_var 3 rfl rfl) da_nil)) ⟨smT B, [B], x, y, t, trB, hpl, rfl, rfl⟩) (congrArg Dt.bl (hv_sm cq.qB x y t))) (da_cons (dv_is (dv_call c_holds (hr.mono (by decide)) (da_cons (dv_var 11 rfl rfl) (da_cons (dv_var 3 rfl rfl) da_nil)) ⟨baT A B, ro, x, y, t, trBa, hpl, rfl, rfl⟩) (congrArg Dt.bl (hv_ba cq.qA cq.qB x y t))) (da_cons (dv_is (dv_call c_holds (hr.mono (by decide)) (da_cons (dv_var 12 rfl rfl) (da_cons (dv_var 3 rfl rfl) da_nil)) ⟨baT A B, ro, x, y, t, trBa, hpl, rfl, rfl⟩) (congrArg Dt.bl (hv_ba cq.qA cq.qB x y t))) da_nil))))) hfree (room_u64 hr) (rb4 _ _ _) M.repr) (dv_repr (bs := [inD A x y t, inD B x y t, inR A B x y t, inR A B x y t]) (dv_is (dv_cat (dv_var 13 rfl rfl) (dv_slL (dv_var 13 rfl rfl) (do_some dv_int) do_none) (by show 3 + 1 ≤ _; decide)) (show _ = bD [inD A x y t, inD B x y t, inR A B x y t, inR A B x y t] from rfl)) hfree (room_u64 hr) (rb4 _ _ _) M.repr) cd_neS (nomark _)) (by simp)) ds_nil))) ⟨rfl, rfl, rfl, rfl, rfl, rfl, rfl, rfl, rfl, rfl, True.intro⟩

  have rA : ∀ r ∈ (smT A).rows, r = A ∨ r = negR A ∨ r = B ∨ r = negR B := fun r hr => .inr (.inl (by simpa [Tr.rows] using hr))
  have rB : ∀ r ∈ (smT B).rows, r = A ∨ r = negR A ∨ r = B ∨ r = negR B := fun r hr => .inr (.inr (.inr (by simpa [Tr.rows] using hr)))
  have rR : ∀ r ∈ (riT A).rows, r = A ∨ r = negR A ∨ r = B ∨ r = negR B := fun r hr => .inl (by simpa [Tr.rows] using hr)
  have rBa : ∀ r ∈ (baT A B).rows, r = A ∨ r = negR A ∨ r = B ∨ r = negR B := fun r hr => by simp [Tr.rows] at hr; rcases hr with rfl | rfl <;> simp
  have rEi : ∀ r ∈ (eiT A B).rows, r = A ∨ r = negR A ∨ r = B ∨ r = negR B := fun r hr => by simp [Tr.rows] at hr; rcases hr with rfl | rfl | rfl <;> simp
  have rBo : ∀ r ∈ (boT A B).rows, r = A ∨ r = negR A ∨ r = B ∨ r = negR B := fun r hr => by simp [Tr.rows] at hr; rcases hr with rfl | rfl | rfl <;> simp
  have lro := od.len
  have tAB : R2' ro [A] ro := od.two cq (fun r hr => by simp at hr; rcases hr with z | rfl; exact od.only r z; exact .inl rfl) (by simp) (by simp [od.mB]) (by simp; omega)
  have tB : R2' ro [B] ro := od.two cq (fun r hr => by simp at hr; rcases hr with z | rfl; exact od.only r z; exact .inr rfl) (by simp [od.mA]) (by simp) (by simp; omega)
  have tBR : R2' [B] ro ro := od.two cq (fun r hr => by simp at hr; rcases hr with rfl | z; exact .inr rfl; exact od.only r z) (by simp [od.mA]) (by simp) (by simp; omega)
  have tRR : R2' ro ro ro := od.two cq (fun r hr => by simp at hr; exact od.only r hr) (by simp [od.mA]) (by simp [od.mB]) (by simp; omega)
  have tA1 : R2' [A] [B] ro := od.two cq (fun r hr => by simpa using hr) (by simp) (by simp) (by simp)
  have tB1 : R2' [B] [A] ro := od.two cq (fun r hr => ((by simpa using hr : r = B ∨ r = A)).symm) (by simp) (by simp) (by simp)
  have fA1 : FI (smT A) [A] ks0 := fi1 cq.rA cq.rA' cq.qA (fun r hr => .inr (by simpa [Tr.rows] using hr)) (by simp [Tr.dp])
  have fB1 : FI (smT B) [B] ks0 := fi1 cq.rB cq.rB' cq.qB (fun r hr => .inr (by simpa [Tr.rows] using hr)) (by simp [Tr.dp])
  have fR1 : FI (riT A) [A] ks0 := fi1 cq.rA cq.rA' cq.qA (fun r hr => .inl (by simpa [Tr.rows] using hr)) (by simp [Tr.dp])
  have oneA : ∀ r ∈ [A], BR r ∧ r.q ≠ 0 := fun r hr => by simp at hr; subst hr; exact ⟨cq.rA.ro.b, cq.rA.q0⟩
  have oneB : ∀ r ∈ [B], BR r ∧ r.q ≠ 0 := fun r hr => by simp at hr; subst hr; exact ⟨cq.rB.ro.b, cq.rB.q0⟩
  have bothR : ∀ r ∈ ro, BR r ∧ r.q ≠ 0 := fun r hr => by
    rcases od.only r hr with rfl | rfl
    · exact ⟨cq.rA.ro.b, cq.rA.q0⟩
    · exact ⟨cq.rB.ro.b, cq.rB.q0⟩
  have bdA : R_is_bounded [lotD (smT A) [A]] (.bl true) := ⟨smT A, [A], ks0, fA1, by simp, oneA, rfl, by rw [far1 cq.qA, (see1 cq.qA 1).1]; rfl⟩
  have bdB : R_is_bounded [lotD (smT B) [B]] (.bl true) := ⟨smT B, [B], ks0, fB1, by simp, oneB, rfl, by rw [far1 cq.qB, (see1 cq.qB 1).1]; rfl⟩
  have bdR : R_is_bounded [lotD (riT A) [A]] (.bl true) := ⟨riT A, [A], ks0, fR1, by simp, oneA, rfl, by rw [far1 cq.qA, (see1 cq.qA 1).2]; rfl⟩
  have bdBa : R_is_bounded [lotD (baT A B) ro] (.bl true) := ⟨baT A B, ro, ks, (od.fi cq rBa (by simp [Tr.dp])), by omega, bothR, rfl, by rw [od.b1]; rfl⟩
  have bdNo : R_is_bounded [lotD (.no (baT A B)) ro] (.bl false) := ⟨.no (baT A B), ro, ks, od.fi cq rBa (by simp [Tr.dp]), by omega, bothR, rfl, by rw [od.b2]; rfl⟩
  refine ds_cons (d1_par 14 15 (da_cons (DvF.dv (dvF_make (tr := riT A) c_L M.lot (hr.mono (by decide)) (dv_tup (da_cons dv_str (da_cons (dv_call c__law_ring_row (hr.mono (by decide)) (da_cons (dv_var 5 rfl rfl) (da_cons (dv_var 7 rfl rfl) da_nil)) hrA) da_nil))) trR)) (da_cons (DvF.dv (dvF_make (tr := smT B) c_L M.lot (hr.mono (by decide)) (dv_tup (da_cons dv_str (da_cons (dv_call c__law_minus (hr.mono (by decide)) (da_cons (dv_call c__law_ring_row (hr.mono (by decide)) (da_cons (dv_var 5 rfl rfl) (da_cons (dv_var 8 rfl rfl) da_nil)) hrB) da_nil) ⟨B, rfl, rfl⟩) da_nil))) trB)) da_nil)) rfl sc__law_right.nd rfl rfl (by decide) rfl rfl) ?_
  refine ds_set 4 rfl sc__law_right.nd (dv_is (dv_lst (da_cons (dv_is (dv_call c_is_same (hr.mono (by decide)) (da_cons (dv_call c_either (hr.mono (by decide)) (da_cons (dv_var 11 rfl rfl) (da_cons (dv_var 9 rfl rfl) da_nil)) ⟨baT A B, ro, smT A, [A], ro, tAB, trEi, rfl, rfl⟩) (da_cons (dv_var 10 rfl rfl) da_nil)) ⟨eiT A B, ro, smT B, [B], ro, ks, tB, od.fi cq rEi (by simp [Tr.dp]), od.fi cq rB (by simp [Tr.dp]), rfl, rfl⟩) (congrArg Dt.bl (decide_eq_true od.e1))) (da_cons (dv_is (dv_call c_is_same (hr.mono (by decide)) (da_cons (dv_call c_both (hr.mono (by decide)) (da_cons (dv_var 11 rfl rfl) (da_cons (dv_var 9 rfl rfl) da_nil)) ⟨baT A B, ro, smT A, [A], ro, tAB, trBo, rfl, rfl⟩) (da_cons (dv_var 14 rfl rfl) da_nil)) ⟨boT A B, ro, riT A, [A], ro, ks, tAB, od.fi cq rBo (by simp [Tr.dp]), od.fi cq rR (by simp [Tr.dp]), rfl, rfl⟩) (congrArg Dt.bl (decide_eq_true od.e2))) (da_cons (dv_is (dv_call c_is_same (hr.mono (by decide)) (da_cons (dv_var 10 rfl rfl) (da_cons (dv_var 15 rfl rfl) da_nil)) ⟨smT B, [B], smT B, [B], [B], ks0, two1 cq.rB cq.qB, fB1, fB1, rfl, rfl⟩) (congrArg Dt.bl (decide_eq_true rfl))) (da_cons (dv_is (dv_call c_is_same (hr.mono (by decide)) (da_cons (dv_var 11 rfl rfl) (da_cons (dv_var 12 rfl rfl) da_nil)) ⟨baT A B, ro, baT A B, ro, ro, ks, tRR, od.fi cq rBa (by simp [Tr.dp]), od.fi cq rBa (by simp [Tr.dp]), rfl, rfl⟩) (congrArg Dt.bl (decide_eq_true rfl))) da_nil))))) (show _ = bD [true, true, true, true] from rfl)) ?_
  refine ds_set 4 rfl sc__law_right.nd (dv_is (dv_cat (dv_var 4 rfl rfl) (dv_lst (da_cons (dv_is (dv_call c_lies_inside (hr.mono (by decide)) (da_cons (dv_var 9 rfl rfl) (da_cons (dv_var 10 rfl rfl) da_nil)) ⟨smT A, [A], smT B, [B], ro, ks, tA1, (od.fi cq rA (by simp [Tr.dp])), (od.fi cq rB (by simp [Tr.dp])), rfl, rfl⟩) (congrArg Dt.bl od.l1)) (da_cons (dv_is (dv_call c_lies_inside (hr.mono (by decide)) (da_cons (dv_var 11 rfl rfl) (da_cons (dv_var 10 rfl rfl) da_nil)) ⟨baT A B, ro, smT B, [B], ro, ks, tB, (od.fi cq rBa (by simp [Tr.dp])), (od.fi cq rB (by simp [Tr.dp])), rfl, rfl⟩) (congrArg Dt.bl od.l2)) (da_cons (dv_is (dv_call c_lies_inside (hr.mono (by decide)) (da_cons (dv_var 10 rfl rfl) (da_cons (dv_var 9 rfl rfl) da_nil)) ⟨smT B, [B], smT A, [A], ro, ks, tB1, (od.fi cq rB (by simp [Tr.dp])), (od.fi cq rA (by simp [Tr.dp])), rfl, rfl⟩) (congrArg Dt.bl od.l3)) (da_cons (dv_is (dv_call c_lies_inside (hr.mono (by decide)) (da_cons (dv_var 10 rfl rfl) (da_cons (dv_var 11 rfl rfl) da_nil)) ⟨smT B, [B], baT A B, ro, ro, ks, tBR, (od.fi cq rB (by simp [Tr.dp])), (od.fi cq rBa (by simp [Tr.dp])), rfl, rfl⟩) (congrArg Dt.bl od.l4)) da_nil))))) (by decide)) (show _ = bD [true, true, true, true, true, true, false, false] from rfl)) ?_
  refine ds_ifF (dp_is (dp_cmp (dv_repr (bs := [true, true, true, true, true, true, false, false]) (dv_var 4 rfl rfl) hfree (room_u64 hr) rb8 M.repr) (dv_repr (bs := [true, true, true, true, true, true, false, false]) (dv_is (dv_lst (da_cons dv_bl (da_cons dv_bl (da_cons dv_bl (da_cons dv_bl (da_cons dv_bl (da_cons dv_bl (da_cons dv_bl (da_cons dv_bl da_nil))))))))) rfl) hfree (room_u64 hr) rb8 M.repr) cd_neS (nomark _)) (by simp)) ?_
  refine ds_set 4 rfl sc__law_right.nd (dv_is (dv_cat (dv_lc1 16 (fun _ => .bl true) (ds := [lotD (smT A) [A], lotD (smT B) [B], lotD (baT A B) ro, lotD (riT A) [A]]) (wk_list (dv_lst (da_cons (dv_var 9 rfl rfl) (da_cons (dv_var 10 rfl rfl) (da_cons (dv_var 11 rfl rfl) (da_cons (dv_var 14 rfl rfl) da_nil)))))) rfl sc__law_right.nd rfl (blkOk_by (N := N__law_right) (sc := defScope s__law_right) (by decide +kernel)) rfl (by simp) (fun d hd s H c cl fp => ?_) (fun d hd => rfl)) (dv_lst (da_cons (dv_is (dv_call c_is_bounded (hr.mono (by decide)) (da_cons (dv_call c_rest (hr.mono (by decide)) (da_cons (dv_var 11 rfl rfl) da_nil) ⟨baT A B, ro, trNo, rfl, rfl⟩) da_nil) bdNo) (congrArg Dt.bl rfl)) da_nil)) (by simp)) (show _ = bD [true, true, true, true, false] from rfl)) ?_
  · simp only [List.mem_cons, List.not_mem_nil, or_false] at hd
    rcases hd with rfl | rfl | rfl | rfl
    · exact dv_call c_is_bounded (hr.mono (by decide)) (da_cons (dv_var 16 rfl rfl) da_nil) bdA
    · exact dv_call c_is_bounded (hr.mono (by decide)) (da_cons (dv_var 16 rfl rfl) da_nil) bdB
    · exact dv_call c_is_bounded (hr.mono (by decide)) (da_cons (dv_var 16 rfl rfl) da_nil) bdBa
    · exact dv_call c_is_bounded (hr.mono (by decide)) (da_cons (dv_var 16 rfl rfl) da_nil) bdR
  refine ds_ifF (dp_is (dp_cmp (dv_repr (bs := [true, true, true, true, false]) (dv_var 4 rfl rfl) hfree (room_u64 hr) rb5 M.repr) (dv_repr (bs := [true, true, true, true, false]) (dv_is (dv_lst (da_cons dv_bl (da_cons dv_bl (da_cons dv_bl (da_cons dv_bl (da_cons dv_bl da_nil)))))) rfl) hfree (room_u64 hr) rb5 M.repr) cd_neS (nomark _)) (by simp)) ?_
  refine ds_set 4 rfl sc__law_right.nd (dv_is (dv_lst (da_cons (dv_is (dv_call c_is_open_somewhere (hr.mono (by decide)) (da_cons (dv_var 11 rfl rfl) da_nil) ⟨baT A B, ro, ks, (od.fi cq rBa (by simp [Tr.dp])), rfl, rfl⟩) (congrArg Dt.bl (by rw [decide_eq_false od.o1]; rfl))) (da_cons (dv_is (dv_call c_is_open_somewhere (hr.mono (by decide)) (da_cons (dv_var 14 rfl rfl) da_nil) ⟨riT A, [A], ks0, fR1, rfl, rfl⟩) (congrArg Dt.bl (by rw [rim1 cq.qA]; decide))) (da_cons (dv_is (dv_call c_is_empty (hr.mono (by decide)) (da_cons (dv_var 11 rfl rfl) da_nil) ⟨baT A B, ro, ks, (od.fi cq rBa (by simp [Tr.dp])), rfl, rfl⟩) (congrArg Dt.bl (decide_eq_false od.ne))) (da_cons (dv_is (dv_call c_has_near_place (hr.mono (by decide)) (da_cons (dv_var 11 rfl rfl) da_nil) ⟨baT A B, ro, ks, (od.fi cq rBa (by simp [Tr.dp])), rfl, rfl⟩) (congrArg Dt.bl (by rw [decide_eq_false od.ne]; rfl))) (da_cons (dv_is (dv_call c_is_empty (hr.mono (by decide)) (da_cons (dv_var 14 rfl rfl) da_nil) ⟨riT A, [A], ks0, fR1, rfl, rfl⟩) (congrArg Dt.bl (by rw [rim1 cq.qA]; decide))) da_nil)))))) (show _ = bD [true, false, false, true, false] from rfl)) ?_
  exact ds_ret (dv_is (dv_cmp (dv_repr (bs := [true, false, false, true, false]) (dv_var 4 rfl rfl) hfree (room_u64 hr) rb5' M.repr) (dv_repr (bs := [true, false, false, true, false]) (dv_is (dv_lst (da_cons dv_bl (da_cons dv_bl (da_cons dv_bl (da_cons dv_bl (da_cons dv_bl da_nil)))))) rfl) hfree (room_u64 hr) rb5' M.repr) cd_eqS (nomark _)) (by simp))
end
end K28
set_option Elab.async false
set_option linter.all false
set_option maxRecDepth 100000
set_option maxHeartbeats 0
namespace K28
open PySem PySem.Spec PyProof.Rows L2 Evl
local macro_rules | `(tactic| walk_at "bd") => `(tactic| (refine' cmul ?ha ?hb ?hc; (case ha => repeat' (first | assumption | exact Sm.lit (by decide) | apply Sm.mul | apply Sm.add | apply Sm.sub | apply Sm.neg)); (case hb => repeat' (first | assumption | exact Sm.lit (by decide) | apply Sm.mul | apply Sm.add | apply Sm.sub | apply Sm.neg)); (case hc => decide)))
section
variable {C : Addr} {P : Program} {w : World} {K : PySem.W.Frag} {mg : Str → Option Value} {base : Heap}

abbrev N_law : List Str := ["_law_script", "_law_lap"]
theorem sc_law : FnScope N_law ["_law_script"] (defScope s_law) := ⟨rfl, rfl, rfl, by decide +kernel, rfl, by decide +kernel, by decide +kernel⟩
/-! ### the law -/
theorem dv_lap {X : Cx} {Γ : Env'} {e1 e2 : Expr} {ns : List Int} {k : Nat} {f : Addr} {fd : FuncData} {p0 p1 q0 q1 : Pos} (cs : CalF C X.prog X.w X.K X.mg X.base 1 "_law_sack" ["_law_script", "_law_lap"] R__law_sack) (F : FnG X.prog X.w X.K X.mg X.base 16 f fd ["_law_sack_here"] spR) (hr : Room 16 X.A) (hfree : X.A.guards = some []) (hm : X.mg "_law_right" = some (.ref f)) (hk : PySem.W.keepIn X.K (.ref f) = true) (hb : Binds X.K fd ["_law_sack_here"] [])
    (h1 : Dv C X e1 Γ (.frl (ns.map .int))) (h2 : Dv C X e2 Γ (.int (k : Nat))) (hk3 : k ≤ 3) (hl : ns.length ≤ 63) (hg : Gl X "_law_right" := by rfl) (hg2 : Gl X "_law_sack" := by rfl) (hs : starEach (.Call (.Name "_law_sack" p1) [e1, e2] [] q1 :: []) X.env = (false, eval (.Call (.Name "_law_sack" p1) [e1, e2] [] q1) X.env) :: starEach [] X.env := by rfl)
    (hpl : (backTo q0 (starEach [] X.env)).any (·.1) = false := by rfl) (g1 : starEach (e1 :: [e2]) X.env = (false, eval e1 X.env) :: starEach [e2] X.env := by rfl) (g2 : starEach (e2 :: []) X.env = (false, eval e2 X.env) :: starEach [] X.env := by rfl) (gpl : (backTo q1 (starEach [e2] X.env)).any (·.1) = false := by rfl) : Dv C X (.Call (.Name "_law_right" p0) [.Call (.Name "_law_sack" p1) [e1, e2] [] q1] [] q0) Γ (.bl true) := by
  obtain ⟨t, pt, et⟩ := dvF_call (p := p1) (pos := q1) cs (hr.mono (by decide)) (da_cons h1 (da_cons h2 da_nil g2) g1) ⟨ns, k, hk3, hl, rfl, rfl⟩ hg2 (by decide) g1 gpl
  refine ⟨_, pe_callG F hr hfree hg hm hk hb (pa_cons pt pa_nil hs) (by decide) hs hpl, fun σ H hs Q q => et σ H hs _ fun a H2 ha e r => ?_⟩
  refine ⟨a, rfl, ?_, fun H' x => q _ H' (fun b o hb => x b o (fun z => by subst z; rw [ha] at hb; cases hb) (e b o hb)) (.bl true)⟩
  cases r with
  | lst h1 h2 =>
    cases h2 with
    | cons i1 t1 =>
      cases t1 with
      | cons i2 t2 =>
        cases t2 with
        | cons i3 t3 =>
          cases t3
          cases i1
          cases i2
          cases i3
          exact ⟨_, _, _, h1, sackY_ok ns hk3, Int.le_refl _, by decide⟩
def spL : PySem.W.Frag → Sp := fun K vs H Q _ => ∃ a ns, vs = [.ref a] ∧ List.length ns ≤ 63 ∧ SqL K H a (ns.map V.int) ∧ ∀ H', Q (.bl true) H'

theorem RpAll.frlI {H : Hp} {a : Addr} {ns : List Int} (h : SqL K H a (ns.map V.int)) : Rp C K H (.ref a) (.frl (ns.map .int)) := .frl h (RpAll.ofInts ns)
theorem ok_law (M : Md C K mg) {f : Addr} {fd : FuncData} (Fu : Fun K "law" "law" s_law f fd) {fr : Addr} {fdr : FuncData} (cs : CalF C P w K mg base 1 "_law_sack" ["_law_script", "_law_lap"] R__law_sack) (F : FnG P w K mg base 16 fr fdr ["_law_sack_here"] spR) (hm : mg "_law_right" = some (.ref fr)) (hk : PySem.W.keepIn K (.ref fr) = true) (hb : Binds K fdr ["_law_sack_here"] []) : FnG P w K mg base 17 f fd ["_law_script"] (spL K) := by
  refine fnG_of (N := N_law) Fu sc_law (fun vs H Q h => ?_) fun cdv A outer s H vs Q hr hfree h => ?_
  · obtain ⟨a, ns, rfl, _⟩ := h
    rfl
  obtain ⟨a, ns, rfl, hl, hS, hq⟩ := h
  suffices body : Ds C (Xd P w K mg base N_law "law" s_law f cdv A outer s H E0) (defBody s_law) [some (.frl (ns.map .int)), none] (.rt (.bl true)) by
    obtain ⟨t, pt, et⟩ := body
    refine ⟨t, pt, et _ H (.cons ⟨_, rfl, RpAll.frlI hS⟩ (.cons True.intro .nil)) _ fun v H' e r => ?_⟩
    cases r
    exact hq H'
  obtain ⟨n, hn, hn3⟩ : ∃ n : Nat, (if (if (3 : Int) < ((ns.map Dt.int).length : Int) then (3 : Int) else ((ns.map Dt.int).length : Int)) > 2 then (if (3 : Int) < ((ns.map Dt.int).length : Int) then (3 : Int) else ((ns.map Dt.int).length : Int)) else 2) = (n : Int) ∧ n ≤ 3 := by
    rw [List.length_map]
    by_cases c : 3 ≤ ns.length
    · exact ⟨3, by split <;> split <;> omega, by decide⟩
    · exact ⟨2, by split <;> split <;> omega, by decide⟩
  refine ds_ret (dv_is (dv_callB (cb_all (bs := (List.range n).map fun _ => true) rfl) M.all bt_all (da_cons (dv_is (dv_lc1 1 (fun _ => .bl true) (ds := (List.range n).map fun (i : Nat) => Dt.int (i : Int)) (wk_range (da_cons (dv_is (dv_callB (cb_max2 rfl) M.max bt_max (da_cons dv_int (da_cons (dv_callB (cb_min2 rfl) M.min bt_min (da_cons (dv_callB cb_lenF M.len bt_len (da_cons (dv_var 0 rfl rfl) da_nil)) (da_cons dv_int da_nil))) da_nil))) (congrArg Dt.int hn)) da_nil) (by omega) M.range) rfl sc_law.nd rfl (blkOk_by (N := N_law) (sc := defScope s_law) (by decide +kernel)) rfl (by simp; omega) (fun d hd s H c cl fp => ?_) (fun d hd => rfl)) (show _ = bD ((List.range n).map fun _ => true) by simp only [bD, List.map_map]; rfl)) da_nil)) (by simp))
  obtain ⟨i, hi, rfl⟩ := List.mem_map.mp hd
  rw [List.mem_range] at hi
  exact dv_lap cs F hr hfree hm hk hb (dv_var 0 rfl rfl) (dv_var 1 rfl rfl) (by omega) hl
end
end K28
set_option Elab.async false
set_option linter.all false
set_option maxRecDepth 100000
set_option maxHeartbeats 0
namespace K28
open PySem PySem.Spec PyProof.Rows L2 Evl

/-! ### the facts of the head -/
abbrev LC (K : PySem.W.Frag) : Addr := He.ga K "Lot"
section
variable {mg : Str → Option Value} {h : Heap} {K : PySem.W.Frag}
theorem md_of (X : K.In h) (G : h.Ns mainGlobals mg) (c : SaysK fa fn K) : Md (LC K) K mg := by
  have m := c.more
  unfold exB at m
  obtain ⟨m1, m⟩ := He.ba m
  obtain ⟨m2, m⟩ := He.ba m
  obtain ⟨m3, m⟩ := He.ba m
  obtain ⟨m4, m⟩ := He.ba m
  obtain ⟨m5, m⟩ := He.ba m
  obtain ⟨m6, m⟩ := He.ba m
  obtain ⟨m7, m⟩ := He.ba m
  obtain ⟨m8, m⟩ := He.ba m
  obtain ⟨m9, m⟩ := He.ba m
  obtain ⟨m10, m⟩ := He.ba m
  obtain ⟨m11, m⟩ := He.ba m
  obtain ⟨m12, m13⟩ := He.ba m
  exact {
    isinstance := He.free_ok X G (c.fact 78 (f := .free "isinstance") rfl)
    len := He.free_ok X G (c.fact 79 (f := .free "len") rfl)
    all := He.free_ok X G (c.fact 80 (f := .free "all") rfl)
    any := He.free_ok X G (c.fact 81 (f := .free "any") rfl)
    tuple := He.free_ok X G (c.fact 82 (f := .free "tuple") rfl)
    list := He.free_ok X G (c.fact 83 (f := .free "list") rfl)
    int := He.free_ok X G (c.fact 84 (f := .free "int") rfl)
    bool := He.free_ok X G (c.fact 85 (f := .free "bool") rfl)
    str := He.free_ok X G (c.fact 86 (f := .free "str") rfl)
    abs := He.free_ok X G (c.fact 87 (f := .free "abs") rfl)
    max := He.free_ok X G (c.fact 88 (f := .free "max") rfl)
    min := He.free_ok X G (c.fact 89 (f := .free "min") rfl)
    sum := He.free_ok X G (c.fact 90 (f := .free "sum") rfl)
    range := He.free_ok X G (c.fact 91 (f := .free "range") rfl)
    sorted := He.free_ok X G (c.fact 92 (f := .free "sorted") rfl)
    set := He.free_ok X G (c.fact 93 (f := .free "set") rfl)
    repr := He.free_ok X G (c.fact 94 (f := .free "repr") rfl)
    divmod := He.free_ok X G (c.fact 95 (f := .free "divmod") rfl)
    enumerate := He.free_ok X G (c.fact 96 (f := .free "enumerate") rfl)
    gcd := PySem.W.mg_of X G (He.eqO_ok m1)
    L := ⟨He.cls_ok (c.fact 103 (f := .cls "Lot") rfl), He.eqO_ok m3, He.eqO_ok m4, of_decide_eq_true m5, of_decide_eq_true m6, of_decide_eq_true m7⟩
    lot := He.glo_ok X G (c.fact 102 (f := .glo "Lot") rfl)
    far := ⟨.ref (He.ga K "FAR"), .ref (He.ga K "FAR"), He.glo_ok X G (c.fact 101 (f := .glo "FAR") rfl), rfl, fun H => .tup (He.tupB_ok m2 H) (RpAll.ofInts [1, 0, 0])⟩
    leaves := (let ⟨t, e⟩ := He.int_ok X G (c.fact 97 (f := .int "MOST_LEAVES" 24) rfl); ⟨.int 24, .int 24 t, e, ⟨t, rfl⟩, fun _ => .int 24⟩)
    deep := (let ⟨t, e⟩ := He.int_ok X G (c.fact 98 (f := .int "MOST_DEEP" 6) rfl); ⟨.int 6, .int 6 t, e, ⟨t, rfl⟩, fun _ => .int 6⟩)
    trees := (let ⟨t, e⟩ := He.int_ok X G (c.fact 99 (f := .int "MOST_TREES" 8) rfl); ⟨.int 8, .int 8 t, e, ⟨t, rfl⟩, fun _ => .int 8⟩)
    rounds := (let ⟨t, e⟩ := He.int_ok X G (c.fact 100 (f := .int "MOST_ROUNDS" 8) rfl); ⟨.int 8, .int 8 t, e, ⟨t, rfl⟩, fun _ => .int 8⟩)
    kii := of_decide_eq_true m10
    kib := of_decide_eq_true m11
    ktt := of_decide_eq_true m12
    kss := of_decide_eq_true m13 }
theorem lm_of (X : K.In h) (G : h.Ns mainGlobals mg) (c : SaysK fa fn K) : LotM (LC K) K := by
  have m := c.more
  unfold exB at m
  obtain ⟨_, m⟩ := He.ba m
  obtain ⟨_, m⟩ := He.ba m
  obtain ⟨_, m⟩ := He.ba m
  obtain ⟨_, m⟩ := He.ba m
  obtain ⟨_, m⟩ := He.ba m
  obtain ⟨_, m⟩ := He.ba m
  obtain ⟨_, m⟩ := He.ba m
  obtain ⟨m8, m⟩ := He.ba m
  obtain ⟨m9, _⟩ := He.ba m
  obtain ⟨f0, F0⟩ := c.def_ 78 (d := ⟨fun K => He.ma K (He.ga K "Lot") "__init__", "__init__", "Lot.__init__", s_Lot_init⟩) rfl
  obtain ⟨f1, F1⟩ := c.def_ 79 (d := ⟨fun K => propAt K "Lot" "tree", "tree", "Lot.tree", s_Lot_tree⟩) rfl
  obtain ⟨f2, F2⟩ := c.def_ 80 (d := ⟨fun K => propAt K "Lot" "rounds", "rounds", "Lot.rounds", s_Lot_rounds⟩) rfl
  exact ⟨He.noat_ok (c.fact 105 (f := .noat "Lot" "_tree") rfl), He.noat_ok (c.fact 106 (f := .noat "Lot" "_rounds") rfl), ⟨_, f0, F0, He.mkr_ok (c.fact 104 (f := .mkr "Lot") rfl), F0.binds fun _ _ _ _ _ _ us hl => match us, hl with | [_, _], _ => rfl⟩,
    ⟨_, _, f1, propB_ok m8, F1, F1.binds fun _ _ _ _ _ _ us hl => match us, hl with | [_], _ => rfl⟩, ⟨_, _, f2, propB_ok m9, F2, F2.binds fun _ _ _ _ _ _ us hl => match us, hl with | [_], _ => rfl⟩⟩
theorem top_of {x : Str} {st : Stmt} {ps : List Str} (X : K.In h) (G : h.Ns mainGlobals mg) (c : SaysK fa fn K) (i : Nat) (hd : fn[i]? = some ⟨fun K => He.ga K x, x, x, st⟩) (hf : fa[i]? = some (.glo x))
    (hb : ∀ (kV doc pm : Value) (an : Option Addr) (cdv ct : Value) (us : List Value), us.length = ps.length → bindArgs (PySem.W.fnOf x x (defArgs st) (defBody st) (defScope st) .none kV doc pm an cdv ct) ⟨us, []⟩ = pure (ps.zip us)) : Top K mg x st ps := by
  obtain ⟨fd, F⟩ := c.def_ i hd
  exact ⟨⟨_, fd, F, He.glo_ok X G (c.fact i hf), F.binds hb⟩⟩
def kwG : List Value → List Value → List Value
  | [], [x, y] => [y, x]
  | _, _ => []
def kwV : List V → List V → List V
  | [], [x, y] => [y, x]
  | _, _ => []
theorem kw_of {x a b : Str} {st : Stmt} (X : K.In h) (G : h.Ns mainGlobals mg) (c : SaysK fa fn K) (i : Nat) (hd : fn[i]? = some ⟨fun K => He.ga K x, x, x, st⟩) (hf : fa[i]? = some (.glo x))
    (hb : ∀ (kV doc pm : Value) (an : Option Addr) (cdv ct : Value) (u v : Value), bindArgs (PySem.W.fnOf x x (defArgs st) (defBody st) (defScope st) .none kV doc pm an cdv ct) ⟨[], [b, a].zip [u, v]⟩ = pure ([a, b].zip [v, u])) : TopKw K mg x st a b := by
  obtain ⟨fd, F⟩ := c.def_ i hd
  refine ⟨⟨_, fd, kwG, kwV, F, He.glo_ok X G (c.fact i hf), ⟨fun s us ws _ hl => ?_, fun {vs us zs ws} r1 r2 => ?_⟩, fun _ _ => rfl⟩⟩
  · obtain ⟨oc, od, kV, doc, pm, an, cdv, ct, osl, e, _⟩ := F.ex
    match us, ws, hl with
    | [], [u, v], _ =>
      rw [e]
      exact .of_eq (hb kV doc pm an cdv ct u v)
    | [], [], hl => cases hl
    | [], [_], hl => cases hl
    | [], _ :: _ :: _ :: _, hl => cases hl
    | _ :: _, _, hl => cases hl
  · cases r1 with
    | nil =>
      cases r2 with
      | nil => exact .nil
      | cons p1 t1 =>
        cases t1 with
        | nil => exact .nil
        | cons p2 t2 =>
          cases t2 with
          | nil => exact .cons p2 (.cons p1 .nil)
          | cons _ _ => exact .nil
    | cons _ _ => exact .nil
end
section
variable {C : Addr} {P : Program} {w : World} {K : PySem.W.Frag} {mg : Str → Option Value} {base : Heap}
theorem okk_disc_tree (M : Md C K mg) (T : TopKw K mg "disc_tree" s_disc_tree "pole" "square") (c_check_ratio : CalD C P w K mg base 5 "check_ratio" ["value"] R_check_ratio) (c_is_fraction : CalD C P w K mg base 3 "is_fraction" ["value"] R_is_fraction) (c_row_outside : CalD C P w K mg base 3 "row_outside" ["pole", "square"] R_row_outside) (c_opposite : CalD C P w K mg base 1 "opposite" ["row"] R_opposite) : CalKw C P w K mg base 6 "disc_tree" "pole" "square" R_disc_tree := by
  refine T.ok sc_disc_tree (fun ds d h => ?_) fun f cdv A outer s H E hr ds d h => ?_
  · obtain ⟨p, s2, r, n, m, hn, hf, rfl, rfl⟩ := h
    rfl
  · obtain ⟨p, s2, r, n, m, hn, hf, rfl, rfl⟩ := h
    refine ds_expr (dv_call c_check_ratio (hr.mono (by decide)) (da_cons (dv_var 0 rfl rfl) da_nil) ⟨p, s2, r, hn, rfl, rfl⟩) ?_
    refine ds_ifF (dp_is (dp_not (dp_val (dv_call c_is_fraction (hr.mono (by decide)) (da_cons (dv_var 1 rfl rfl) da_nil) ⟨n, m, hf, rfl, rfl⟩))) rfl) ?_
    exact ds_ret (dv_tup (da_cons dv_str (da_cons (dv_call c_opposite (hr.mono (by decide)) (da_cons (dv_call c_row_outside (hr.mono (by decide)) (da_cons (dv_var 0 rfl rfl) (da_cons (dv_var 1 rfl rfl) da_nil)) ⟨p, s2, r, n, m, hn, hf, rfl, rfl⟩) da_nil) ⟨_, rfl, rfl⟩) da_nil)))
theorem okk_ring_tree (M : Md C K mg) (T : TopKw K mg "ring_tree" s_ring_tree "pole" "ring") (c_check_ratio : CalD C P w K mg base 5 "check_ratio" ["value"] R_check_ratio) (c_is_ring : CalD C P w K mg base 4 "is_ring" ["value"] R_is_ring) (c_ring_sides : CalD C P w K mg base 4 "ring_sides" ["pole", "ring"] R_ring_sides) : CalKw C P w K mg base 6 "ring_tree" "pole" "ring" R_ring_tree := by
  refine T.ok sc_ring_tree (fun ds d h => ?_) fun f cdv A outer s H E hr ds d h => ?_
  · obtain ⟨p, s2, r, n, m, n2, m2, hn, hf, hf2, hlt, rfl, rfl⟩ := h
    rfl
  · obtain ⟨p, s2, r, n, m, n2, m2, hn, hf, hf2, hlt, rfl, rfl⟩ := h
    refine ds_expr (dv_call c_check_ratio (hr.mono (by decide)) (da_cons (dv_var 0 rfl rfl) da_nil) ⟨p, s2, r, hn, rfl, rfl⟩) ?_
    refine ds_ifF (dp_is (dp_not (dp_val (dv_call c_is_ring (hr.mono (by decide)) (da_cons (dv_var 1 rfl rfl) da_nil) ⟨n, m, n2, m2, hf, hf2, hlt, rfl, rfl⟩))) rfl) ?_
    refine ds_ret (dv_is (dv_tup (da_cons dv_str (da_cons (dv_callTy cb_tupL M.tuple bt_tuple (da_cons (dv_lc1 2 (fun d => .tup [.str "side", d]) (ds := [rD (outR p s2 r n m), rD (negR (outR p s2 r n2 m2))]) (wk_list (dv_call c_ring_sides (hr.mono (by decide)) (da_cons (dv_var 0 rfl rfl) (da_cons (dv_var 1 rfl rfl) da_nil)) ⟨p, s2, r, n, m, n2, m2, hn, hf, hf2, rfl, rfl⟩)) rfl sc_ring_tree.nd rfl (blkOk_by (N := N_ring_tree) (sc := defScope s_ring_tree) (by decide +kernel)) rfl (by simp) (fun d hd s H c cl fp => ?_) (fun d hd => ?_)) da_nil)) da_nil))) rfl)
    · exact dv_tup (da_cons dv_str (da_cons (dv_var 2 rfl rfl) da_nil))
    · simp only [List.mem_cons, List.not_mem_nil, or_false] at hd
      rcases hd with rfl | rfl <;> rfl
end
theorem chain {K : PySem.W.Frag} {h : Heap} {mg : Str → Option Value} (X : K.In h) (G : h.Ns mainGlobals mg) (c : SaysK fa fn K) : ∃ fd : FuncData, (∀ (s : Shared) (u : Value), BindsTo s fd ⟨[u], []⟩ [("_law_script", u)]) ∧ ∀ (P : Program) (w : World) (base : Heap), FnG P w K mg base 17 (He.ga K "law") fd ["_law_script"] (spL K) := by
  have M := md_of X G c
  have ML := lm_of X G c
  have T_is_whole : Top K mg "is_whole" s_is_whole ["value"] := top_of X G c 0 rfl rfl fun _ _ _ _ _ _ us hl => match us, hl with | [_], _ => rfl
  have T_are_wholes : Top K mg "are_wholes" s_are_wholes ["value", "many"] := top_of X G c 1 rfl rfl fun _ _ _ _ _ _ us hl => match us, hl with | [_, _], _ => rfl
  have T_divisor_of : Top K mg "divisor_of" s_divisor_of ["numbers"] := top_of X G c 2 rfl rfl fun _ _ _ _ _ _ us hl => match us, hl with | [_], _ => rfl
  have T_lowest : Top K mg "lowest" s_lowest ["numbers"] := top_of X G c 3 rfl rfl fun _ _ _ _ _ _ us hl => match us, hl with | [_], _ => rfl
  have T_is_lowest : Top K mg "is_lowest" s_is_lowest ["numbers"] := top_of X G c 4 rfl rfl fun _ _ _ _ _ _ us hl => match us, hl with | [_], _ => rfl
  have T_is_led_up : Top K mg "is_led_up" s_is_led_up ["numbers"] := top_of X G c 5 rfl rfl fun _ _ _ _ _ _ us hl => match us, hl with | [_], _ => rfl
  have T_first_above : Top K mg "first_above" s_first_above ["numbers"] := top_of X G c 6 rfl rfl fun _ _ _ _ _ _ us hl => match us, hl with | [_], _ => rfl
  have T_sign_of : Top K mg "sign_of" s_sign_of ["number"] := top_of X G c 7 rfl rfl fun _ _ _ _ _ _ us hl => match us, hl with | [_], _ => rfl
  have T_is_place : Top K mg "is_place" s_is_place ["value"] := top_of X G c 8 rfl rfl fun _ _ _ _ _ _ us hl => match us, hl with | [_], _ => rfl
  have T_check_place : Top K mg "check_place" s_check_place ["value"] := top_of X G c 9 rfl rfl fun _ _ _ _ _ _ us hl => match us, hl with | [_], _ => rfl
  have T_is_ratio : Top K mg "is_ratio" s_is_ratio ["value"] := top_of X G c 10 rfl rfl fun _ _ _ _ _ _ us hl => match us, hl with | [_], _ => rfl
  have T_check_ratio : Top K mg "check_ratio" s_check_ratio ["value"] := top_of X G c 11 rfl rfl fun _ _ _ _ _ _ us hl => match us, hl with | [_], _ => rfl
  have T_bend : Top K mg "bend" s_bend ["row"] := top_of X G c 12 rfl rfl fun _ _ _ _ _ _ us hl => match us, hl with | [_], _ => rfl
  have T_is_row : Top K mg "is_row" s_is_row ["value"] := top_of X G c 13 rfl rfl fun _ _ _ _ _ _ us hl => match us, hl with | [_], _ => rfl
  have T_value_of : Top K mg "value_of" s_value_of ["row", "place"] := top_of X G c 14 rfl rfl fun _ _ _ _ _ _ us hl => match us, hl with | [_, _], _ => rfl
  have T_joint : Top K mg "joint" s_joint ["row", "other"] := top_of X G c 15 rfl rfl fun _ _ _ _ _ _ us hl => match us, hl with | [_, _], _ => rfl
  have T_is_fraction : Top K mg "is_fraction" s_is_fraction ["value"] := top_of X G c 16 rfl rfl fun _ _ _ _ _ _ us hl => match us, hl with | [_], _ => rfl
  have T_is_ring : Top K mg "is_ring" s_is_ring ["value"] := top_of X G c 17 rfl rfl fun _ _ _ _ _ _ us hl => match us, hl with | [_], _ => rfl
  have T_dot : Top K mg "dot" s_dot ["row", "other"] := top_of X G c 18 rfl rfl fun _ _ _ _ _ _ us hl => match us, hl with | [_, _], _ => rfl
  have T_plane_of : Top K mg "plane_of" s_plane_of ["row"] := top_of X G c 19 rfl rfl fun _ _ _ _ _ _ us hl => match us, hl with | [_], _ => rfl
  have T_spots_of : Top K mg "spots_of" s_spots_of ["row", "other"] := top_of X G c 20 rfl rfl fun _ _ _ _ _ _ us hl => match us, hl with | [_, _], _ => rfl
  have T_mean_side : Top K mg "mean_side" s_mean_side ["plane", "other"] := top_of X G c 21 rfl rfl fun _ _ _ _ _ _ us hl => match us, hl with | [_, _], _ => rfl
  have T_signs_along : Top K mg "signs_along" s_signs_along ["planes", "index"] := top_of X G c 22 rfl rfl fun _ _ _ _ _ _ us hl => match us, hl with | [_, _], _ => rfl
  have T_with_side : Top K mg "with_side" s_with_side ["signs", "index", "side"] := top_of X G c 23 rfl rfl fun _ _ _ _ _ _ us hl => match us, hl with | [_, _, _], _ => rfl
  have T_around : Top K mg "around" s_around ["signs", "index"] := top_of X G c 24 rfl rfl fun _ _ _ _ _ _ us hl => match us, hl with | [_, _], _ => rfl
  have T_merged : Top K mg "merged" s_merged ["rounds", "others"] := top_of X G c 25 rfl rfl fun _ _ _ _ _ _ us hl => match us, hl with | [_, _], _ => rfl
  have T_spots_on : Top K mg "spots_on" s_spots_on ["rounds", "index"] := top_of X G c 26 rfl rfl fun _ _ _ _ _ _ us hl => match us, hl with | [_, _], _ => rfl
  have T_all_fields : Top K mg "all_fields" s_all_fields ["rounds"] := top_of X G c 27 rfl rfl fun _ _ _ _ _ _ us hl => match us, hl with | [_], _ => rfl
  have T_signs_at : Top K mg "signs_at" s_signs_at ["rounds", "place"] := top_of X G c 28 rfl rfl fun _ _ _ _ _ _ us hl => match us, hl with | [_, _], _ => rfl
  have T_signs_near_far : Top K mg "signs_near_far" s_signs_near_far ["rounds"] := top_of X G c 29 rfl rfl fun _ _ _ _ _ _ us hl => match us, hl with | [_], _ => rfl
  have T_is_tree : Top K mg "is_tree" s_is_tree ["value", "deep"] := top_of X G c 30 rfl rfl fun _ _ _ _ _ _ us hl => match us, hl with | [_, _], _ => rfl
  have T_trees_in : Top K mg "trees_in" s_trees_in ["tree"] := top_of X G c 31 rfl rfl fun _ _ _ _ _ _ us hl => match us, hl with | [_], _ => rfl
  have T_leaf_rows : Top K mg "leaf_rows" s_leaf_rows ["tree"] := top_of X G c 32 rfl rfl fun _ _ _ _ _ _ us hl => match us, hl with | [_], _ => rfl
  have T_leaf_holds : Top K mg "leaf_holds" s_leaf_holds ["leaf", "rounds", "signs"] := top_of X G c 33 rfl rfl fun _ _ _ _ _ _ us hl => match us, hl with | [_, _, _], _ => rfl
  have T_tree_holds : Top K mg "tree_holds" s_tree_holds ["tree", "rounds", "signs"] := top_of X G c 34 rfl rfl fun _ _ _ _ _ _ us hl => match us, hl with | [_, _, _], _ => rfl
  have T_check_many : Top K mg "check_many" s_check_many ["rounds"] := top_of X G c 35 rfl rfl fun _ _ _ _ _ _ us hl => match us, hl with | [_], _ => rfl
  have T_check_lot : Top K mg "check_lot" s_check_lot ["value"] := top_of X G c 36 rfl rfl fun _ _ _ _ _ _ us hl => match us, hl with | [_], _ => rfl
  have T_rounds_of_two : Top K mg "rounds_of_two" s_rounds_of_two ["lot", "other"] := top_of X G c 37 rfl rfl fun _ _ _ _ _ _ us hl => match us, hl with | [_, _], _ => rfl
  have T_lot_with : Top K mg "lot_with" s_lot_with ["tree"] := top_of X G c 38 rfl rfl fun _ _ _ _ _ _ us hl => match us, hl with | [_], _ => rfl
  have T_has_signs : Top K mg "has_signs" s_has_signs ["lot", "rounds", "signs"] := top_of X G c 39 rfl rfl fun _ _ _ _ _ _ us hl => match us, hl with | [_, _, _], _ => rfl
  have T_holds : Top K mg "holds" s_holds ["lot", "place"] := top_of X G c 40 rfl rfl fun _ _ _ _ _ _ us hl => match us, hl with | [_, _], _ => rfl
  have T_check_two_lots : Top K mg "check_two_lots" s_check_two_lots ["lot", "other"] := top_of X G c 41 rfl rfl fun _ _ _ _ _ _ us hl => match us, hl with | [_, _], _ => rfl
  have T_both : Top K mg "both" s_both ["lot", "other"] := top_of X G c 42 rfl rfl fun _ _ _ _ _ _ us hl => match us, hl with | [_, _], _ => rfl
  have T_either : Top K mg "either" s_either ["lot", "other"] := top_of X G c 43 rfl rfl fun _ _ _ _ _ _ us hl => match us, hl with | [_, _], _ => rfl
  have T_rest : Top K mg "rest" s_rest ["lot"] := top_of X G c 44 rfl rfl fun _ _ _ _ _ _ us hl => match us, hl with | [_], _ => rfl
  have T_row_outside : Top K mg "row_outside" s_row_outside ["pole", "square"] := top_of X G c 45 rfl rfl fun _ _ _ _ _ _ us hl => match us, hl with | [_, _], _ => rfl
  have T_opposite : Top K mg "opposite" s_opposite ["row"] := top_of X G c 46 rfl rfl fun _ _ _ _ _ _ us hl => match us, hl with | [_], _ => rfl
  have T_ring_sides : Top K mg "ring_sides" s_ring_sides ["pole", "ring"] := top_of X G c 47 rfl rfl fun _ _ _ _ _ _ us hl => match us, hl with | [_, _], _ => rfl
  have T_disc_tree : Top K mg "disc_tree" s_disc_tree ["pole", "square"] := top_of X G c 48 rfl rfl fun _ _ _ _ _ _ us hl => match us, hl with | [_, _], _ => rfl
  have T_ring_tree : Top K mg "ring_tree" s_ring_tree ["pole", "ring"] := top_of X G c 49 rfl rfl fun _ _ _ _ _ _ us hl => match us, hl with | [_, _], _ => rfl
  have T_fields_in : Top K mg "fields_in" s_fields_in ["lot", "rounds"] := top_of X G c 50 rfl rfl fun _ _ _ _ _ _ us hl => match us, hl with | [_, _], _ => rfl
  have T_near_fields_in : Top K mg "near_fields_in" s_near_fields_in ["lot", "rounds"] := top_of X G c 51 rfl rfl fun _ _ _ _ _ _ us hl => match us, hl with | [_, _], _ => rfl
  have T_is_open : Top K mg "is_open" s_is_open ["signs"] := top_of X G c 52 rfl rfl fun _ _ _ _ _ _ us hl => match us, hl with | [_], _ => rfl
  have T_open_in : Top K mg "open_in" s_open_in ["signs_of_lot"] := top_of X G c 53 rfl rfl fun _ _ _ _ _ _ us hl => match us, hl with | [_], _ => rfl
  have T_is_empty : Top K mg "is_empty" s_is_empty ["lot"] := top_of X G c 54 rfl rfl fun _ _ _ _ _ _ us hl => match us, hl with | [_], _ => rfl
  have T_has_near_place : Top K mg "has_near_place" s_has_near_place ["lot"] := top_of X G c 55 rfl rfl fun _ _ _ _ _ _ us hl => match us, hl with | [_], _ => rfl
  have T_rounds_asked : Top K mg "rounds_asked" s_rounds_asked ["lot", "other"] := top_of X G c 56 rfl rfl fun _ _ _ _ _ _ us hl => match us, hl with | [_, _], _ => rfl
  have T_lies_inside : Top K mg "lies_inside" s_lies_inside ["lot", "other"] := top_of X G c 57 rfl rfl fun _ _ _ _ _ _ us hl => match us, hl with | [_, _], _ => rfl
  have T_is_same : Top K mg "is_same" s_is_same ["lot", "other"] := top_of X G c 58 rfl rfl fun _ _ _ _ _ _ us hl => match us, hl with | [_, _], _ => rfl
  have T_is_open_somewhere : Top K mg "is_open_somewhere" s_is_open_somewhere ["lot"] := top_of X G c 59 rfl rfl fun _ _ _ _ _ _ us hl => match us, hl with | [_], _ => rfl
  have T_is_bounded : Top K mg "is_bounded" s_is_bounded ["lot"] := top_of X G c 60 rfl rfl fun _ _ _ _ _ _ us hl => match us, hl with | [_], _ => rfl
  have T__law_sack : Top K mg "_law_sack" s__law_sack ["_law_script", "_law_lap"] := top_of X G c 61 rfl rfl fun _ _ _ _ _ _ us hl => match us, hl with | [_, _], _ => rfl
  have T__law_grab : Top K mg "_law_grab" s__law_grab ["_law_sack_here", "_law_many"] := top_of X G c 62 rfl rfl fun _ _ _ _ _ _ us hl => match us, hl with | [_, _], _ => rfl
  have T__law_one : Top K mg "_law_one" s__law_one ["_law_sack_here", "_law_some"] := top_of X G c 63 rfl rfl fun _ _ _ _ _ _ us hl => match us, hl with | [_, _], _ => rfl
  have T__law_wide : Top K mg "_law_wide" s__law_wide ["_law_sack_here"] := top_of X G c 64 rfl rfl fun _ _ _ _ _ _ us hl => match us, hl with | [_], _ => rfl
  have T__law_whole : Top K mg "_law_whole" s__law_whole ["_law_sack_here", "_law_wide_here"] := top_of X G c 65 rfl rfl fun _ _ _ _ _ _ us hl => match us, hl with | [_, _], _ => rfl
  have T__law_gcd : Top K mg "_law_gcd" s__law_gcd ["_law_one_here", "_law_two"] := top_of X G c 66 rfl rfl fun _ _ _ _ _ _ us hl => match us, hl with | [_, _], _ => rfl
  have T__law_low : Top K mg "_law_low" s__law_low ["_law_numbers"] := top_of X G c 67 rfl rfl fun _ _ _ _ _ _ us hl => match us, hl with | [_], _ => rfl
  have T__law_minus : Top K mg "_law_minus" s__law_minus ["_law_numbers"] := top_of X G c 68 rfl rfl fun _ _ _ _ _ _ us hl => match us, hl with | [_], _ => rfl
  have T__law_spot : Top K mg "_law_spot" s__law_spot ["_law_sack_here"] := top_of X G c 69 rfl rfl fun _ _ _ _ _ _ us hl => match us, hl with | [_], _ => rfl
  have T__law_near_spot : Top K mg "_law_near_spot" s__law_near_spot ["_law_sack_here"] := top_of X G c 70 rfl rfl fun _ _ _ _ _ _ us hl => match us, hl with | [_], _ => rfl
  have T__law_apart : Top K mg "_law_apart" s__law_apart ["_law_one_here", "_law_two"] := top_of X G c 71 rfl rfl fun _ _ _ _ _ _ us hl => match us, hl with | [_, _], _ => rfl
  have T__law_part : Top K mg "_law_part" s__law_part ["_law_sack_here"] := top_of X G c 72 rfl rfl fun _ _ _ _ _ _ us hl => match us, hl with | [_], _ => rfl
  have T__law_under : Top K mg "_law_under" s__law_under ["_law_one_here", "_law_two"] := top_of X G c 73 rfl rfl fun _ _ _ _ _ _ us hl => match us, hl with | [_, _], _ => rfl
  have T__law_ring : Top K mg "_law_ring" s__law_ring ["_law_sack_here"] := top_of X G c 74 rfl rfl fun _ _ _ _ _ _ us hl => match us, hl with | [_], _ => rfl
  have T__law_ring_row : Top K mg "_law_ring_row" s__law_ring_row ["_law_pole", "_law_part_here"] := top_of X G c 75 rfl rfl fun _ _ _ _ _ _ us hl => match us, hl with | [_, _], _ => rfl
  have W_disc_tree : TopKw K mg "disc_tree" s_disc_tree "pole" "square" := kw_of X G c 48 rfl rfl fun _ _ _ _ _ _ _ _ => rfl
  have W_ring_tree : TopKw K mg "ring_tree" s_ring_tree "pole" "ring" := kw_of X G c 49 rfl rfl fun _ _ _ _ _ _ _ _ => rfl
  obtain ⟨fdr, Fr⟩ := c.def_ 76 (d := ⟨fun K => He.ga K "_law_right", "_law_right", "_law_right", s__law_right⟩) rfl
  obtain ⟨fdl, Fl⟩ := c.def_ 77 (d := ⟨fun K => He.ga K "law", "law", "law", s_law⟩) rfl
  have gr := He.glo_ok X G (c.fact 76 (f := .glo "_law_right") rfl)
  have br : Binds K fdr ["_law_sack_here"] [] := Fr.binds fun _ _ _ _ _ _ us hl => match us, hl with | [_], _ => rfl
  have bl : Binds K fdl ["_law_script"] [] := Fl.binds fun _ _ _ _ _ _ us hl => match us, hl with | [_], _ => rfl
  obtain ⟨oc, od, kV, doc, pm, an, cdv, ct, osl, el, _⟩ := Fl.ex
  refine ⟨fdl, fun s u => ?_, fun P w base => ?_⟩
  · rw [el]
    exact .of_eq rfl
  · have c_is_whole := ok_is_whole (C := LC K) (P := P) (w := w) (K := K) (mg := mg) (base := base) M T_is_whole
    have c_are_wholes := ok_are_wholes (C := LC K) (P := P) (w := w) (K := K) (mg := mg) (base := base) M T_are_wholes c_is_whole
    have c_divisor_of := ok_divisor_of (C := LC K) (P := P) (w := w) (K := K) (mg := mg) (base := base) M T_divisor_of
    have c_lowest := ok_lowest (C := LC K) (P := P) (w := w) (K := K) (mg := mg) (base := base) M T_lowest c_divisor_of
    have c_is_lowest := ok_is_lowest (C := LC K) (P := P) (w := w) (K := K) (mg := mg) (base := base) M T_is_lowest c_divisor_of
    have c_is_led_up := ok_is_led_up (C := LC K) (P := P) (w := w) (K := K) (mg := mg) (base := base) M T_is_led_up
    have c_first_above := ok_first_above (C := LC K) (P := P) (w := w) (K := K) (mg := mg) (base := base) M T_first_above c_lowest c_is_led_up
    have c_sign_of := ok_sign_of (C := LC K) (P := P) (w := w) (K := K) (mg := mg) (base := base) M T_sign_of
    have c_is_place := ok_is_place (C := LC K) (P := P) (w := w) (K := K) (mg := mg) (base := base) M T_is_place c_are_wholes c_is_lowest
    have c_check_place := ok_check_place (C := LC K) (P := P) (w := w) (K := K) (mg := mg) (base := base) M T_check_place c_is_place
    have c_is_ratio := ok_is_ratio (C := LC K) (P := P) (w := w) (K := K) (mg := mg) (base := base) M T_is_ratio c_is_place
    have c_check_ratio := ok_check_ratio (C := LC K) (P := P) (w := w) (K := K) (mg := mg) (base := base) M T_check_ratio c_is_ratio
    have c_bend := ok_bend (C := LC K) (P := P) (w := w) (K := K) (mg := mg) (base := base) M T_bend
    have c_is_row := ok_is_row (C := LC K) (P := P) (w := w) (K := K) (mg := mg) (base := base) M T_is_row c_are_wholes c_is_lowest c_bend
    have c_value_of := ok_value_of (C := LC K) (P := P) (w := w) (K := K) (mg := mg) (base := base) M T_value_of
    have c_joint := ok_joint (C := LC K) (P := P) (w := w) (K := K) (mg := mg) (base := base) M T_joint
    have c_is_fraction := ok_is_fraction (C := LC K) (P := P) (w := w) (K := K) (mg := mg) (base := base) M T_is_fraction c_are_wholes c_is_lowest
    have c_is_ring := ok_is_ring (C := LC K) (P := P) (w := w) (K := K) (mg := mg) (base := base) M T_is_ring c_is_fraction
    have c_dot := ok_dot (C := LC K) (P := P) (w := w) (K := K) (mg := mg) (base := base) M T_dot
    have c_plane_of := ok_plane_of (C := LC K) (P := P) (w := w) (K := K) (mg := mg) (base := base) M T_plane_of
    have c_mean_side := ok_mean_side (C := LC K) (P := P) (w := w) (K := K) (mg := mg) (base := base) M T_mean_side c_sign_of c_dot
    have c_spots_of := ok_spots_of (C := LC K) (P := P) (w := w) (K := K) (mg := mg) (base := base) M T_spots_of c_plane_of c_dot c_bend c_joint
    have c_signs_along := ok_signs_along (C := LC K) (P := P) (w := w) (K := K) (mg := mg) (base := base) M T_signs_along c_mean_side
    have c_with_side := ok_with_side (C := LC K) (P := P) (w := w) (K := K) (mg := mg) (base := base) M T_with_side
    have c_around := ok_around (C := LC K) (P := P) (w := w) (K := K) (mg := mg) (base := base) M T_around c_with_side
    have c_merged := ok_merged (C := LC K) (P := P) (w := w) (K := K) (mg := mg) (base := base) M T_merged c_first_above
    have c_signs_at := ok_signs_at (C := LC K) (P := P) (w := w) (K := K) (mg := mg) (base := base) M T_signs_at c_sign_of c_value_of
    have c_spots_on := ok_spots_on (C := LC K) (P := P) (w := w) (K := K) (mg := mg) (base := base) M T_spots_on c_spots_of
    have c_all_fields := ok_all_fields (C := LC K) (P := P) (w := w) (K := K) (mg := mg) (base := base) M T_all_fields c_plane_of c_spots_on c_signs_along c_around
    have c_signs_near_far := ok_signs_near_far (C := LC K) (P := P) (w := w) (K := K) (mg := mg) (base := base) M T_signs_near_far c_plane_of c_signs_at
    have c_is_tree := (ok_is_tree (C := LC K) (P := P) (w := w) (K := K) (mg := mg) (base := base) M T_is_tree c_is_row) 6
    have c_trees_in := ok_trees_in (C := LC K) (P := P) (w := w) (K := K) (mg := mg) (base := base) M T_trees_in
    have c_leaf_rows := (ok_leaf_rows (C := LC K) (P := P) (w := w) (K := K) (mg := mg) (base := base) M T_leaf_rows c_trees_in) 6
    have c_leaf_holds := ok_leaf_holds (C := LC K) (P := P) (w := w) (K := K) (mg := mg) (base := base) M T_leaf_holds c_first_above
    have c_tree_holds := (ok_tree_holds (C := LC K) (P := P) (w := w) (K := K) (mg := mg) (base := base) M T_tree_holds c_leaf_holds) 6
    have c_P := ok_props (C := LC K) (P := P) (w := w) (K := K) (mg := mg) (base := base) M ML
    have c_check_many := ok_check_many (C := LC K) (P := P) (w := w) (K := K) (mg := mg) (base := base) M T_check_many
    have c_check_lot := ok_check_lot (C := LC K) (P := P) (w := w) (K := K) (mg := mg) (base := base) M T_check_lot
    have c_L := ok_init (C := LC K) (P := P) (w := w) (K := K) (mg := mg) (base := base) M ML c_is_tree c_leaf_rows c_merged c_check_many
    have c_rounds_of_two := ok_rounds_of_two (C := LC K) (P := P) (w := w) (K := K) (mg := mg) (base := base) M ML T_rounds_of_two c_merged c_check_many c_P
    have c_check_two_lots := ok_check_two_lots (C := LC K) (P := P) (w := w) (K := K) (mg := mg) (base := base) M ML T_check_two_lots c_check_lot c_rounds_of_two
    have c_lot_with := ok_lot_with (C := LC K) (P := P) (w := w) (K := K) (mg := mg) (base := base) M ML T_lot_with c_L c_leaf_rows c_merged
    have c_has_signs := ok_has_signs (C := LC K) (P := P) (w := w) (K := K) (mg := mg) (base := base) M ML T_has_signs c_tree_holds c_P
    have c_holds := ok_holds (C := LC K) (P := P) (w := w) (K := K) (mg := mg) (base := base) M ML T_holds c_check_lot c_check_place c_has_signs c_signs_at c_P
    have c_both := ok_both (C := LC K) (P := P) (w := w) (K := K) (mg := mg) (base := base) M ML T_both c_check_two_lots c_lot_with c_P
    have c_either := ok_either (C := LC K) (P := P) (w := w) (K := K) (mg := mg) (base := base) M ML T_either c_check_two_lots c_lot_with c_P
    have c_rest := ok_rest (C := LC K) (P := P) (w := w) (K := K) (mg := mg) (base := base) M ML T_rest c_check_lot c_lot_with c_P
    have c_row_outside := ok_row_outside (C := LC K) (P := P) (w := w) (K := K) (mg := mg) (base := base) M T_row_outside c_lowest
    have c_opposite := ok_opposite (C := LC K) (P := P) (w := w) (K := K) (mg := mg) (base := base) M T_opposite
    have c_ring_sides := ok_ring_sides (C := LC K) (P := P) (w := w) (K := K) (mg := mg) (base := base) M T_ring_sides c_row_outside c_opposite
    have c_disc_tree := ok_disc_tree (C := LC K) (P := P) (w := w) (K := K) (mg := mg) (base := base) M T_disc_tree c_check_ratio c_is_fraction c_row_outside c_opposite
    have c_ring_tree := ok_ring_tree (C := LC K) (P := P) (w := w) (K := K) (mg := mg) (base := base) M T_ring_tree c_check_ratio c_is_ring c_ring_sides
    have c_fields_in := ok_fields_in (C := LC K) (P := P) (w := w) (K := K) (mg := mg) (base := base) M ML T_fields_in c_all_fields c_has_signs
    have c_near_fields_in := ok_near_fields_in (C := LC K) (P := P) (w := w) (K := K) (mg := mg) (base := base) M ML T_near_fields_in c_all_fields c_has_signs
    have c_is_open := ok_is_open (C := LC K) (P := P) (w := w) (K := K) (mg := mg) (base := base) M ML T_is_open
    have c_open_in := ok_open_in (C := LC K) (P := P) (w := w) (K := K) (mg := mg) (base := base) M ML T_open_in c_is_open
    have c_is_empty := ok_is_empty (C := LC K) (P := P) (w := w) (K := K) (mg := mg) (base := base) M ML T_is_empty c_check_lot c_fields_in c_P
    have c_has_near_place := ok_has_near_place (C := LC K) (P := P) (w := w) (K := K) (mg := mg) (base := base) M ML T_has_near_place c_check_lot c_near_fields_in c_P
    have c_rounds_asked := ok_rounds_asked (C := LC K) (P := P) (w := w) (K := K) (mg := mg) (base := base) M ML T_rounds_asked c_check_lot c_rounds_of_two
    have c_lies_inside := ok_lies_inside (C := LC K) (P := P) (w := w) (K := K) (mg := mg) (base := base) M ML T_lies_inside c_rounds_asked c_has_signs c_fields_in
    have c_is_same := ok_is_same (C := LC K) (P := P) (w := w) (K := K) (mg := mg) (base := base) M ML T_is_same c_rounds_asked c_fields_in
    have c_is_open_somewhere := ok_is_open_somewhere (C := LC K) (P := P) (w := w) (K := K) (mg := mg) (base := base) M ML T_is_open_somewhere c_check_lot c_fields_in c_open_in c_P
    have c_is_bounded := ok_is_bounded (C := LC K) (P := P) (w := w) (K := K) (mg := mg) (base := base) M ML T_is_bounded c_check_lot c_has_signs c_signs_near_far c_P
    have c__law_gcd := ok__law_gcd (C := LC K) (P := P) (w := w) (K := K) (mg := mg) (base := base) M T__law_gcd
    have c__law_low := ok__law_low (C := LC K) (P := P) (w := w) (K := K) (mg := mg) (base := base) M T__law_low c__law_gcd
    have c__law_minus := ok__law_minus (C := LC K) (P := P) (w := w) (K := K) (mg := mg) (base := base) M T__law_minus
    have c__law_apart := ok__law_apart (C := LC K) (P := P) (w := w) (K := K) (mg := mg) (base := base) M T__law_apart c__law_low
    have c__law_under := ok__law_under (C := LC K) (P := P) (w := w) (K := K) (mg := mg) (base := base) M T__law_under
    have c__law_ring_row := ok__law_ring_row (C := LC K) (P := P) (w := w) (K := K) (mg := mg) (base := base) M T__law_ring_row c__law_low
    have c__law_sack := ok__law_sack (C := LC K) (P := P) (w := w) (K := K) (mg := mg) (base := base) M T__law_sack
    have c__law_grab := ok__law_grab (C := LC K) (P := P) (w := w) (K := K) (mg := mg) (base := base) M T__law_grab
    have c__law_one := ok__law_one (C := LC K) (P := P) (w := w) (K := K) (mg := mg) (base := base) M T__law_one c__law_grab
    have c__law_wide := ok__law_wide (C := LC K) (P := P) (w := w) (K := K) (mg := mg) (base := base) M T__law_wide c__law_one
    have c__law_whole := ok__law_whole (C := LC K) (P := P) (w := w) (K := K) (mg := mg) (base := base) M T__law_whole c__law_grab
    have c__law_near_spot := ok__law_near_spot (C := LC K) (P := P) (w := w) (K := K) (mg := mg) (base := base) M T__law_near_spot c__law_grab c__law_one c__law_wide c__law_whole c__law_low
    have c__law_spot := ok__law_spot (C := LC K) (P := P) (w := w) (K := K) (mg := mg) (base := base) M T__law_spot c__law_grab c__law_one c__law_wide c__law_whole c__law_low
    have c__law_part := ok__law_part (C := LC K) (P := P) (w := w) (K := K) (mg := mg) (base := base) M T__law_part c__law_grab c__law_one c__law_low
    have c__law_ring := ok__law_ring (C := LC K) (P := P) (w := w) (K := K) (mg := mg) (base := base) M T__law_ring c__law_part c__law_under
    have k_disc_tree := okk_disc_tree (C := LC K) (P := P) (w := w) (K := K) (mg := mg) (base := base) M W_disc_tree c_check_ratio c_is_fraction c_row_outside c_opposite
    have k_ring_tree := okk_ring_tree (C := LC K) (P := P) (w := w) (K := K) (mg := mg) (base := base) M W_ring_tree c_check_ratio c_is_ring c_ring_sides
    have c__law_right := ok__law_right (C := LC K) (P := P) (w := w) (K := K) (mg := mg) (base := base) M Fr c__law_low c__law_minus c__law_apart c__law_under c__law_ring_row c_disc_tree c_ring_tree c_holds c_is_same c_either c_both c_lies_inside c_is_bounded c_rest c_is_open_somewhere c_is_empty c_has_near_place c__law_grab c__law_near_spot c__law_spot c__law_ring k_disc_tree k_ring_tree c_L
    exact ok_law (C := LC K) (P := P) (w := w) (K := K) (mg := mg) (base := base) M Fl c__law_sack c__law_right gr Fr.kp br
end K28
set_option Elab.async false
set_option linter.all false
set_option maxRecDepth 100000
set_option maxHeartbeats 0
open PySem PySem.W PySem.Calls PyProof.Rows
theorem PySem.Challenge.cw_drawarms_k28_whole_discs_and_rings_holds : PySem.Challenge.rw_drawarms_k28_whole_discs_and_rings.Holds := by
  w_on; o_law
  refine HandSHeadRun.head_imp (r := OpenLaw.row PySem.Challenge.rw_drawarms_k28_whole_discs_and_rings) (q := K28.qv) (H := K28.hk) (ob := K28.ob) (M := 8000) (loose := K28.loose) (d := HandSHeadRun.topDef (OpenLaw.row PySem.Challenge.rw_drawarms_k28_whole_discs_and_rings).prog 112) (kwd := []) K28.ob_eq K28.run
    (by kernel_rfl) (by kernel_rfl) (by kernel_rfl) (by rfl) (by first | assumption | decide +kernel) (by decide +kernel) ⟨rfl, rfl, rfl, rfl, rfl, by decide +kernel⟩ ?hw ?hc
  case hw => w_witness2
  case hc =>
    refine K28.walkG (l := PySem.Challenge.rw_drawarms_k28_whole_discs_and_rings) (n := 63) (k := 17) (x := "_law_script") rfl (by decide) (by kernel_rfl) ⟨rfl, by decide, by decide⟩ ?F
    intro w mg fa h Y G hmg0
    obtain ⟨K, KX, c⟩ := Y
    have hmg : mg ("law" : PySem.Str) = some (.ref fa) := by
      have e : (HandSHeadRun.topDef (OpenLaw.row PySem.Challenge.rw_drawarms_k28_whole_discs_and_rings).prog 112).name = ("law" : PySem.Str) := by kernel_rfl
      rw [← e]
      exact hmg0
    have hfa := hmg.symm.trans (He.glo_ok KX G (c.fact 77 (f := .glo "law") rfl))
    cases hfa
    obtain ⟨fd, hb, hF⟩ := K28.chain KX G c
    exact ⟨K, fd, K28.spL K, KX, hb, fun H a ns hl _ hS => ⟨a, ns, rfl, hl, hS, fun _ => rfl⟩, fun base _ _ => hF _ w base⟩
