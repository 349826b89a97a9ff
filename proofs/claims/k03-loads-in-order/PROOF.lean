import PyProof.Rows.All
import HandS.CallLocal
import HandS.CallSlots
import HandS.ClsMeth
import HandS.Codes
import HandS.Conv
import HandS.Deep
import HandS.DictComp
import HandS.DictEq
import HandS.EndBits
import HandS.EndTab
import HandS.Evl
import HandS.ExcField
import HandS.ExcInit
import HandS.ExcIs
import HandS.FStr
import HandS.ForExc
import HandS.ForMost
import HandS.GenYield
import HandS.IsInst
import HandS.Iter
import HandS.Lambda
import HandS.More
import HandS.OwnEq
import HandS.RaiseMore
import HandS.Replace
import HandS.Set
import HandS.SetFor
import HandS.Star
import HandS.Strs
import HandS.Style
import HandS.Text
import HandS.TryMany
import HandS.TryOnly
import HandS.TupAny
import HandS.Wide
import HandS.Zip
import KE.DataCmp
import KE.KDictPairs
import KE.KDictSum
import KE.KExcIs
import KE.KFmtOwn
import KE.KNest
import KE.KOpsOwn
import OpenK.AllK
import PyProof.Draws
import PyProof.EnumMake
import PyProof.InstEq
import PyProof.ListTruth
import PyProof.Rows.SortShellAny
import Wide.All
import Wide.FinOn
import PySem.Challenge.RW_everyload_k03_loads_in_order
section
set_option Elab.async false
set_option linter.all false
set_option maxRecDepth 100000
set_option maxHeartbeats 4000000
set_option autoImplicit false
/-! # Defs by their promises, where no repr is under way (guards): the layer's own rules, with that fact carried along. -/
namespace Fw
open PySem L2
open PyProof.Rows (envOfC)
/-- room for k calls, and no repr of a list under way -/
structure Rm (k : Nat) (A : Around) : Prop where
  r : Room k A
  g : A.guards = some []
theorem Rm.mono {j k : Nat} {A : Around} (r : Rm k A) (h : j ≤ k) : Rm j A := ⟨r.r.mono h, r.g⟩
theorem Rm.deeper {k : Nat} {A : Around} (r : Rm (k + 1) A) (env : Env) : Rm k (A.deeper env) := ⟨r.r.deeper env, r.g⟩
/-- called with values vs the def at f keeps sp -/
def FnG (P : Program) (w : World) (K : PySem.W.Frag) (mg : Str → Option Value) (base : Heap) (k : Nat) (f : Addr) (ks : List Str) (sp : Sp) : Prop :=
  ∀ (A : Around) (outer : List Env) (s : Shared) (H : Hp) (us ws : List Value) (vs zs : List V) (Q : VK) (E : XK), Rm k A → Env0 P w K mg base A outer s H → Vals vs us → Vals zs ws → zs.length = ks.length → sp (vs ++ zs) H Q E →
    codeAny (model P w) A (.call (.ref f) ⟨us, ks.zip ws⟩) (CR (L2.CX P w) outer P w H s Q E) s
theorem FnG.mono {P : Program} {w : World} {K : PySem.W.Frag} {mg : Str → Option Value} {base : Heap} {j k : Nat} {f : Addr} {ks : List Str} {sp : Sp} (F : FnG P w K mg base j f ks sp) (h : j ≤ k) : FnG P w K mg base k f ks sp :=
  fun A outer s H us ws vs zs Q E r => F A outer s H us ws vs zs Q E (r.mono h)
section
variable {P : Program} {w : World} {K : PySem.W.Frag} {mg : Str → Option Value} {base : Heap} {k : Nat} {f : Addr} {x qual : Str} {st : Stmt} {fd : FuncData} {N ps ks : List Str} {sp : Sp}
/-- a def of the text: how its arguments bind (gV: the values in the parameters' order), its body -/
theorem fn_G (F : Fun K x qual st f fd) (S : FnScope N ps (defScope st)) (ok : List V → Prop) (g : List Value → List Value → List Value) (gV : List V → List V)
    (hb : ∀ (vs zs : List V) (us ws : List Value), ok (vs ++ zs) → Vals vs us → Vals zs ws → zs.length = ks.length → bindArgs fd ⟨us, ks.zip ws⟩ = pure (ps.zip (g us ws)) ∧ Vals (gV (vs ++ zs)) (g us ws) ∧ (gV (vs ++ zs)).length = ps.length)
    (len : ∀ vs H Q E, sp vs H Q E → ok vs)
    (body : ∀ (cdv : Value) (A : Around) (outer : List Env) (s : Shared) (H : Hp) (vs : List V) (Q : VK) (E : XK), Rm k (A.deeper (envOfC qual (defScope st) s.heap.objs.size f cdv)) → sp vs H Q E →
      ∃ t, PSs (cxOf (L2.CX P w) P w K mg base N qual (defScope st) f cdv A outer s H E) (defBody st) t ∧ t { nx := fun _ H' => Q .non H', rt := Q } (L2.start N (gV vs)) H) :
    FnG P w K mg base (k + 1) f ks sp := by
  obtain ⟨oc, od, kV, doc, pm, an, cdv, ct, osl, rfl, lk, hcd⟩ := F.ex
  intro A outer s H us ws vs zs Q E hr e0 r rz hz h
  obtain ⟨b1, b2, b3⟩ := hb vs zs us ws (len _ _ _ _ h) r rz hz
  refine StX.run_bnd (G := fun xs H2 => xs = gV (vs ++ zs) ∧ H2 = H) lk hcd S hr.r e0 (fun A' Ex R hR => ?_) fun s2 H2 xs ⟨ex, eH⟩ hr' => ?_
  · rw [b1]
    exact wpAny_pure (hR s H (gV (vs ++ zs)) (g us ws) e0 Un.refl rfl (fun _ _ z => z) b2 b3 ⟨rfl, rfl⟩)
  · subst ex eH
    exact body cdv A outer s2 H2 (vs ++ zs) Q E ⟨hr', hr.g⟩ h
end
section
variable {X : Cx} {k : Nat} {f C : Addr} {sp : Sp} {W : WX} {x m : Str} {ks : List Str}
theorem run_G {pins : List (Addr × Obj)} {σ : L2.St} {H : Hp} {s : Shared} {Q : VK} {us ws : List Value} {vs zs : List V} (F : FnG X.prog X.w X.K X.mg X.base k f ks sp) (hr : Rm k X.A) (tk : Takes X W)
    (I : Inv X pins σ H s) (r : Vals vs us) (rz : Vals zs ws) (hz : zs.length = ks.length) (h : sp (vs ++ zs) H Q (WE W σ)) : codeAny (model X.prog X.w) X.A (.call (.ref f) ⟨us, ks.zip ws⟩) (fun r s' => match r with
      | .ok (.ret u) => EP X pins σ Q u s'
      | .ok _ => False
      | .error e => X.xe e s') s := by
  refine codeAny_mono (F X.A X.stack s H us ws vs zs Q (WE W σ) hr I.env0 r rz hz h) fun r s' hq => ?_
  match r, hq with
  | .error e, hq => exact passAt tk σ pins H s e s' I hq
  | .ok (.ret u), hq => exact I.after hq
  | .ok .next, hq => exact hq
  | .ok .brk, hq => exact hq
  | .ok .cont, hq => exact hq
end
section
variable {P : Program} {w : World} {K : PySem.W.Frag} {mg : Str → Option Value} {base : Heap} {k : Nat} {f : Addr} {x qual : Str} {st : Stmt} {fd : FuncData} {N ps : List Str} {sp : Sp}
theorem Fun.bind0 (F : Fun K x qual st f fd) (h : ∀ (kV doc pm : Value) (an : Option Addr) (cdv ct : Value) (us : List Value), us.length = ps.length → bindArgs (PySem.W.fnOf x qual (defArgs st) (defBody st) (defScope st) .none kV doc pm an cdv ct) ⟨us, []⟩ = pure (ps.zip us)) :
    ∀ us : List Value, us.length = ps.length → bindArgs fd ⟨us, []⟩ = pure (ps.zip us) := by
  obtain ⟨oc, od, kV, doc, pm, an, cdv, ct, osl, rfl, lk, hcd⟩ := F.ex
  exact h kV doc pm an cdv ct
/-- called by place, every parameter given -/
theorem fn_P (F : Fun K x qual st f fd) (S : FnScope N ps (defScope st)) (hb : ∀ us : List Value, us.length = ps.length → bindArgs fd ⟨us, []⟩ = pure (ps.zip us)) (len : ∀ vs H Q E, sp vs H Q E → vs.length = ps.length)
    (body : ∀ (cdv : Value) (A : Around) (outer : List Env) (s : Shared) (H : Hp) (vs : List V) (Q : VK) (E : XK), Rm k (A.deeper (envOfC qual (defScope st) s.heap.objs.size f cdv)) → sp vs H Q E →
      ∃ t, PSs (cxOf (L2.CX P w) P w K mg base N qual (defScope st) f cdv A outer s H E) (defBody st) t ∧ t { nx := fun _ H' => Q .non H', rt := Q } (L2.start N vs) H) :
    FnG P w K mg base (k + 1) f [] sp := by
  refine fn_G F S (fun vs => vs.length = ps.length) (fun us _ => us) id (fun vs zs us ws ho r rz hz => ?_) len body
  obtain rfl : zs = [] := List.eq_nil_of_length_eq_zero hz
  rw [List.append_nil] at ho ⊢
  exact ⟨hb us (by rw [← r.length]; exact ho), r, ho⟩
end
section
variable {X : Cx} {k : Nat} {f C : Addr} {sp : Sp} {W : WX} {x : Str} {p pos : Pos} {e : Expr} {es : List Expr} {t : TA}
def tCl (sp : Sp) (W : WX) (t : TA) : TE := fun σ H Q => t σ H fun vs H1 => sp vs H1 Q (WE W σ)
theorem run_G0 {pins : List (Addr × Obj)} {σ : L2.St} {H : Hp} {s : Shared} {Q : VK} {us : List Value} {vs : List V} (F : FnG X.prog X.w X.K X.mg X.base k f [] sp) (hr : Rm k X.A) (tk : Takes X W)
    (I : Inv X pins σ H s) (r : Vals vs us) (h : sp vs H Q (WE W σ)) : wpAny (model X.prog X.w) X.A (call (.ref f) us) (EP X pins σ Q) X.xe s :=
  wpAny_call (run_G (zs := []) (ws := []) F hr tk I r .nil rfl (by rw [List.append_nil]; exact h))
theorem pe_cl (F : FnG X.prog X.w X.K X.mg X.base k f [] sp) (hr : Rm k X.A) (hg : Gl X x) (hm : X.mg x = some (.ref f)) (hk : PySem.W.keepIn X.K (.ref f) = true) (tk : Takes X W) (ha : PA X (e :: es) t) (hdb : (x == ("__debug__" : Str)) = false := by decide)
    (he : starEach (e :: es) X.env = (false, eval e X.env) :: starEach es X.env := by rfl) (hpl : (backTo pos (starEach es X.env)).any (·.1) = false := by rfl) : PE X (.Call (.Name x p) (e :: es) [] pos) (tCl sp W t) :=
  ⟨fun pins s σ H Q I h => wpAny_Call_Name_kw (ld_glob I hg hm (PySem.W.callWith_K (h₀ := X.base) I.ok.mod.kin hk (thn (ha.run pos pins s σ H _ I h) fun us s1 ⟨vs, H1, I1, r, q⟩ => ⟨I1.kIn, run_G0 F hr tk I1 r q⟩) he hpl) hdb)⟩
theorem pe_cl0 (F : FnG X.prog X.w X.K X.mg X.base k f [] sp) (hr : Rm k X.A) (hg : Gl X x) (hm : X.mg x = some (.ref f)) (hk : PySem.W.keepIn X.K (.ref f) = true) (tk : Takes X W) (hdb : (x == ("__debug__" : Str)) = false := by decide) : PE X (.Call (.Name x p) [] [] pos) (tCl sp W tNil) :=
  ⟨fun pins s σ H Q I h => wpAny_Call_Name_kw (ld_glob I hg hm (PySem.W.callWith_K0 I.kIn hk (run_G0 (us := []) F hr tk I .nil h)) hdb)⟩
/-- with keywords -/
def tClK (sp : Sp) (W : WX) (t tk : TA) : TE := fun σ H Q => t σ H fun vs H1 => tk σ H1 fun zs H2 => sp (vs ++ zs) H2 Q (WE W σ)
end
end Fw
end

section
set_option Elab.async false
set_option linter.all false
set_option maxRecDepth 100000
set_option maxHeartbeats 4000000
set_option autoImplicit false
namespace Fw
open PySem L2 Evl
/-! ### what stays: all but the tables of code objects, which stay tables -/
def NT (o : HO) : Prop := ∀ ps, o ≠ .tbl ps
structure Ex (H H' : Hp) : Prop where
  at' : ∀ a o, H a = some o → NT o → H' a = some o
  tt : ∀ a ps, H a = some (.tbl ps) → ∃ ps', H' a = some (.tbl ps')
theorem Ex.go {H H' : Hp} (e : Ex H H') (a : Addr) (o : HO) (h : H a = some o) (nt : NT o := by (first | assumption | (intro _ z; cases z) | (intro _ z; exact nomatch z))) : H' a = some o := e.at' a o h nt
instance {H H' : Hp} : CoeFun (Ex H H') (fun _ => ∀ a o, H a = some o → (nt : NT o := by (first | assumption | (intro _ z; cases z) | (intro _ z; exact nomatch z))) → H' a = some o) := ⟨@Ex.go H H'⟩
theorem nt_or (o : HO) : NT o ∨ ∃ ps, o = .tbl ps := by
  cases o with
  | tbl ps => exact .inr ⟨ps, rfl⟩
  | _ => exact .inl fun _ z => by cases z
theorem Ex.of {H H' : Hp} (e : Evl.Ex H H') : Ex H H' := ⟨fun a o h _ => e a o h, fun a ps h => ⟨ps, e a _ h⟩⟩
theorem Ex.refl (H : Hp) : Ex H H := ⟨fun _ _ h _ => h, fun _ ps h => ⟨ps, h⟩⟩
theorem Ex.trans {H H1 H2 : Hp} (a : Ex H H1) (b : Ex H1 H2) : Ex H H2 := ⟨fun x o h n => b.at' x o (a.at' x o h n) n, fun x ps h => let ⟨p1, h1⟩ := a.tt x ps h; b.tt x p1 h1⟩
theorem Ex.new {H : Hp} {p : Addr} {o : HO} (h : H p = none) : Ex H (upd H p o) := .of (Evl.Ex.new h)
theorem Ex.mut {H H' : Hp} {p : Addr} {o : HO} (e : Ex H H') (h : H p = none) : Ex H (upd H' p o) :=
  ⟨fun a u ha n => by rw [upd_ne (ne_of_none ha h)]; exact e.at' a u ha n, fun a u ha => by rw [upd_ne (ne_of_none ha h)]; exact e.tt a u ha⟩
theorem Ex.put {H H' : Hp} {p : Addr} {o : HO} (e : Ex H H') (h : H' p = some o) : Ex (upd H p o) H' :=
  ⟨fun a u ha n => by
    by_cases x : a = p
    · subst x
      rw [upd_same] at ha
      cases ha
      exact h
    · rw [upd_ne x] at ha
      exact e.at' a u ha n, fun a u ha => by
    by_cases x : a = p
    · subst x
      rw [upd_same] at ha
      cases ha
      exact ⟨_, h⟩
    · rw [upd_ne x] at ha
      exact e.tt a u ha⟩
/-- .. but for p -/
structure ExB (p : Addr) (H H' : Hp) : Prop where
  at' : ∀ a o, a ≠ p → H a = some o → NT o → H' a = some o
  tt : ∀ a ps, a ≠ p → H a = some (.tbl ps) → ∃ ps', H' a = some (.tbl ps')
theorem ExB.of {p : Addr} {H H' : Hp} (h : ∀ a o, a ≠ p → H a = some o → H' a = some o) : ExB p H H' := ⟨fun a o e q _ => h a o e q, fun a ps e q => ⟨ps, h a _ e q⟩⟩
theorem Ex.thenB {p : Addr} {F H H' : Hp} (e : Ex F H) (h : ExB p H H') (f0 : F p = none) : Ex F H' :=
  ⟨fun a o q n => h.at' a o (ne_of_none q f0) (e.at' a o q n) n, fun a ps q => let ⟨p1, h1⟩ := e.tt a ps q; h.tt a p1 (ne_of_none q f0) h1⟩
theorem ex_rd {H H' : Hp} {a : Addr} {u : HO} (e : Ex H H') (h : Rd H a u) (n : NT u := by (first | assumption | (intro _ z; cases z) | (intro _ z; exact nomatch z))) : Rd H' a u := by
  rcases h with h | ⟨o, h⟩
  · exact Or.inl (e.at' a _ h n)
  · exact Or.inr ⟨o, e a _ h⟩
theorem ex_l {K : PySem.W.Frag} {H H' : Hp} {a : Addr} {xs : List V} (e : Ex H H') (h : SqL K H a xs) : SqL K H' a xs := h.elim (fun h => .inl (ex_rd e h)) .inr
theorem ex_t {K : PySem.W.Frag} {H H' : Hp} {a : Addr} {xs : List V} (e : Ex H H') (h : SqT K H a xs) : SqT K H' a xs := h.elim (fun h => .inl (ex_rd e h)) .inr
theorem ne_none {H H' : Hp} {a : Addr} (e : Ex H H') (h : H a ≠ none) : H' a ≠ none := fun z => by
  cases q : H a with
  | none => exact h q
  | some o =>
    rcases nt_or o with n | ⟨ps, n⟩
    · rw [e.at' a o q n] at z; cases z
    · subst n
      obtain ⟨p', e'⟩ := e.tt a ps q
      rw [e'] at z; cases z
theorem fresh_back {H H' : Hp} {p : Addr} (e : Ex H H') (h : H' p = none) : H p = none := Classical.byContradiction fun z => ne_none e z h
/-- what H has beside G -/
def off (G H : Hp) : Hp := fun a => match G a with
  | some _ => none
  | none => H a
theorem off_at {G H : Hp} {a : Addr} (h : G a = none) : off G H a = H a := by unfold off; rw [h]
theorem off_dj {G H : Hp} : ∀ a, off G H a ≠ none → G a = none := fun a h => by
  unfold off at h
  cases g : G a with
  | none => rfl
  | some o => rw [g] at h; exact (h rfl).elim
theorem off_subE {G H : Hp} : Evl.Ex (off G H) H := fun a o h => by
  unfold off at h
  cases g : G a with
  | none => rw [g] at h; exact h
  | some o => rw [g] at h; cases h
theorem off_sub {G H : Hp} : Ex (off G H) H := .of off_subE
/-- a table or a code object -/
def TC (o : HO) : Prop := (∃ ps, o = .tbl ps) ∨ ∃ c q, o = LamX.CodeO c q
theorem tabs_keep {L : List (Addr × Str)} {H H' : Hp} (t : LamX.Tabs L H) (k : ∀ a o, H a = some o → TC o → H' a = some o) : LamX.Tabs L H' := fun p hp => by
  obtain ⟨ps, h1, h2, h3⟩ := t p hp
  refine ⟨ps, k _ _ h1 (.inl ⟨ps, rfl⟩), h2, fun pos cv hc => ?_⟩
  obtain ⟨c, e1, e2⟩ := h3 pos cv hc
  exact ⟨c, e1, k _ _ e2 (.inr ⟨c, _, rfl⟩)⟩
/-- neither -/
theorem nt_of {o : HO} (n : ¬ TC o) : NT o := fun ps z => n (.inl ⟨ps, z⟩)
/-- the text's facts that data lean on -/
structure Tx where
  K : PySem.W.Frag
  cl : Str → Option Addr
  xc : Str → Option Addr
  tabs : List (Addr × Str) := []
  fn : Str → Option Addr := fun _ => none
/-- F lies beside G, and the tables of F stand, as they have grown -/
structure Dj (T : Tx) (F G H : Hp) : Prop where
  at' : ∀ a, F a ≠ none → G a = none
  tb : LamX.Tabs T.tabs F → LamX.Tabs T.tabs (off G H)
instance {T : Tx} {F G H : Hp} : CoeFun (Dj T F G H) (fun _ => ∀ a, F a ≠ none → G a = none) := ⟨fun d => d.at'⟩
/-! ### data -/
inductive D where
  | non | bl (b : Bool) | int (i : Int) | str (x : Str)
  | tup (xs : List D) | lst (xs : List D) | scr (ns : List Int) | dic (l : Bool) (kvs : List (Key × D)) | obj (c : Str) (fs : List (Str × D))
inductive Res (α : Type) where
  | ok (a : α) | exc (c : Str) (fs : List (Str × D)) | bad
def Res.bind {α β : Type} : Res α → (α → Res β) → Res β
  | .ok a, k => k a
  | .exc c fs, _ => .exc c fs
  | .bad, _ => .bad
@[simp] theorem Res.bind_ok {α β : Type} (a : α) (k : α → Res β) : (Res.ok a).bind k = k a := rfl
@[simp] theorem Res.bind_exc {α β : Type} (c : Str) (fs : List (Str × D)) (k : α → Res β) : (Res.exc c fs).bind k = .exc c fs := rfl
@[simp] theorem Res.bind_bad {α β : Type} (k : α → Res β) : (Res.bad).bind k = .bad := rfl
def D.flat : D → Bool
  | .non => true | .bl _ => true | .int _ => true | .str _ => true | _ => false
/-- a tuple at a, without a dict of its own -/
def PlT (K : PySem.W.Frag) (H : Hp) (a : Addr) (xs : List V) : Prop := (∃ o : Obj, o.dict = none ∧ H a = some (.frz o (.tup xs))) ∨
  ∃ (o : Obj) (its : Array Value) (n : Nat), o.dict = none ∧ K.lookup a = some o ∧ o.cls = .type "tuple" ∧ o.data = .seq its n ∧ its.size ≤ sizeLine ∧ Vals xs its.toList
theorem PlT.mono {K : PySem.W.Frag} {H H' : Hp} {a : Addr} {xs : List V} (e : Ex H H') (h : PlT K H a xs) : PlT K H' a xs := h.elim (fun ⟨o, d, q⟩ => .inl ⟨o, d, e _ _ q⟩) .inr
theorem PlT.sq {K : PySem.W.Frag} {H : Hp} {a : Addr} {xs : List V} (h : PlT K H a xs) : SqT K H a xs := h.elim (fun ⟨o, _, q⟩ => .inl (.inr ⟨o, q⟩)) fun ⟨o, its, n, _, r⟩ => .inr ⟨o, its, n, r⟩
/-- a dict at a; l: it is locked, it stays -/
def DicAt (l : Bool) (H : Hp) (a : Addr) (ys : List (Key × V)) : Prop := Rd H a (.dK ys) ∧ (l = true → ∃ o, H a = some (.frz o (.dK ys)))
theorem DicAt.mono {l : Bool} {H H' : Hp} {a : Addr} {ys : List (Key × V)} (e : Ex H H') (h : DicAt l H a ys) : DicAt l H' a ys :=
  ⟨h.1.elim (fun q => .inl (e _ _ q)) fun ⟨o, q⟩ => .inr ⟨o, e _ _ q⟩, fun z => let ⟨o, q⟩ := h.2 z; ⟨o, e _ _ q⟩⟩
mutual
def Rep (T : Tx) (H : Hp) : D → V → Prop
  | .non, v => v = .non
  | .bl b, v => v = .bl b
  | .int i, v => v = .int i
  | .str x, v => v = .str x
  | .tup ds, v => ∃ a xs, v = .ref a ∧ PlT T.K H a xs ∧ RepL T H ds xs
  | .lst ds, v => ∃ a xs, v = .ref a ∧ H a = some (.lst xs) ∧ RepL T H ds xs
  | .scr ns, v => ∃ a, v = .ref a ∧ SqL T.K H a (ns.map V.int)
  | .dic l kvs, v => ∃ a ys, v = .ref a ∧ DicAt l H a ys ∧ RepK T H kvs ys
  | .obj c fs, v => ∃ a C dx ys, v = .ref a ∧ T.cl c = some C ∧ H a = some (.ins C dx ys) ∧ RepF T H fs ys
def RepL (T : Tx) (H : Hp) : List D → List V → Prop
  | [], xs => xs = []
  | d :: ds, xs => ∃ v r, xs = v :: r ∧ Rep T H d v ∧ RepL T H ds r
def RepK (T : Tx) (H : Hp) : List (Key × D) → List (Key × V) → Prop
  | [], xs => xs = []
  | (k, d) :: ds, xs => ∃ v r, xs = (k, v) :: r ∧ Rep T H d v ∧ RepK T H ds r
def RepF (T : Tx) (H : Hp) : List (Str × D) → List (Str × V) → Prop
  | [], xs => xs = []
  | (k, d) :: ds, xs => ∃ v r, xs = (k, v) :: r ∧ Rep T H d v ∧ RepF T H ds r
end
mutual
theorem Rep.mono {T : Tx} {H H' : Hp} (e : Ex H H') : ∀ {d : D} {v : V}, Rep T H d v → Rep T H' d v
  | .non, _, h => h
  | .bl _, _, h => h
  | .int _, _, h => h
  | .str _, _, h => h
  | .tup _, _, h => let ⟨a, xs, e1, s, r⟩ := h; ⟨a, xs, e1, s.mono e, RepL.mono e r⟩
  | .lst _, _, h => let ⟨a, xs, e1, s, r⟩ := h; ⟨a, xs, e1, e _ _ s, RepL.mono e r⟩
  | .scr _, _, h => let ⟨a, e1, s⟩ := h; ⟨a, e1, ex_l e s⟩
  | .dic _ _, _, h => let ⟨a, ys, e1, s, r⟩ := h; ⟨a, ys, e1, s.mono e, RepK.mono e r⟩
  | .obj _ _, _, h => let ⟨a, C, dx, ys, e1, c, s, r⟩ := h; ⟨a, C, dx, ys, e1, c, e _ _ s, RepF.mono e r⟩
theorem RepL.mono {T : Tx} {H H' : Hp} (e : Ex H H') : ∀ {ds : List D} {vs : List V}, RepL T H ds vs → RepL T H' ds vs
  | [], _, h => h
  | _ :: _, _, h => let ⟨v, r, e1, a, b⟩ := h; ⟨v, r, e1, Rep.mono e a, RepL.mono e b⟩
theorem RepK.mono {T : Tx} {H H' : Hp} (e : Ex H H') : ∀ {ds : List (Key × D)} {vs : List (Key × V)}, RepK T H ds vs → RepK T H' ds vs
  | [], _, h => h
  | (_, _) :: _, _, h => let ⟨v, r, e1, a, b⟩ := h; ⟨v, r, e1, Rep.mono e a, RepK.mono e b⟩
theorem RepF.mono {T : Tx} {H H' : Hp} (e : Ex H H') : ∀ {ds : List (Str × D)} {vs : List (Str × V)}, RepF T H ds vs → RepF T H' ds vs
  | [], _, h => h
  | (_, _) :: _, _, h => let ⟨v, r, e1, a, b⟩ := h; ⟨v, r, e1, Rep.mono e a, RepF.mono e b⟩
end
theorem Rep.flat {T : Tx} {H H' : Hp} : ∀ {d : D} {v : V}, d.flat = true → Rep T H d v → Rep T H' d v
  | .non, _, _, h => h
  | .bl _, _, _, h => h
  | .int _, _, _, h => h
  | .str _, _, _, h => h
  | .tup _, _, e, _ => nomatch e
  | .lst _, _, e, _ => nomatch e
  | .scr _, _, e, _ => nomatch e
  | .dic _ _, _, e, _ => nomatch e
  | .obj _ _, _, e, _ => nomatch e
/-! ### bindings -/
/-- im: data; ol, od, oi: a list, a dict, an instance of one's own (pin: a parameter's) -/
inductive B where
  | im (d : D) | ol (pin : Bool) (ds : List D) | od (pin : Bool) (kvs : List (Key × D)) | oi (pin : Bool) (c : Str) (fs : List (Str × D)) | fn (q : Str)
abbrev En := List (Option B)
def B.own : B → Bool
  | .im _ => false
  | .fn _ => false
  | _ => true
def B.pin : B → Bool
  | .im _ => false
  | .ol p _ => p
  | .od p _ => p
  | .oi p _ _ => p
  | .fn _ => false
/-- what stands at p -/
def ORep (T : Tx) (G H : Hp) (p : Addr) : B → Prop
  | .im _ => False
  | .fn _ => False
  | .ol _ ds => ∃ xs, H p = some (.lst xs) ∧ RepL T G ds xs
  | .od _ kvs => ∃ ys, H p = some (.dK ys) ∧ RepK T G kvs ys
  | .oi _ c fs => ∃ C dx ys, T.cl c = some C ∧ H p = some (.ins C dx ys) ∧ RepF T G fs ys
def BRep (T : Tx) (F G H : Hp) (v : V) (b : B) : Prop :=
  match b with
  | .im d => Rep T G d v
  | .fn q => ∃ a, v = .ref a ∧ T.fn q = some a
  | b => ∃ p, v = .ref p ∧ G p = none ∧ F p = none ∧ ORep T G H p b
/-- the state: F what stands by itself (the frame), G what is known and stays, the slots as β says -/
structure SI (T : Tx) (A : Nat → Option Addr) (F G H : Hp) (σ : St) (β : En) : Prop where
  fh : Ex F H
  gh : Ex G H
  dj : Dj T F G H
  len : β.length ≤ σ.length
  at' : ∀ (i : Nat) (b : B), β[i]? = some (some b) → ∃ v, σ[i]? = some (some v) ∧ BRep T F G H v b
  sep : ∀ (i j : Nat) (b c : B) (p : Addr), β[i]? = some (some b) → β[j]? = some (some c) → b.own = true → c.own = true → σ[i]? = some (some (.ref p)) → σ[j]? = some (some (.ref p)) → i = j
  pin : ∀ (i : Nat) (b : B), β[i]? = some (some b) → b.pin = true → ∃ p, A i = some p ∧ σ[i]? = some (some (.ref p))
  tb : LamX.Tabs T.tabs F
/-- nothing but new things -/
structure Grow (T : Tx) (G H G' H' : Hp) : Prop where
  gg : Ex G G'
  gh : Ex G' H'
  hh : Ex H H'
  ap : ∀ a, H a ≠ none → G a = none → G' a = none
  tb : LamX.Tabs T.tabs (off G H) → LamX.Tabs T.tabs (off G' H')
theorem Grow.refl {T : Tx} {G H : Hp} (e : Ex G H) : Grow T G H G H := ⟨Ex.refl _, e, Ex.refl _, fun _ _ h => h, fun h => h⟩
theorem Grow.trans {T : Tx} {G H G1 H1 G2 H2 : Hp} (a : Grow T G H G1 H1) (b : Grow T G1 H1 G2 H2) : Grow T G H G2 H2 :=
  ⟨a.gg.trans b.gg, b.gh, a.hh.trans b.hh, fun x h1 h2 => b.ap x (ne_none a.hh h1) (a.ap x h1 h2), fun h => b.tb (a.tb h)⟩
/-- from a step that leaves all as it was -/
theorem Grow.ofE {T : Tx} {G H G' H' : Hp} (gg : Ex G G') (gh : Ex G' H') (hh : Evl.Ex H H') (ap : ∀ a, H a ≠ none → G a = none → G' a = none) : Grow T G H G' H' :=
  ⟨gg, gh, .of hh, ap, fun h => h.ext fun a o ha => by
    have h1 := off_subE a o ha
    have h2 := off_dj a (by rw [ha]; exact fun z => nomatch z)
    rw [off_at (ap a (by rw [h1]; exact fun z => nomatch z) h2)]
    exact hh a o h1⟩
theorem Grow.new {T : Tx} {G H : Hp} {p : Addr} {o : HO} (e : Ex G H) (h : H p = none) : Grow T G H (upd G p o) (upd H p o) := by
  have hg : G p = none := fresh_back e h
  refine .ofE (Ex.new hg) ⟨fun a u ha n => ?_, fun a u ha => ?_⟩ (Evl.Ex.new h) (fun a h1 h2 => ?_)
  · by_cases x : a = p
    · subst x
      rw [upd_same] at ha ⊢
      exact ha
    · rw [upd_ne x] at ha ⊢
      exact e.at' a u ha n
  · by_cases x : a = p
    · subst x
      rw [upd_same] at ha ⊢
      exact ⟨_, ha⟩
    · rw [upd_ne x] at ha ⊢
      exact e.tt a u ha
  · have x : a ≠ p := fun z => by subst z; exact h1 h
    rw [upd_ne x]
    exact h2
/-- something new beside, of which nothing is said -/
theorem Grow.side {T : Tx} {G H H' : Hp} (e : Ex G H) (h : Evl.Ex H H') : Grow T G H G H' := .ofE (Ex.refl _) (e.trans (.of h)) h (fun _ _ z => z)
/-- what is no table and no code object may go from H to G, may come to the frame, may change -/
theorem Dj.freeze {T : Tx} {F G H : Hp} {p : Addr} {o : HO} (d : Dj T F G H) (hp : H p = some o) (f0 : F p = none) (n : ¬ TC o) : Dj T F (upd G p o) H :=
  ⟨fun a ha => by
    have x : a ≠ p := fun z => by subst z; exact ha f0
    rw [upd_ne x]
    exact d a ha, fun h => tabs_keep (d.tb h) fun a u ha hu => by
    have h1 := off_subE a u ha
    have h2 := off_dj a (by rw [ha]; exact fun z => nomatch z)
    have x : a ≠ p := fun z => by subst z; rw [hp] at h1; cases h1; exact n hu
    rw [off_at (by rw [upd_ne x]; exact h2)]
    exact h1⟩
theorem Dj.wide {T : Tx} {F G H : Hp} {p : Addr} {o : HO} (d : Dj T F G H) (g0 : G p = none) (n : ¬ TC o) : Dj T (upd F p o) G H :=
  ⟨fun a ha => by
    by_cases x : a = p
    · subst x
      exact g0
    · rw [upd_ne x] at ha
      exact d a ha, fun h => d.tb (tabs_keep h fun a u ha hu => by
    have x : a ≠ p := fun z => by subst z; rw [upd_same] at ha; cases ha; exact n hu
    rw [upd_ne x] at ha
    exact ha)⟩
theorem Dj.narrow {T : Tx} {F G H : Hp} {p : Addr} {o : HO} (d : Dj T (upd F p o) G H) (f0 : F p = none) : Dj T F G H :=
  ⟨fun a ha => d a (ne_none (Ex.new f0) ha), fun h => d.tb (h.ext (Evl.Ex.new f0))⟩
theorem tabs_wide {F : Hp} {L : List (Addr × Str)} {p : Addr} {o : HO} (t : LamX.Tabs L F) (f0 : F p = none) : LamX.Tabs L (upd F p o) := t.ext (Evl.Ex.new f0)
theorem tabs_narrow {F : Hp} {L : List (Addr × Str)} {p : Addr} {o : HO} (t : LamX.Tabs L (upd F p o)) (n : ¬ TC o) : LamX.Tabs L F := tabs_keep t fun a u ha hu => by
    have x : a ≠ p := fun z => by subst z; rw [upd_same] at ha; cases ha; exact n hu
    rw [upd_ne x] at ha
    exact ha
theorem Dj.other {T : Tx} {F G H : Hp} {p : Addr} {o o' : HO} (d : Dj T F G H) (hp : H p = some o') (n : ¬ TC o') : Dj T F G (upd H p o) :=
  ⟨d.at', fun h => tabs_keep (d.tb h) fun a u ha hu => by
    have h1 := off_subE a u ha
    have h2 := off_dj a (by rw [ha]; exact fun z => nomatch z)
    have x : a ≠ p := fun z => by subst z; rw [hp] at h1; cases h1; exact n hu
    rw [off_at h2, upd_ne x]
    exact h1⟩
theorem Dj.grow {T : Tx} {F G H G' H' : Hp} (d : Dj T F G H) (fh : Ex F H) (g : Grow T G H G' H') : Dj T F G' H' := ⟨fun a ha => g.ap a (ne_none fh ha) (d a ha), fun h => g.tb (d.tb h)⟩
theorem ORep.mono {T : Tx} {G H G' H' : Hp} {p : Addr} {b : B} (e : Ex G G') (h : ∀ o, H p = some o → (nt : NT o := by (first | assumption | (intro _ z; cases z) | (intro _ z; exact nomatch z))) → H' p = some o) (r : ORep T G H p b) : ORep T G' H' p b := by
  cases b with
  | im d => exact r
  | ol q ds => obtain ⟨xs, a, r⟩ := r; exact ⟨xs, h _ a, RepL.mono e r⟩
  | od q ds => obtain ⟨xs, a, r⟩ := r; exact ⟨xs, h _ a, RepK.mono e r⟩
  | oi q c fs => obtain ⟨C, dx, ys, c1, a, r⟩ := r; exact ⟨C, dx, ys, c1, h _ a, RepF.mono e r⟩
  | fn q => exact r
theorem ORep.ntc {T : Tx} {G H : Hp} {p : Addr} {b : B} {o : HO} (r : ORep T G H p b) (h : H p = some o) : ¬ TC o := by
  cases b with
  | im d => exact r.elim
  | ol q ds => obtain ⟨xs, a, r⟩ := r; rw [a] at h; cases h; (intro z; rcases z with ⟨_, z⟩ | ⟨_, _, z⟩ <;> first | (cases z; done) | (unfold LamX.CodeO at z; cases z))
  | od q ds => obtain ⟨xs, a, r⟩ := r; rw [a] at h; cases h; (intro z; rcases z with ⟨_, z⟩ | ⟨_, _, z⟩ <;> first | (cases z; done) | (unfold LamX.CodeO at z; cases z))
  | oi q c fs => obtain ⟨C, dx, ys, c1, a, r⟩ := r; rw [a] at h; cases h; (intro z; rcases z with ⟨_, z⟩ | ⟨_, _, z⟩ <;> first | (cases z; done) | (unfold LamX.CodeO at z; cases z))
  | fn q => exact r.elim
theorem ORep.there {T : Tx} {G H : Hp} {p : Addr} {b : B} (r : ORep T G H p b) : H p ≠ none := by
  cases b with
  | im d => exact r.elim
  | ol q ds => obtain ⟨xs, a, r⟩ := r; rw [a]; exact fun z => nomatch z
  | od q ds => obtain ⟨xs, a, r⟩ := r; rw [a]; exact fun z => nomatch z
  | oi q c fs => obtain ⟨C, dx, ys, c1, a, r⟩ := r; rw [a]; exact fun z => nomatch z
  | fn q => exact r.elim
section
variable {T : Tx} {A : Nat → Option Addr} {F G H G' H' : Hp} {σ : St} {β : En}
theorem SI.grow (s : SI T A F G H σ β) (g : Grow T G H G' H') : SI T A F G' H' σ β := by
  refine ⟨s.fh.trans g.hh, g.gh, s.dj.grow s.fh g, s.len, fun i b hb => ?_, s.sep, s.pin, s.tb⟩
  obtain ⟨v, hv, r⟩ := s.at' i b hb
  refine ⟨v, hv, ?_⟩
  cases b with
  | im d => exact Rep.mono g.gg r
  | ol q ds => obtain ⟨p, e, g0, f0, r⟩ := r; exact ⟨p, e, g.ap p r.there g0, f0, r.mono g.gg (g.hh.at' p)⟩
  | od q ds => obtain ⟨p, e, g0, f0, r⟩ := r; exact ⟨p, e, g.ap p r.there g0, f0, r.mono g.gg (g.hh.at' p)⟩
  | oi q c fs => obtain ⟨p, e, g0, f0, r⟩ := r; exact ⟨p, e, g.ap p r.there g0, f0, r.mono g.gg (g.hh.at' p)⟩
  | fn q => exact r
/-- what is one's own -/
theorem SI.ownR {i : Nat} {b : B} {p : Addr} (s : SI T A F G H σ β) (hb : β[i]? = some (some b)) (ho : b.own = true) (hv : σ[i]? = some (some (.ref p))) : G p = none ∧ F p = none ∧ ORep T G H p b := by
  obtain ⟨v, h1, r⟩ := s.at' i b hb
  rw [hv] at h1
  cases h1
  cases b with
  | im d => cases ho
  | ol q ds => obtain ⟨a, e1, g1, f1, r⟩ := r; cases e1; exact ⟨g1, f1, r⟩
  | od q ds => obtain ⟨a, e1, g1, f1, r⟩ := r; cases e1; exact ⟨g1, f1, r⟩
  | oi q c fs => obtain ⟨a, e1, g1, f1, r⟩ := r; cases e1; exact ⟨g1, f1, r⟩
  | fn q => cases ho
theorem SI.im (s : SI T A F G H σ β) {i : Nat} {d : D} (h : β[i]? = some (some (.im d))) : ∃ v, σ[i]? = some (some v) ∧ Rep T G d v := s.at' i _ h
end
/-! ### what an expression's, a test's, a statement's reading is worth -/
abbrev MM (α : Type) := En → Res (α × En)
abbrev WishX := Value → Option Addr → St → Hp → Prop
/-- an exception of the class c has come, its dict fs -/
def PostX (T : Tx) (W : WishX) (F G : Hp) (σ : St) (c : Str) (fs : List (Str × D)) : Prop :=
  ∀ C dx ys G' H', T.xc c = some C → Ex G G' → Ex G' H' → Ex F H' → Dj T F G' H' → H' dx = some (.xd ys) → RepF T G' fs ys → W (.ref C) (some dx) σ H'
def PostE (T : Tx) (A : Nat → Option Addr) (W : WishX) (F G : Hp) (σ : St) (r : Res (D × En)) (Q : VK) : Prop :=
  match r with
  | .ok (d, β') => ∀ v G' H', Ex G G' → SI T A F G' H' σ β' → Rep T G' d v → Q v H'
  | .exc c fs => PostX T W F G σ c fs
  | .bad => False
def PostT (T : Tx) (A : Nat → Option Addr) (W : WishX) (F G : Hp) (σ : St) (r : Res (Bool × En)) (Q : Bool → Hp → Prop) : Prop :=
  match r with
  | .ok (b, β') => ∀ G' H', Ex G G' → SI T A F G' H' σ β' → Q b H'
  | .exc c fs => PostX T W F G σ c fs
  | .bad => False
def PostA (T : Tx) (A : Nat → Option Addr) (W : WishX) (F G : Hp) (σ : St) (r : Res (List D × En)) (Q : List V → Hp → Prop) : Prop :=
  match r with
  | .ok (ds, β') => ∀ vs G' H', Ex G G' → SI T A F G' H' σ β' → RepL T G' ds vs → Q vs H'
  | .exc c fs => PostX T W F G σ c fs
  | .bad => False
inductive Fl where
  | nx | bk | ct | rt (d : D) | rf (ds : List D)
def PostS (T : Tx) (A : Nat → Option Addr) (W : WishX) (F G : Hp) (r : Res (Fl × En)) (E : Ends) : Prop :=
  match r with
  | .ok (.nx, β') => ∀ σ' G' H', Ex G G' → SI T A F G' H' σ' β' → E.nx σ' H'
  | .ok (.bk, β') => ∀ σ' G' H', Ex G G' → SI T A F G' H' σ' β' → E.bk σ' H'
  | .ok (.ct, β') => ∀ σ' G' H', Ex G G' → SI T A F G' H' σ' β' → E.ct σ' H'
  | .ok (.rt d, β') => ∀ v σ' G' H', Ex G G' → SI T A F G' H' σ' β' → Rep T G' d v → E.rt v H'
  | .ok (.rf ds, β') => ∀ p xs σ' G' H', Ex G G' → SI T A F G' H' σ' β' → H' p = some (.lst xs) → G' p = none → F p = none → RepL T G' ds xs → E.rt (.ref p) H'
  | .exc c fs => ∀ σ', PostX T W F G σ' c fs
  | .bad => False
def tM (T : Tx) (W : WishX) (m : MM D) : TE := fun σ H Q => ∃ A F G β, SI T A F G H σ β ∧ PostE T A W F G σ (m β) Q
def tT (T : Tx) (W : WishX) (m : MM Bool) : TT := fun σ H Q => ∃ A F G β, SI T A F G H σ β ∧ PostT T A W F G σ (m β) Q
def tA (T : Tx) (W : WishX) (m : MM (List D)) : TA := fun σ H Q => ∃ A F G β, SI T A F G H σ β ∧ PostA T A W F G σ (m β) Q
def tS (T : Tx) (W : WishX) (m : MM Fl) : TS := fun E σ H => ∃ A F G β, SI T A F G H σ β ∧ PostS T A W F G (m β) E
abbrev ME (X : Cx) (T : Tx) (W : WishX) (e : Expr) (m : MM D) : Prop := PE X e (tM T W m)
abbrev MT (X : Cx) (T : Tx) (W : WishX) (e : Expr) (m : MM Bool) : Prop := PT X e (tT T W m)
abbrev MA (X : Cx) (T : Tx) (W : WishX) (e : List Expr) (m : MM (List D)) : Prop := PA X e (tA T W m)
abbrev MS (X : Cx) (T : Tx) (W : WishX) (e : Stmt) (m : MM Fl) : Prop := PS X e (tS T W m)
abbrev MSs (X : Cx) (T : Tx) (W : WishX) (e : List Stmt) (m : MM Fl) : Prop := PSs X e (tS T W m)
theorem pe_imp {X : Cx} {e : Expr} {t t' : TE} (h : PE X e t) (k : ∀ σ H Q, t' σ H Q → t σ H Q) : PE X e t' := ⟨fun pins s σ H Q I z => h.run pins s σ H Q I (k σ H Q z)⟩
theorem pt_imp {X : Cx} {e : Expr} {t t' : TT} (h : PT X e t) (k : ∀ σ H Q, t' σ H Q → t σ H Q) : PT X e t' := ⟨fun pins s σ H Q I z => h.run pins s σ H Q I (k σ H Q z)⟩
theorem pa_imp {X : Cx} {e : List Expr} {t t' : TA} (h : PA X e t) (k : ∀ σ H Q, t' σ H Q → t σ H Q) : PA X e t' := ⟨fun pos pins s σ H Q I z => h.run pos pins s σ H Q I (k σ H Q z)⟩
theorem ps_imp {X : Cx} {e : Stmt} {t t' : TS} (h : PS X e t) (k : ∀ D σ H, t' D σ H → t D σ H) : PS X e t' := ⟨fun pins s σ H D I z => h.run pins s σ H D I (k D σ H z)⟩
theorem pss_imp {X : Cx} {e : List Stmt} {t t' : TS} (h : PSs X e t) (k : ∀ D σ H, t' D σ H → t D σ H) : PSs X e t' := ⟨fun pins s σ H D I z => h.run pins s σ H D I (k D σ H z)⟩
section
variable {T : Tx} {A : Nat → Option Addr} {W : WishX} {F G G' H : Hp} {σ : St} {β : En}
theorem PostX.mono {c : Str} {fs : List (Str × D)} (e : Ex G G') (h : PostX T W F G σ c fs) : PostX T W F G' σ c fs := fun C dx ys G2 H2 hc e2 => h C dx ys G2 H2 hc (e.trans e2)
theorem PostE.mono {r : Res (D × En)} {Q : VK} (e : Ex G G') (h : PostE T A W F G σ r Q) : PostE T A W F G' σ r Q := by
  match r, h with
  | .ok (d, β'), h => exact fun v G2 H2 e2 => h v G2 H2 (e.trans e2)
  | .exc c fs, h => exact PostX.mono e h
  | .bad, h => exact h
theorem PostT.mono {r : Res (Bool × En)} {Q : Bool → Hp → Prop} (e : Ex G G') (h : PostT T A W F G σ r Q) : PostT T A W F G' σ r Q := by
  match r, h with
  | .ok (d, β'), h => exact fun G2 H2 e2 => h G2 H2 (e.trans e2)
  | .exc c fs, h => exact PostX.mono e h
  | .bad, h => exact h
theorem PostA.mono {r : Res (List D × En)} {Q : List V → Hp → Prop} (e : Ex G G') (h : PostA T A W F G σ r Q) : PostA T A W F G' σ r Q := by
  match r, h with
  | .ok (d, β'), h => exact fun v G2 H2 e2 => h v G2 H2 (e.trans e2)
  | .exc c fs, h => exact PostX.mono e h
  | .bad, h => exact h
theorem PostS.mono {r : Res (Fl × En)} {E : Ends} (e : Ex G G') (h : PostS T A W F G r E) : PostS T A W F G' r E := by
  match r, h with
  | .ok (.nx, β'), h => exact fun v G2 H2 e2 => h v G2 H2 (e.trans e2)
  | .ok (.bk, β'), h => exact fun v G2 H2 e2 => h v G2 H2 (e.trans e2)
  | .ok (.ct, β'), h => exact fun v G2 H2 e2 => h v G2 H2 (e.trans e2)
  | .ok (.rt d, β'), h => exact fun v s G2 H2 e2 => h v s G2 H2 (e.trans e2)
  | .ok (.rf d, β'), h => exact fun p xs s G2 H2 e2 => h p xs s G2 H2 (e.trans e2)
  | .exc c fs, h => exact fun s => PostX.mono e (h s)
  | .bad, h => exact h
/-- an expression, then the rest -/
theorem PostE.bindE {r : Res (D × En)} {k : D × En → Res (D × En)} {Q Q1 : VK} (h : PostE T A W F G σ (r.bind k) Q)
    (c : ∀ d β' v G' H', Ex G G' → SI T A F G' H' σ β' → Rep T G' d v → PostE T A W F G' σ (k (d, β')) Q → Q1 v H') : PostE T A W F G σ r Q1 := by
  match r, h with
  | .ok (d, β'), h => exact fun v G2 H2 e2 s rp => c d β' v G2 H2 e2 s rp (PostE.mono e2 h)
  | .exc _ fs, h => exact h
  | .bad, h => exact h
theorem PostT.bindE {r : Res (D × En)} {k : D × En → Res (Bool × En)} {Q : Bool → Hp → Prop} {Q1 : VK} (h : PostT T A W F G σ (r.bind k) Q)
    (c : ∀ d β' v G' H', Ex G G' → SI T A F G' H' σ β' → Rep T G' d v → PostT T A W F G' σ (k (d, β')) Q → Q1 v H') : PostE T A W F G σ r Q1 := by
  match r, h with
  | .ok (d, β'), h => exact fun v G2 H2 e2 s rp => c d β' v G2 H2 e2 s rp (PostT.mono e2 h)
  | .exc _ fs, h => exact h
  | .bad, h => exact h
theorem PostA.bindE {r : Res (D × En)} {k : D × En → Res (List D × En)} {Q : List V → Hp → Prop} {Q1 : VK} (h : PostA T A W F G σ (r.bind k) Q)
    (c : ∀ d β' v G' H', Ex G G' → SI T A F G' H' σ β' → Rep T G' d v → PostA T A W F G' σ (k (d, β')) Q → Q1 v H') : PostE T A W F G σ r Q1 := by
  match r, h with
  | .ok (d, β'), h => exact fun v G2 H2 e2 s rp => c d β' v G2 H2 e2 s rp (PostA.mono e2 h)
  | .exc _ fs, h => exact h
  | .bad, h => exact h
theorem PostE.bindA {r : Res (List D × En)} {k : List D × En → Res (D × En)} {Q : VK} {Q1 : List V → Hp → Prop} (h : PostE T A W F G σ (r.bind k) Q)
    (c : ∀ d β' v G' H', Ex G G' → SI T A F G' H' σ β' → RepL T G' d v → PostE T A W F G' σ (k (d, β')) Q → Q1 v H') : PostA T A W F G σ r Q1 := by
  match r, h with
  | .ok (d, β'), h => exact fun v G2 H2 e2 s rp => c d β' v G2 H2 e2 s rp (PostE.mono e2 h)
  | .exc _ fs, h => exact h
  | .bad, h => exact h
theorem PostA.bindA {r : Res (List D × En)} {k : List D × En → Res (List D × En)} {Q : List V → Hp → Prop} {Q1 : List V → Hp → Prop} (h : PostA T A W F G σ (r.bind k) Q)
    (c : ∀ d β' v G' H', Ex G G' → SI T A F G' H' σ β' → RepL T G' d v → PostA T A W F G' σ (k (d, β')) Q → Q1 v H') : PostA T A W F G σ r Q1 := by
  match r, h with
  | .ok (d, β'), h => exact fun v G2 H2 e2 s rp => c d β' v G2 H2 e2 s rp (PostA.mono e2 h)
  | .exc _ fs, h => exact h
  | .bad, h => exact h
theorem PostE.bindT {r : Res (Bool × En)} {k : Bool × En → Res (D × En)} {Q : VK} {Q1 : Bool → Hp → Prop} (h : PostE T A W F G σ (r.bind k) Q)
    (c : ∀ b β' G' H', Ex G G' → SI T A F G' H' σ β' → PostE T A W F G' σ (k (b, β')) Q → Q1 b H') : PostT T A W F G σ r Q1 := by
  match r, h with
  | .ok (d, β'), h => exact fun G2 H2 e2 s => c d β' G2 H2 e2 s (PostE.mono e2 h)
  | .exc _ fs, h => exact h
  | .bad, h => exact h
theorem PostT.bindT {r : Res (Bool × En)} {k : Bool × En → Res (Bool × En)} {Q : Bool → Hp → Prop} {Q1 : Bool → Hp → Prop} (h : PostT T A W F G σ (r.bind k) Q)
    (c : ∀ b β' G' H', Ex G G' → SI T A F G' H' σ β' → PostT T A W F G' σ (k (b, β')) Q → Q1 b H') : PostT T A W F G σ r Q1 := by
  match r, h with
  | .ok (d, β'), h => exact fun G2 H2 e2 s => c d β' G2 H2 e2 s (PostT.mono e2 h)
  | .exc _ fs, h => exact h
  | .bad, h => exact h
theorem PostS.bindE {r : Res (D × En)} {k : D × En → Res (Fl × En)} {E : Ends} {Q1 : VK} (h : PostS T A W F G (r.bind k) E)
    (c : ∀ d β' v G' H', Ex G G' → SI T A F G' H' σ β' → Rep T G' d v → PostS T A W F G' (k (d, β')) E → Q1 v H') : PostE T A W F G σ r Q1 := by
  match r, h with
  | .ok (d, β'), h => exact fun v G2 H2 e2 s rp => c d β' v G2 H2 e2 s rp (PostS.mono e2 h)
  | .exc _ fs, h => exact h σ
  | .bad, h => exact h
theorem PostS.bindA {r : Res (List D × En)} {k : List D × En → Res (Fl × En)} {E : Ends} {Q1 : List V → Hp → Prop} (h : PostS T A W F G (r.bind k) E)
    (c : ∀ d β' v G' H', Ex G G' → SI T A F G' H' σ β' → RepL T G' d v → PostS T A W F G' (k (d, β')) E → Q1 v H') : PostA T A W F G σ r Q1 := by
  match r, h with
  | .ok (d, β'), h => exact fun v G2 H2 e2 s rp => c d β' v G2 H2 e2 s rp (PostS.mono e2 h)
  | .exc _ fs, h => exact h σ
  | .bad, h => exact h
theorem PostS.bindT {r : Res (Bool × En)} {k : Bool × En → Res (Fl × En)} {E : Ends} {Q1 : Bool → Hp → Prop} (h : PostS T A W F G (r.bind k) E)
    (c : ∀ b β' G' H', Ex G G' → SI T A F G' H' σ β' → PostS T A W F G' (k (b, β')) E → Q1 b H') : PostT T A W F G σ r Q1 := by
  match r, h with
  | .ok (d, β'), h => exact fun G2 H2 e2 s => c d β' G2 H2 e2 s (PostS.mono e2 h)
  | .exc _ fs, h => exact h σ
  | .bad, h => exact h
end
/-! ### primitives by values -/
/-- what a primitive leaves: some data, new things only -/
def PostP (T : Tx) (G H : Hp) (r : Res D) (Q : VK) : Prop :=
  match r with
  | .ok d => ∀ v G' H', Grow T G H G' H' → Rep T G' d v → Q v H'
  | _ => False
def Prim2 (T : Tx) (r : R2) (f : D → D → Res D) : Prop := ∀ G H x y a b Q, Ex G H → Rep T G a x → Rep T G b y → PostP T G H (f a b) Q → r x y H Q
def Prim1 (T : Tx) (r : V → Hp → VK → Prop) (f : D → Res D) : Prop := ∀ G H x a Q, Ex G H → Rep T G a x → PostP T G H (f a) Q → r x H Q
def PrimA (T : Tx) (r : List V → Hp → VK → Prop) (f : List D → Res D) : Prop := ∀ G H xs as Q, Ex G H → RepL T G as xs → PostP T G H (f as) Q → r xs H Q
/-- a primitive's result, the slots kept -/
def Res.keep (r : Res D) (β : En) : Res (D × En) :=
  match r with
  | .ok d => .ok (d, β)
  | .exc c fs => .bad
  | .bad => .bad
theorem PostE.prim {T : Tx} {A : Nat → Option Addr} {W : WishX} {F G H : Hp} {σ : St} {β : En} {r : Res D} {Q : VK} (s : SI T A F G H σ β) (h : PostE T A W F G σ (r.keep β) Q) : PostP T G H r Q := by
  match r, h with
  | .ok d, h => exact fun v G2 H2 g rp => h v G2 H2 g.gg (s.grow g) rp
  | .exc _ fs, h => exact h.elim
  | .bad, h => exact h.elim
def opM (f : D → D → Res D) (m1 m2 : MM D) : MM D := fun β => (m1 β).bind fun p => (m2 p.2).bind fun q => (f p.1 q.1).keep q.2
def unM (f : D → Res D) (m1 : MM D) : MM D := fun β => (m1 β).bind fun p => (f p.1).keep p.2
def apM (f : List D → Res D) (m1 : MM (List D)) : MM D := fun β => (m1 β).bind fun p => (f p.1).keep p.2
def nilM : MM (List D) := fun β => .ok ([], β)
def consM (m1 : MM D) (m2 : MM (List D)) : MM (List D) := fun β => (m1 β).bind fun p => (m2 p.2).bind fun q => .ok (p.1 :: q.1, q.2)
def constM (d : D) : MM D := fun β => .ok (d, β)
def nameM (i : Nat) : MM D := fun β => match β[i]? with
  | some (some (.im d)) => .ok (d, β)
  | _ => .bad
section
variable {X : Cx} {T : Tx} {W : WishX} {a b : Expr} {m1 m2 : MM D} {pos : Pos}
theorem me_op {op : Operator} {r : R2} {f : D → D → Res D} (ho : OpR X (binaryOp op) r) (hp : Prim2 T r f) (ha : ME X T W a m1) (hb : ME X T W b m2) : ME X T W (.BinOp a op b pos) (opM f m1 m2) := by
  refine pe_imp (pe_op ho ha hb) fun σ H Q ⟨A, F, G, β, s, p⟩ => ?_
  exact ⟨A, F, G, β, s, p.bindE fun d β1 v G1 H1 e1 s1 r1 p1 => ⟨A, F, G1, β1, s1, p1.bindE fun d2 β2 v2 G2 H2 e2 s2 r2 p2 => hp G2 H2 v v2 d d2 Q s2.gh (r1.mono e2) r2 (p2.prim s2)⟩⟩
theorem me_cmp {op : CmpOp} {r : R2} {f : D → D → Res D} (ho : OpR X (compareOp op) r) (hp : Prim2 T r f) (ha : ME X T W a m1) (hb : ME X T W b m2) (hm : behindInMarks op b = false) : ME X T W (.Compare a [op] [b] pos) (opM f m1 m2) := by
  refine pe_imp (pe_cmpR ho ha hb hm) fun σ H Q ⟨A, F, G, β, s, p⟩ => ?_
  exact ⟨A, F, G, β, s, p.bindE fun d β1 v G1 H1 e1 s1 r1 p1 => ⟨A, F, G1, β1, s1, p1.bindE fun d2 β2 v2 G2 H2 e2 s2 r2 p2 => hp G2 H2 v v2 d d2 Q s2.gh (r1.mono e2) r2 (p2.prim s2)⟩⟩
theorem me_un {op : UnaryOp} {r : V → Hp → VK → Prop} {f : D → Res D} (ho : UnR X (unaryOp op) r) (hp : Prim1 T r f) (ha : ME X T W a m1) : ME X T W (.UnaryOp op a pos) (unM f m1) := by
  refine pe_imp (pe_un ho ha) fun σ H Q ⟨A, F, G, β, s, p⟩ => ?_
  exact ⟨A, F, G, β, s, p.bindE fun d β1 v G1 H1 e1 s1 r1 p1 => hp G1 H1 v d Q s1.gh r1 (p1.prim s1)⟩
theorem me_name {i : Nat} {x : Str} (hN : X.N[i]? = some x) (hv : Vis X.env.scope x) (hd : (x == ("__debug__" : Str)) = false := by decide) (hcd : (x == ("__classdict__" : Str)) = false := by decide) : ME X T W (.Name x pos) (nameM i) := by
  refine pe_imp (pe_var hN hv hd hcd) fun σ H Q ⟨A, F, G, β, s, p⟩ => ?_
  unfold nameM at p
  split at p
  · rename_i d hd
    obtain ⟨v, hv, r⟩ := s.im hd
    exact ⟨v, hv, p v G H (Ex.refl _) s r⟩
  · exact p.elim
theorem me_const {e : Expr} {v : V} {d : D} (h : PE X e (tC v)) (r : ∀ G, Rep T G d v) : ME X T W e (constM d) :=
  pe_imp h fun σ H Q ⟨A, F, G, β, s, p⟩ => p v G H (Ex.refl _) s (r G)
theorem me_int {i : Int} {j : Nat} : ME X T W (.Constant (.int i) j pos) (constM (.int i)) := me_const pe_int fun _ => rfl
theorem me_bl {i : Bool} {j : Nat} : ME X T W (.Constant (.bool i) j pos) (constM (.bl i)) := me_const pe_bl fun _ => rfl
theorem me_non {j : Nat} : ME X T W (.Constant .none j pos) (constM .non) := me_const pe_non fun _ => rfl
theorem me_str {x : Str} {j : Nat} : ME X T W (.Constant (.str x) j pos) (constM (.str x)) := me_const pe_str fun _ => rfl
theorem ma_nil : MA X T W [] nilM := pa_imp pa_nil fun σ H Q ⟨A, F, G, β, s, p⟩ => p [] G H (Ex.refl _) s rfl
theorem ma_cons {es : List Expr} {ms : MM (List D)} (ha : ME X T W a m1) (hr : MA X T W es ms) (hs : starEach (a :: es) X.env = (false, eval a X.env) :: starEach es X.env := by rfl) : MA X T W (a :: es) (consM m1 ms) := by
  refine pa_imp (pa_cons ha hr hs) fun σ H Q ⟨A, F, G, β, s, p⟩ => ?_
  exact ⟨A, F, G, β, s, p.bindE fun d β1 v G1 H1 e1 s1 r1 p1 => ⟨A, F, G1, β1, s1, p1.bindA fun d2 β2 v2 G2 H2 e2 s2 r2 p2 => p2 _ G2 H2 (Ex.refl _) s2 ⟨v, v2, rfl, r1.mono e2, r2⟩⟩⟩
end
end Fw
end

section
set_option Elab.async false
set_option linter.all false
set_option maxRecDepth 100000
set_option maxHeartbeats 4000000
set_option autoImplicit false
namespace Fw
open PySem L2 Evl
/-! ### slots stored -/
def setB (i : Nat) (b : B) (β : En) : Res En :=
  match β[i]? with
  | some (some c) => if c.pin = true then .bad else .ok (β.set i (some b))
  | some none => .ok (β.set i (some b))
  | none => .bad
section
variable {T : Tx} {A : Nat → Option Addr} {F G H G' H' : Hp} {σ : St} {β β' : En}
theorem setB_ok {i : Nat} {b : B} (h : setB i b β = .ok β') : i < β.length ∧ β' = β.set i (some b) ∧ ∀ c, β[i]? = some (some c) → c.pin = false := by
  unfold setB at h
  split at h
  · rename_i c hc
    split at h
    · cases h
    · rename_i hp
      cases h
      refine ⟨(List.getElem?_eq_some_iff.mp hc).1, rfl, fun c' e => ?_⟩
      rw [hc] at e
      cases e
      simpa using hp
  · rename_i hc
    cases h
    refine ⟨(List.getElem?_eq_some_iff.mp hc).1, rfl, fun c' e => ?_⟩
    rw [hc] at e
    cases e
  · cases h
/-- a slot gets a value whose binding holds in a state with the others kept -/
theorem SI.set {i : Nat} {b : B} {v : V} (s : SI T A F G H σ β) (hi : i < β.length) (hp : ∀ c, β[i]? = some (some c) → c.pin = false) (hb : b.pin = false) (r : BRep T F G H v b)
    (hs : b.own = true → ∀ (j : Nat) (c : B) (p : Addr), β[j]? = some (some c) → c.own = true → v = .ref p → σ[j]? = some (some (.ref p)) → False) : SI T A F G H (σ.set i (some v)) (β.set i (some b)) := by
  have hiσ : i < σ.length := Nat.lt_of_lt_of_le hi s.len
  have iv : ∀ w : V, (σ.set i (some v))[i]? = some (some w) → w = v := fun w h => by
    rw [List.getElem?_set_self hiσ] at h
    cases h; rfl
  refine ⟨s.fh, s.gh, s.dj, by simpa using s.len, fun j c h => ?_, fun j k c e p h1 h2 o1 o2 v1 v2 => ?_, fun j c h hpin => ?_, s.tb⟩
  · by_cases hj : j = i
    · subst hj
      rw [List.getElem?_set_self hi] at h
      cases h
      exact ⟨v, List.getElem?_set_self hiσ, r⟩
    · rw [List.getElem?_set_ne (Ne.symm hj)] at h
      rw [List.getElem?_set_ne (Ne.symm hj)]
      exact s.at' j c h
  · by_cases hj : j = i
    · by_cases hk : k = i
      · exact hj.trans hk.symm
      · subst hj
        rw [List.getElem?_set_self hi] at h1
        cases h1
        rw [List.getElem?_set_ne (Ne.symm hk)] at h2 v2
        exact (hs o1 k e p h2 o2 (iv _ v1).symm v2).elim
    · by_cases hk : k = i
      · subst hk
        rw [List.getElem?_set_self hi] at h2
        cases h2
        rw [List.getElem?_set_ne (Ne.symm hj)] at h1 v1
        exact (hs o2 j c p h1 o1 (iv _ v2).symm v1).elim
      · rw [List.getElem?_set_ne (Ne.symm hj)] at h1 v1
        rw [List.getElem?_set_ne (Ne.symm hk)] at h2 v2
        exact s.sep j k c e p h1 h2 o1 o2 v1 v2
  · by_cases hj : j = i
    · subst hj
      rw [List.getElem?_set_self hi] at h
      cases h
      rw [hb] at hpin
      cases hpin
    · rw [List.getElem?_set_ne (Ne.symm hj)] at h
      rw [List.getElem?_set_ne (Ne.symm hj)]
      exact s.pin j c h hpin
theorem SI.setIm {i : Nat} {d : D} {v : V} (s : SI T A F G H σ β) (h : setB i (.im d) β = .ok β') (r : Rep T G d v) : SI T A F G H (σ.set i (some v)) β' := by
  obtain ⟨h1, h2, h3⟩ := setB_ok h
  subst h2
  exact s.set h1 h3 rfl r (fun z => nomatch z)
/-- only what is known stays -/
theorem SI.drop {σ' : St} (s : SI T A F G H σ β) (hl : σ.length = σ'.length) (h : ∀ (i : Nat) (b : B), β'[i]? = some (some b) → β[i]? = some (some b) ∧ σ'[i]? = σ[i]?) (hl2 : β'.length ≤ σ'.length) : SI T A F G H σ' β' := by
  refine ⟨s.fh, s.gh, s.dj, hl2, fun j c e => ?_, fun j k c e p h1 h2 o1 o2 v1 v2 => ?_, fun j c e hpin => ?_, s.tb⟩
  · rw [(h j c e).2]
    exact s.at' j c (h j c e).1
  · rw [(h j c h1).2] at v1
    rw [(h k e h2).2] at v2
    exact s.sep j k c e p (h j c h1).1 (h k e h2).1 o1 o2 v1 v2
  · rw [(h j c e).2]
    exact s.pin j c (h j c e).1 hpin
end
/-! ### statements -/
def setM (i : Nat) (m : MM D) : MM Fl := fun β => (m β).bind fun p => (setB i (.im p.1) p.2).bind fun β' => .ok (.nx, β')
def retM (m : MM D) : MM Fl := fun β => (m β).bind fun p => .ok (.rt p.1, p.2)
def retN : MM Fl := fun β => .ok (.rt .non, β)
def passM : MM Fl := fun β => .ok (.nx, β)
def exprM (m : MM D) : MM Fl := fun β => (m β).bind fun p => .ok (.nx, p.2)
/-- one statement, then the rest -/
def seqM (m1 m2 : MM Fl) : MM Fl := fun β => (m1 β).bind fun p => match p.1 with
  | .nx => m2 p.2
  | f => .ok (f, p.2)
def ifM (c : MM Bool) (m1 m2 : MM Fl) : MM Fl := fun β => (c β).bind fun p => if p.1 = true then m1 p.2 else m2 p.2
section
variable {X : Cx} {T : Tx} {W : WishX} {e : Expr} {m : MM D} {pos : Pos}
theorem ms_set {i : Nat} {x : Str} {pos' : Pos} (hN : X.N.Nodup) (hi : X.N[i]? = some x) (hx : Loc X.env.scope x) (he : ME X T W e m) (hs : swapsWith e (some (.Name x pos')) pos.line X.env = pure false := by rfl) (hf : X.fn x = true ∨ X.env.scope.names.lookup x = some .local := by first | exact .inl rfl | exact .inr rfl | assumption) :
    MS X T W (.Assign [.Name x pos'] e pos) (setM i m) := by
  refine ps_imp (ps_set hN hi hx he hs hf) fun D σ H ⟨A, F, G, β, s, p⟩ => ?_
  refine ⟨A, F, G, β, s, p.bindE fun d β1 v G1 H1 e1 s1 r1 p1 => ?_⟩
  show D.nx (σ.set i (some v)) H1
  dsimp only at p1
  cases h : setB i (.im d) β1 with
  | ok β2 =>
    rw [h] at p1
    exact p1 _ G1 H1 (Ex.refl _) (s1.setIm h r1)
  | exc c fs =>
    unfold setB at h
    split at h <;> (try split at h) <;> cases h
  | bad =>
    rw [h] at p1
    exact p1.elim
theorem ms_ret (he : ME X T W e m) : MS X T W (.Return (some e) pos) (retM m) := by
  refine ps_imp (ps_ret he) fun D σ H ⟨A, F, G, β, s, p⟩ => ?_
  exact ⟨A, F, G, β, s, p.bindE fun d β1 v G1 H1 e1 s1 r1 p1 => p1 v σ G1 H1 (Ex.refl _) s1 r1⟩
theorem ms_retN : MS X T W (.Return none pos) retN := ps_imp ps_retN fun D σ H ⟨A, F, G, β, s, p⟩ => p .non σ G H (Ex.refl _) s rfl
theorem ms_pass : MS X T W (.Pass pos) passM := ps_imp ps_pass fun D σ H ⟨A, F, G, β, s, p⟩ => p σ G H (Ex.refl _) s
theorem ms_expr (he : ME X T W e m) (hs : swapsWith e none pos.line X.env = pure false := by rfl) : MS X T W (.Expr e pos) (exprM m) := by
  refine ps_imp (ps_expr he hs) fun D σ H ⟨A, F, G, β, s, p⟩ => ?_
  exact ⟨A, F, G, β, s, p.bindE fun d β1 v G1 H1 e1 s1 r1 p1 => p1 σ G1 H1 (Ex.refl _) s1⟩
theorem PostS.seq {A : Nat → Option Addr} {F G : Hp} {r : Res (Fl × En)} {m2 : MM Fl} {E : Ends} (h : PostS T A W F G (r.bind fun p => match p.1 with
  | .nx => m2 p.2
  | f => .ok (f, p.2)) E) : PostS T A W F G r { E with nx := tS T W m2 E } := by
  match r, h with
  | .ok (.nx, β'), h => exact fun σ' G' H' e s => ⟨A, F, G', β', s, PostS.mono e h⟩
  | .ok (.bk, β'), h => exact h
  | .ok (.ct, β'), h => exact h
  | .ok (.rt d, β'), h => exact h
  | .ok (.rf d, β'), h => exact h
  | .exc c fs, h => exact h
  | .bad, h => exact h
theorem mss_nil : MSs X T W [] passM := pss_imp pss_nil fun D σ H ⟨A, F, G, β, s, p⟩ => p σ G H (Ex.refl _) s
theorem mss_cons {st : Stmt} {rest : List Stmt} {m1 m2 : MM Fl} (h1 : MS X T W st m1) (h2 : MSs X T W rest m2) : MSs X T W (st :: rest) (seqM m1 m2) := by
  refine pss_imp (pss_cons h1 h2) fun D σ H ⟨A, F, G, β, s, p⟩ => ?_
  exact ⟨A, F, G, β, s, PostS.seq p⟩
theorem mss_one {st : Stmt} {m1 : MM Fl} (h1 : MS X T W st m1) : MSs X T W [st] m1 := pss_one h1
theorem ms_if {c : Expr} {mc : MM Bool} {a b : List Stmt} {m1 m2 : MM Fl} (hc : MT X T W c mc) (ha : MSs X T W a m1) (hb : MSs X T W b m2) : MS X T W (.If c a b pos) (ifM mc m1 m2) := by
  refine ps_imp (ps_if hc ha hb) fun D σ H ⟨A, F, G, β, s, p⟩ => ?_
  refine ⟨A, F, G, β, s, p.bindT fun k β1 G1 H1 e1 s1 p1 => ?_⟩
  cases k with
  | true => exact iteT ⟨A, F, G1, β1, s1, p1⟩
  | false => exact iteF ⟨A, F, G1, β1, s1, p1⟩
end
/-! ### tests -/
def truthM (m : MM D) : MM Bool := fun β => (m β).bind fun p => match p.1 with
  | .bl b => .ok (b, p.2)
  | _ => .bad
def notT (m : MM Bool) : MM Bool := fun β => (m β).bind fun p => .ok (!p.1, p.2)
def andT (m1 m2 : MM Bool) : MM Bool := fun β => (m1 β).bind fun p => if p.1 = true then m2 p.2 else .ok (false, p.2)
def orT (m1 m2 : MM Bool) : MM Bool := fun β => (m1 β).bind fun p => if p.1 = true then .ok (true, p.2) else m2 p.2
def andM (m1 m2 : MM D) : MM D := fun β => (m1 β).bind fun p => match p.1 with
  | .bl b => if b = true then m2 p.2 else .ok (.bl false, p.2)
  | _ => .bad
def orM (m1 m2 : MM D) : MM D := fun β => (m1 β).bind fun p => match p.1 with
  | .bl b => if b = true then .ok (.bl true, p.2) else m2 p.2
  | _ => .bad
def notM (m1 : MM D) : MM D := fun β => (m1 β).bind fun p => match p.1 with
  | .bl b => .ok (.bl (!b), p.2)
  | _ => .bad
def iteM (c : MM Bool) (m1 m2 : MM D) : MM D := fun β => (c β).bind fun p => if p.1 = true then m1 p.2 else m2 p.2
section
variable {X : Cx} {T : Tx} {W : WishX} {e a b c : Expr} {m m1 m2 : MM D} {t1 t2 : MM Bool} {pos : Pos} {rest : List Expr}
theorem tB_of {σ : St} {H : Hp} {Q : Bool → Hp → Prop} (h : tT T W (truthM m) σ H Q) : tM T W m σ H fun x H' => ∃ k, x = .bl k ∧ Q k H' := by
  obtain ⟨A, F, G, β, s, p⟩ := h
  refine ⟨A, F, G, β, s, p.bindE fun d β1 v G1 H1 e1 s1 r1 p1 => ?_⟩
  cases d <;> first | exact p1.elim | exact ⟨_, r1, p1 G1 H1 (Ex.refl _) s1⟩
theorem mt_cmp {op : CmpOp} {r : R2} {f : D → D → Res D} (ho : OpR X (compareOp op) r) (hp : Prim2 T r f) (ha : ME X T W a m1) (hb : ME X T W b m2) (hm : behindInMarks op b = false) : MT X T W (.Compare a [op] [b] pos) (truthM (opM f m1 m2)) := by
  refine pt_imp (pt_cmpR ho ha hb hm) fun σ H Q h => ?_
  obtain ⟨A, F, G, β, s, p⟩ := tB_of h
  exact ⟨A, F, G, β, s, p.bindE fun d β1 v G1 H1 e1 s1 r1 p1 => ⟨A, F, G1, β1, s1, p1.bindE fun d2 β2 v2 G2 H2 e2 s2 r2 p2 => hp G2 H2 v v2 d d2 _ s2.gh (r1.mono e2) r2 (p2.prim s2)⟩⟩
theorem mt_val (h : ME X T W e m) (he : ∀ whole, isTrue e X.env whole = (do let v ← whole; standAt e.pos; holding [v] (truthy v)) := by intro _; rfl) : MT X T W e (truthM m) := pt_imp (pt_val h he) fun σ H Q h => tB_of h
theorem mt_not (h : MT X T W a t1) : MT X T W (.UnaryOp .Not a pos) (notT t1) := by
  refine pt_imp (pt_not h) fun σ H Q ⟨A, F, G, β, s, p⟩ => ?_
  exact ⟨A, F, G, β, s, p.bindT fun k β1 G1 H1 e1 s1 p1 => p1 G1 H1 (Ex.refl _) s1⟩
abbrev MW (X : Cx) (T : Tx) (W : WishX) (e : Expr) (m : MM Bool) : Prop := PW X e (tT T W m)
theorem pw_imp {t t' : TT} (h : PW X e t) (k : ∀ σ H Q, t' σ H Q → t σ H Q) : PW X e t' := ⟨fun w pins s σ H Q I z => h.run w pins s σ H Q I (k σ H Q z)⟩
theorem mw_and1 (h : MT X T W a t1) : MW X T W (.BoolOp .And [a] pos) t1 := pw_and1 h
theorem mw_or1 (h : MT X T W a t1) : MW X T W (.BoolOp .Or [a] pos) t1 := pw_or1 h
theorem mw_and (ha : MT X T W a t1) (hb : MW X T W (.BoolOp .And (b :: rest) pos) t2) : MW X T W (.BoolOp .And (a :: b :: rest) pos) (andT t1 t2) := by
  refine pw_imp (pw_and ha hb) fun σ H Q ⟨A, F, G, β, s, p⟩ => ?_
  refine ⟨A, F, G, β, s, p.bindT fun k β1 G1 H1 e1 s1 p1 => ?_⟩
  cases k with
  | true => exact iteT ⟨A, F, G1, β1, s1, p1⟩
  | false => exact iteF (p1 G1 H1 (Ex.refl _) s1)
theorem mw_or (ha : MT X T W a t1) (hb : MW X T W (.BoolOp .Or (b :: rest) pos) t2) : MW X T W (.BoolOp .Or (a :: b :: rest) pos) (orT t1 t2) := by
  refine pw_imp (pw_or ha hb) fun σ H Q ⟨A, F, G, β, s, p⟩ => ?_
  refine ⟨A, F, G, β, s, p.bindT fun k β1 G1 H1 e1 s1 p1 => ?_⟩
  cases k with
  | true => exact iteT (p1 G1 H1 (Ex.refl _) s1)
  | false => exact iteF ⟨A, F, G1, β1, s1, p1⟩
theorem mt_w (h : MW X T W e t1) : MT X T W e t1 := PW.pt h
theorem me_one {op : BoolOp} (h : ME X T W a m) : ME X T W (.BoolOp op [a] pos) m := pe_one h
theorem me_and (ha : ME X T W a m1) (hb : ME X T W (.BoolOp .And (b :: rest) pos) m2) : ME X T W (.BoolOp .And (a :: b :: rest) pos) (andM m1 m2) := by
  refine pe_imp (pe_and ha hb) fun σ H Q ⟨A, F, G, β, s, p⟩ => ?_
  refine ⟨A, F, G, β, s, p.bindE fun d β1 v G1 H1 e1 s1 r1 p1 => ?_⟩
  cases d with
  | bl k =>
    refine ⟨k, r1, ?_⟩
    cases k with
    | true => exact iteT ⟨A, F, G1, β1, s1, p1⟩
    | false => exact iteF (p1 _ G1 H1 (Ex.refl _) s1 rfl)
  | _ => exact p1.elim
theorem me_or (ha : ME X T W a m1) (hb : ME X T W (.BoolOp .Or (b :: rest) pos) m2) : ME X T W (.BoolOp .Or (a :: b :: rest) pos) (orM m1 m2) := by
  refine pe_imp (pe_or ha hb) fun σ H Q ⟨A, F, G, β, s, p⟩ => ?_
  refine ⟨A, F, G, β, s, p.bindE fun d β1 v G1 H1 e1 s1 r1 p1 => ?_⟩
  cases d with
  | bl k =>
    refine ⟨k, r1, ?_⟩
    cases k with
    | true => exact iteT (p1 _ G1 H1 (Ex.refl _) s1 rfl)
    | false => exact iteF ⟨A, F, G1, β1, s1, p1⟩
  | _ => exact p1.elim
theorem me_not (ha : ME X T W a m1) : ME X T W (.UnaryOp .Not a pos) (notM m1) := by
  refine pe_imp (pe_not ha) fun σ H Q ⟨A, F, G, β, s, p⟩ => ?_
  refine ⟨A, F, G, β, s, p.bindE fun d β1 v G1 H1 e1 s1 r1 p1 => ?_⟩
  cases d with
  | bl k => exact ⟨k, r1, p1 _ G1 H1 (Ex.refl _) s1 rfl⟩
  | _ => exact p1.elim
theorem me_ifExp (hc : MT X T W c t1) (ha : ME X T W a m1) (hb : ME X T W b m2) : ME X T W (.IfExp c a b pos) (iteM t1 m1 m2) := by
  refine pe_imp (pe_ifExp hc ha hb) fun σ H Q ⟨A, F, G, β, s, p⟩ => ?_
  refine ⟨A, F, G, β, s, p.bindT fun k β1 G1 H1 e1 s1 p1 => ?_⟩
  cases k with
  | true => exact iteT ⟨A, F, G1, β1, s1, p1⟩
  | false => exact iteF ⟨A, F, G1, β1, s1, p1⟩
end
/-! ### lists and tuples made -/
def sz (n : Nat) (r : Res D) : Res D := if n ≤ 1000000 then r else .bad
theorem sz_ok {n : Nat} (h : n ≤ 1000000) : n ≤ sizeLine := Nat.le_trans h (by decide)
theorem RepL.length {T : Tx} {H : Hp} : ∀ {ds : List D} {vs : List V}, RepL T H ds vs → vs.length = ds.length
  | [], _, h => by
    have e : _ = [] := h
    rw [e]
    rfl
  | _ :: ds, _, h => by
    obtain ⟨v, r, e, _, t⟩ := h
    subst e
    simp [RepL.length t]
theorem RepL.get {T : Tx} {H : Hp} : ∀ {ds : List D} {vs : List V} {i : Nat} {d : D}, RepL T H ds vs → ds[i]? = some d → ∃ v, vs[i]? = some v ∧ Rep T H d v
  | [], _, _, _, _, e => by simp at e
  | _ :: _, _, 0, _, h, e => by
    obtain ⟨v, r, e1, a, _⟩ := h
    subst e1
    simp at e
    subst e
    exact ⟨v, rfl, a⟩
  | _ :: ds, _, i + 1, d, h, e => by
    obtain ⟨v, r, e1, _, t⟩ := h
    subst e1
    obtain ⟨w, h1, h2⟩ := RepL.get (i := i) t (by simpa using e)
    exact ⟨w, by simpa using h1, h2⟩
theorem RepL.append {T : Tx} {H : Hp} : ∀ {ds es : List D} {vs ws : List V}, RepL T H ds vs → RepL T H es ws → RepL T H (ds ++ es) (vs ++ ws)
  | [], _, _, _, h, k => by
    rw [show _ = _ from h]
    exact k
  | _ :: _, _, _, _, h, k => by
    obtain ⟨v, r, e, a, t⟩ := h
    subst e
    exact ⟨v, _, rfl, a, RepL.append t k⟩
theorem rep_tup {T : Tx} {G : Hp} {p : Addr} {o : Obj} {ds : List D} {vs : List V} (ho : o.dict = none) (e : Ex G (upd G p (.frz o (.tup vs)))) (r : RepL T G ds vs) : Rep T (upd G p (.frz o (.tup vs))) (.tup ds) (.ref p) := ⟨p, vs, rfl, .inl ⟨o, ho, upd_same⟩, r.mono e⟩
theorem rep_lst {T : Tx} {G : Hp} {p : Addr} {ds : List D} {vs : List V} (e : Ex G (upd G p (.lst vs))) (r : RepL T G ds vs) : Rep T (upd G p (.lst vs)) (.lst ds) (.ref p) := ⟨p, vs, rfl, upd_same, r.mono e⟩
/-- a new tuple, a new list of known things -/
theorem PostP.tup {T : Tx} {G H : Hp} {ds : List D} {vs : List V} {Q : VK} {p : Addr} {o : Obj} (ho : o.dict = none) (eg : Ex G H) (r : RepL T G ds vs) (h : PostP T G H (.ok (.tup ds)) Q) (hp : H p = none) : Q (.ref p) (upd H p (.frz o (.tup vs))) :=
  h _ _ _ (Grow.new eg hp) (rep_tup ho (Ex.new (fresh_back eg hp)) r)
theorem PostP.lst {T : Tx} {G H : Hp} {ds : List D} {vs : List V} {Q : VK} {p : Addr} (eg : Ex G H) (r : RepL T G ds vs) (h : PostP T G H (.ok (.lst ds)) Q) (hp : H p = none) : Q (.ref p) (upd H p (.lst vs)) :=
  h _ _ _ (Grow.new eg hp) (rep_lst (Ex.new (fresh_back eg hp)) r)
def tupF (ds : List D) : Res D := sz ds.length (.ok (.tup ds))
def lstF (ds : List D) : Res D := sz ds.length (.ok (.lst ds))
theorem sz_get {n : Nat} {r : Res D} {T : Tx} {G H : Hp} {Q : VK} (h : PostP T G H (sz n r) Q) : n ≤ 1000000 ∧ PostP T G H r Q := by
  unfold sz at h
  split at h
  · exact ⟨by assumption, h⟩
  · exact h.elim
section
variable {X : Cx} {T : Tx} {W : WishX} {es : List Expr} {m : MM (List D)} {pos : Pos}
/-- a tuple that is known to be plain -/
theorem pe_tupP {t : TA} {x1 : Nat} (h : PA X es t) : PE X (.Tuple es x1 pos) (fun σ H Q => t σ H fun xs H1 => xs.length ≤ sizeLine ∧ ∀ l o, H1 l = none → o.dict = none → Q (.ref l) (upd H1 l (.frz o (.tup xs)))) := by
  refine ⟨fun pins s σ H Q I hq => ?_⟩
  refine wpAny_Tuple_spliced (thn (h.run pos pins s σ H _ I hq) fun us s1 ⟨xs, H1, I1, r, z, q⟩ => ⟨by rw [← r.length]; exact z, ?_⟩)
  have hf : H1 s1.heap.objs.size = none := I1.hok.fresh (Nat.le_refl _)
  refine ⟨.ref s1.heap.objs.size, upd H1 s1.heap.objs.size (.frz { cls := .type "tuple", data := .seq us.toArray } (.tup xs)), I1.laid (t' := s1.toks) (fun b u e => Heap.get?_push_of_some _ e) (Nat.le_refl _) ?_, rfl, q _ _ hf rfl⟩
  exact ⟨Heap.get?_push_size _ rfl, z, us, r, ⟨_, Heap.get?_push_size _ rfl, rfl, _, rfl⟩⟩
theorem me_tup {x1 : Nat} (h : MA X T W es m) : ME X T W (.Tuple es x1 pos) (apM tupF m) := by
  refine pe_imp (pe_tupP h) fun σ H Q ⟨A, F, G, β, s, p⟩ => ?_
  refine ⟨A, F, G, β, s, p.bindA fun d β1 v G1 H1 e1 s1 r1 p1 => ?_⟩
  obtain ⟨z, q⟩ := sz_get (p1.prim s1)
  exact ⟨by rw [r1.length]; exact sz_ok z, fun l o hl ho => q.tup ho s1.gh r1 hl⟩
theorem me_lst (h : MA X T W es m) : ME X T W (.List es pos) (apM lstF m) := by
  refine pe_imp (pe_lst h) fun σ H Q ⟨A, F, G, β, s, p⟩ => ?_
  refine ⟨A, F, G, β, s, p.bindA fun d β1 v G1 H1 e1 s1 r1 p1 => ?_⟩
  obtain ⟨z, q⟩ := sz_get (p1.prim s1)
  exact ⟨by rw [r1.length]; exact sz_ok z, fun l hl => q.lst s1.gh r1 hl⟩
/-- a built-in by its name -/
theorem me_callB {x : Str} {id : String} {r : List V → Hp → VK → Prop} {f : List D → Res D} {p : Pos} {e : Expr} (hc : CallR X (.builtin id) r) (hp : PrimA T r f) (hg : Gl X x) (hm : X.mg x = none) (hv : bootBuiltins x = some (.builtin id)) (ha : MA X T W (e :: es) m) (hn : x ≠ "__name__" := by decide) (hdb : (x == ("__debug__" : Str)) = false := by decide)
    (he : starEach (e :: es) X.env = (false, eval e X.env) :: starEach es X.env := by rfl) (hpl : (backTo pos (starEach es X.env)).any (·.1) = false := by rfl) : ME X T W (.Call (.Name x p) (e :: es) [] pos) (apM f m) := by
  refine pe_imp (pe_callB hc hg hm hv ha hn hdb he hpl) fun σ H Q ⟨A, F, G, β, s, p⟩ => ?_
  exact ⟨A, F, G, β, s, p.bindA fun d β1 v G1 H1 e1 s1 r1 p1 => hp G1 H1 v d Q s1.gh r1 (p1.prim s1)⟩
theorem me_callTy {x : Str} {id : String} {r : List V → Hp → VK → Prop} {f : List D → Res D} {p : Pos} {e : Expr} (hc : CallR X (.type id) r) (hp : PrimA T r f) (hg : Gl X x) (hm : X.mg x = none) (hv : bootBuiltins x = some (.type id)) (ha : MA X T W (e :: es) m) (hn : x ≠ "__name__" := by decide) (hdb : (x == ("__debug__" : Str)) = false := by decide)
    (he : starEach (e :: es) X.env = (false, eval e X.env) :: starEach es X.env := by rfl) (hpl : (backTo pos (starEach es X.env)).any (·.1) = false := by rfl) : ME X T W (.Call (.Name x p) (e :: es) [] pos) (apM f m) := by
  refine pe_imp (pe_callTy hc hg hm hv ha hn hdb he hpl) fun σ H Q ⟨A, F, G, β, s, p⟩ => ?_
  exact ⟨A, F, G, β, s, p.bindA fun d β1 v G1 H1 e1 s1 r1 p1 => hp G1 H1 v d Q s1.gh r1 (p1.prim s1)⟩
end
end Fw
end

section
set_option Elab.async false
set_option linter.all false
set_option maxRecDepth 100000
set_option maxHeartbeats 4000000
set_option autoImplicit false
namespace Fw
open PySem L2 Evl
/-! ### what is walked -/
/-- J goes through ds, known in G -/
structure Yields (T : Tx) (G : Hp) (J : It) (ds : List D) : Prop where
  go : ∀ (i : Nat) (H : Hp), Ex G H → i < ds.length → J.go i H
  yld : ∀ (i : Nat) (d : D) (G1 H : Hp) (x : V) (H' : Hp), Ex G G1 → Ex G1 H → ds[i]? = some d → J.yld i H x H' → ∃ G2, Grow T G1 H G2 H' ∧ Rep T G2 d x
  stop : ∀ (i : Nat) (H : Hp), Ex G H → ds.length ≤ i → J.stop i H
def PostI (T : Tx) (A : Nat → Option Addr) (W : WishX) (F G : Hp) (σ : St) (r : Res (List D × En)) (R : It → Hp → Prop) : Prop :=
  match r with
  | .ok (ds, β') => ∀ J G' H', Ex G G' → SI T A F G' H' σ β' → Yields T G' J ds → R J H'
  | .exc c fs => PostX T W F G σ c fs
  | .bad => False
def tI (T : Tx) (W : WishX) (m : MM (List D)) : TI := fun σ H R => ∃ A F G β, SI T A F G H σ β ∧ PostI T A W F G σ (m β) R
abbrev MI (X : Cx) (T : Tx) (W : WishX) (tg iter : Expr) (m : MM (List D)) : Prop := PI X tg iter (tI T W m)
section
variable {T : Tx} {A : Nat → Option Addr} {W : WishX} {F G : Hp} {σ : St}
theorem PostI.mono {G' : Hp} {r : Res (List D × En)} {R : It → Hp → Prop} (e : Ex G G') (h : PostI T A W F G σ r R) : PostI T A W F G' σ r R := by
  match r, h with
  | .ok (d, β'), h => exact fun v G2 H2 e2 => h v G2 H2 (e.trans e2)
  | .exc c fs, h => exact PostX.mono e h
  | .bad, h => exact h
theorem PostI.bindE {r : Res (D × En)} {k : D × En → Res (List D × En)} {R : It → Hp → Prop} {Q1 : VK} (h : PostI T A W F G σ (r.bind k) R)
    (c : ∀ d β' v G' H', Ex G G' → SI T A F G' H' σ β' → Rep T G' d v → PostI T A W F G' σ (k (d, β')) R → Q1 v H') : PostE T A W F G σ r Q1 := by
  match r, h with
  | .ok (d, β'), h => exact fun v G2 H2 e2 s rp => c d β' v G2 H2 e2 s rp (PostI.mono e2 h)
  | .exc _ fs, h => exact h
  | .bad, h => exact h
theorem PostI.bindA {r : Res (List D × En)} {k : List D × En → Res (List D × En)} {R : It → Hp → Prop} {Q1 : List V → Hp → Prop} (h : PostI T A W F G σ (r.bind k) R)
    (c : ∀ d β' v G' H', Ex G G' → SI T A F G' H' σ β' → RepL T G' d v → PostI T A W F G' σ (k (d, β')) R → Q1 v H') : PostA T A W F G σ r Q1 := by
  match r, h with
  | .ok (d, β'), h => exact fun v G2 H2 e2 s rp => c d β' v G2 H2 e2 s rp (PostI.mono e2 h)
  | .exc _ fs, h => exact h
  | .bad, h => exact h
theorem yields_list {a : Addr} {xs : List V} {ds : List D} (hs : SqL T.K G a xs) (r : RepL T G ds xs) (uq : ∀ H ys, Ex G H → SqL T.K H a ys → ys = xs) : Yields T G (Itl T.K a) ds := by
  refine ⟨fun i H e hi => ?_, fun i d G1 H x H' e1 e2 hd hy => ?_, fun i H e hi => ?_⟩
  · have hi' : i < xs.length := by rw [r.length]; exact hi
    exact ⟨xs, xs[i], ex_l e hs, by simp [hi']⟩
  · obtain ⟨rfl, h⟩ := hy
    obtain ⟨v, h1, h2⟩ := r.get hd
    have q := h xs (ex_l (e1.trans e2) hs)
    rw [h1] at q
    cases q
    exact ⟨G1, Grow.refl e2, h2.mono e1⟩
  · exact ⟨xs, ex_l e hs, by rw [r.length]; exact hi⟩
theorem yields_tup {a : Addr} {xs : List V} {ds : List D} (hs : SqT T.K G a xs) (r : RepL T G ds xs) : Yields T G (Itt T.K a) ds := by
  refine ⟨fun i H e hi => ?_, fun i d G1 H x H' e1 e2 hd hy => ?_, fun i H e hi => ?_⟩
  · have hi' : i < xs.length := by rw [r.length]; exact hi
    exact ⟨xs, xs[i], ex_t e hs, by simp [hi']⟩
  · obtain ⟨rfl, h⟩ := hy
    obtain ⟨v, h1, h2⟩ := r.get hd
    have q := h xs (ex_t (e1.trans e2) hs)
    rw [h1] at q
    cases q
    exact ⟨G1, Grow.refl e2, h2.mono e1⟩
  · exact ⟨xs, ex_t e hs, by rw [r.length]; exact hi⟩
theorem yields_list' {a : Addr} {xs : List V} {ds : List D} (hs : SqL T.K G a xs) (r : RepL T G ds xs) : Yields T G (Itl T.K a) ds := by
  refine ⟨fun i H e hi => ?_, fun i d G1 H x H' e1 e2 hd hy => ?_, fun i H e hi => ?_⟩
  · have hi' : i < xs.length := by rw [r.length]; exact hi
    exact ⟨xs, xs[i], ex_l e hs, by simp [hi']⟩
  · obtain ⟨rfl, h⟩ := hy
    obtain ⟨v, h1, h2⟩ := r.get hd
    have q := h xs (ex_l (e1.trans e2) hs)
    rw [h1] at q
    cases q
    exact ⟨G1, Grow.refl e2, h2.mono e1⟩
  · exact ⟨xs, ex_l e hs, by rw [r.length]; exact hi⟩
theorem repL_ints : ∀ ns : List Int, RepL T G (ns.map D.int) (ns.map V.int)
  | [] => rfl
  | n :: r => ⟨.int n, _, rfl, rfl, repL_ints r⟩
/-- the signs of a text -/
def signs (x : Str) : List D := x.cps.toList.map fun c => D.str ⟨#[c]⟩
theorem yields_str {x : Str} : Yields T G (Its x) (signs x) := by
  refine ⟨fun i H e hi => ?_, fun i d G1 H v H' e1 e2 hd hy => ?_, fun i H e hi => ?_⟩
  · show i < x.cps.size
    simpa [signs] using hi
  · obtain ⟨rfl, c, hc, rfl⟩ := hy
    refine ⟨G1, Grow.refl e2, ?_⟩
    unfold signs at hd
    rw [List.getElem?_map] at hd
    rw [show x.cps.toList[i]? = some c by simpa using hc] at hd
    cases hd
    rfl
  · show x.cps.size ≤ i
    simpa [signs] using hi
/-- lo, lo + 1, .. -/
def rngD (lo : Int) (n : Nat) : List D := (List.range n).map fun i => D.int (lo + (i : Nat))
theorem yields_rng {lo : Int} {n : Nat} : Yields T G (Itr lo n) (rngD lo n) := by
  refine ⟨fun i H e hi => ?_, fun i d G1 H v H' e1 e2 hd hy => ?_, fun i H e hi => ?_⟩
  · show i < n
    simpa [rngD] using hi
  · obtain ⟨rfl, rfl⟩ := hy
    refine ⟨G1, Grow.refl e2, ?_⟩
    unfold rngD at hd
    rw [List.getElem?_map] at hd
    cases h : (List.range n)[i]? with
    | none => rw [h] at hd; cases hd
    | some j =>
      rw [h] at hd
      cases hd
      have : j = i := by
        rw [List.getElem?_range] at h
        · cases h; rfl
        · have := (List.getElem?_eq_some_iff.mp h).1
          simpa using this
      rw [this]
      rfl
  · show n ≤ i
    simpa [rngD] using hi
end
def iterM (m : MM D) : MM (List D) := fun β => (m β).bind fun p => match p.1 with
  | .lst ds => .ok (ds, p.2)
  | .tup ds => .ok (ds, p.2)
  | .str x => .ok (signs x, p.2)
  | .scr ns => .ok (ns.map D.int, p.2)
  | _ => .bad
def rngF1 : List D → Res (List D)
  | [.int j] => if j ≤ 1000000 ∧ -1000000 ≤ j then .ok (rngD 0 j.toNat) else .bad
  | _ => .bad
def rngF2 : List D → Res (List D)
  | [.int i, .int j] => if (j ≤ 1000000 ∧ -1000000 ≤ j) ∧ i ≤ 1000000 ∧ -1000000 ≤ i then .ok (rngD i (j - i).toNat) else .bad
  | _ => .bad
def itM (f : List D → Res (List D)) (m : MM (List D)) : MM (List D) := fun β => (m β).bind fun p => (f p.1).bind fun ds => .ok (ds, p.2)
section
variable {X : Cx} {T : Tx} {W : WishX} {tg l e a b : Expr} {m m1 : MM D} {ms : MM (List D)} {pos p : Pos}
theorem mi_seq (hK : X.K = T.K) (h : ME X T W l m) : MI X T W tg l (iterM m) := by
  obtain ⟨K, cl, xc⟩ := T
  cases hK
  refine ⟨fun pins s σ H R I ⟨A, F, G, β, si, po⟩ => ?_⟩
  unfold iterM at po
  cases hm : m β with
  | bad => rw [hm] at po; exact po.elim
  | exc c fs =>
    refine (pi_tup h).run pins s σ H R I ⟨A, F, G, β, si, ?_⟩
    rw [hm] at po ⊢
    exact po
  | ok q =>
    obtain ⟨d, β'⟩ := q
    rw [hm] at po
    cases d with
    | lst ds =>
      refine (pi_list h).run pins s σ H R I ⟨A, F, G, β, si, ?_⟩
      rw [hm]
      intro v G1 H1 e1 s1 r1
      obtain ⟨a, xs, rfl, sq, rl⟩ := r1
      exact ⟨a, rfl, ⟨xs, ex_l s1.gh (sq_of sq)⟩, po _ G1 H1 e1 s1 (yields_list' (sq_of sq) rl)⟩
    | scr ns =>
      refine (pi_list h).run pins s σ H R I ⟨A, F, G, β, si, ?_⟩
      rw [hm]
      intro v G1 H1 e1 s1 r1
      obtain ⟨a, rfl, sq⟩ := r1
      exact ⟨a, rfl, ⟨_, ex_l s1.gh sq⟩, po _ G1 H1 e1 s1 (yields_list' sq (repL_ints ns))⟩
    | tup ds =>
      refine (pi_tup h).run pins s σ H R I ⟨A, F, G, β, si, ?_⟩
      rw [hm]
      intro v G1 H1 e1 s1 r1
      obtain ⟨a, xs, rfl, sq, rl⟩ := r1
      exact ⟨a, rfl, ⟨xs, ex_t s1.gh sq.sq⟩, po _ G1 H1 e1 s1 (yields_tup sq.sq rl)⟩
    | str x =>
      refine (pi_str h).run pins s σ H R I ⟨A, F, G, β, si, ?_⟩
      rw [hm]
      intro v G1 H1 e1 s1 r1
      exact ⟨x, r1, po _ G1 H1 e1 s1 yields_str⟩
    | _ => exact po.elim
theorem mi_rng1 (hg : Gl X "range") (hm : X.mg "range" = none) (ha : MA X T W [a] ms) (hs : starEach [a] X.env = [(false, eval a X.env)] := by rfl) : MI X T W tg (.Call (.Name "range" p) [a] [] pos) (itM rngF1 ms) := by
  refine ⟨fun pins s σ H R I ⟨A, F, G, β, si, po⟩ => ?_⟩
  refine (pi_range1 hg hm ha hs).run pins s σ H R I ⟨A, F, G, β, si, PostI.bindA po fun ds β1 v G1 H1 e1 s1 r1 p1 => ?_⟩
  dsimp only at p1
  unfold rngF1 at p1
  split at p1
  · rename_i j
    obtain ⟨w, r, rfl, rw', rn⟩ := r1
    obtain rfl : r = [] := rn
    obtain rfl : w = .int j := rw'
    split at p1
    · rename_i hj
      exact ⟨j, rfl, by omega, by omega, p1 _ G1 H1 (Ex.refl _) s1 yields_rng⟩
    · exact p1.elim
  · exact p1.elim
theorem mi_rng2 (hg : Gl X "range") (hm : X.mg "range" = none) (ha : MA X T W [a, b] ms) (hs : starEach [a, b] X.env = [(false, eval a X.env), (false, eval b X.env)] := by rfl) (hs2 : starEach [b] X.env = [(false, eval b X.env)] := by rfl) : MI X T W tg (.Call (.Name "range" p) [a, b] [] pos) (itM rngF2 ms) := by
  refine ⟨fun pins s σ H R I ⟨A, F, G, β, si, po⟩ => ?_⟩
  refine (pi_range2 hg hm ha hs hs2).run pins s σ H R I ⟨A, F, G, β, si, PostI.bindA po fun ds β1 v G1 H1 e1 s1 r1 p1 => ?_⟩
  dsimp only at p1
  unfold rngF2 at p1
  split at p1
  · rename_i i j
    obtain ⟨w, r, rfl, rw', w2, r2, rfl, rw2, rn⟩ := r1
    obtain rfl : r2 = [] := rn
    obtain rfl : w = .int i := rw'
    obtain rfl : w2 = .int j := rw2
    split at p1
    · rename_i hj
      exact ⟨i, j, rfl, ⟨by omega, by omega, by omega, by omega⟩, p1 _ G1 H1 (Ex.refl _) s1 yields_rng⟩
    · exact p1.elim
  · exact p1.elim
end
/-! ### targets -/
abbrev GM := D → En → Res En
def Res.bindB {α β : Type} : Res α → (α → Res β) → Res β
  | .ok a, k => k a
  | _, _ => .bad
@[simp] theorem Res.bindB_ok {α β : Type} (a : α) (k : α → Res β) : (Res.ok a).bindB k = k a := rfl
@[simp] theorem Res.bindB_exc {α β : Type} (c : Str) (fs : List (Str × D)) (k : α → Res β) : (Res.exc c fs).bindB k = .bad := rfl
@[simp] theorem Res.bindB_bad {α β : Type} (k : α → Res β) : (Res.bad).bindB k = .bad := rfl
def PostG (T : Tx) (A : Nat → Option Addr) (F G : Hp) (vs : List Nat) (σ : St) (r : Res En) (Q : St → Hp → Prop) : Prop :=
  match r with
  | .ok β' => ∀ σ' G' H', Ex G G' → SI T A F G' H' σ' β' → wipe σ' vs = wipe σ vs → Q σ' H'
  | _ => False
def tG (T : Tx) (vs : List Nat) (g : GM) : TG := fun v σ H Q => ∃ A F G β d, SI T A F G H σ β ∧ Rep T G d v ∧ PostG T A F G vs σ (g d β) Q
abbrev MG (X : Cx) (T : Tx) (vs : List Nat) (tg : Expr) (g : GM) : Prop := PG X tg (tG T vs g)
theorem pg_imp {X : Cx} {tg : Expr} {t t' : TG} (h : PG X tg t) (k : ∀ v σ H Q, t' v σ H Q → t v σ H Q) : PG X tg t' := ⟨fun pins s σ H v u Q I r z => h.run pins s σ H v u Q I r (k v σ H Q z)⟩
theorem PostG.mono {T : Tx} {A : Nat → Option Addr} {F G G' : Hp} {vs : List Nat} {σ σ1 : St} {r : Res En} {Q : St → Hp → Prop} (e : Ex G G') (hw : wipe σ1 vs = wipe σ vs) (h : PostG T A F G vs σ r Q) : PostG T A F G' vs σ1 r Q := by
  match r, h with
  | .ok β', h => exact fun v G2 H2 e2 s w => h v G2 H2 (e.trans e2) s (w.trans hw)
theorem wipe_set {i : Nat} {v : Option V} : ∀ {vs : List Nat} {σ : St}, i ∈ vs → wipe (σ.set i v) vs = wipe σ vs := by
  intro vs σ hi
  apply List.ext_getElem?
  intro j
  by_cases hj : j ∈ vs
  · have key : ∀ τ : St, j < τ.length → (wipe τ vs)[j]? = some none := by
      intro τ hl
      cases h : (wipe τ vs)[j]? with
      | none =>
        have := List.getElem?_eq_none_iff.mp h
        rw [wipe_length] at this
        omega
      | some o =>
        cases o with
        | none => rfl
        | some x => exact absurd hj (wipe_some h).2
    by_cases hl : j < σ.length
    · rw [key σ hl, key _ (by simpa using hl)]
    · rw [List.getElem?_eq_none (by rw [wipe_length]; simpa using hl), List.getElem?_eq_none (by rw [wipe_length]; simpa using hl)]
  · rw [wipe_out hj, wipe_out hj]
    by_cases e : i = j
    · subst e
      exact absurd hi hj
    · rw [List.getElem?_set_ne e]
def gN (i : Nat) : GM := fun d β => setB i (.im d) β
theorem mg_name {X : Cx} {T : Tx} {vs : List Nat} {i : Nat} {x : Str} {pos : Pos} (hN : X.N.Nodup) (hi : X.N[i]? = some x) (hx : Loc X.env.scope x) (hv : i ∈ vs := by decide) (hf : X.fn x = true ∨ X.env.scope.names.lookup x = some .local := by first | exact .inl rfl | exact .inr rfl | assumption) : MG X T vs (.Name x pos) (gN i) := by
  refine pg_imp (pg_name hN hi hx hf) fun v σ H Q ⟨A, F, G, β, d, s, r, p⟩ => ?_
  show Q (σ.set i (some v)) H
  cases h : gN i d β with
  | ok β2 =>
    rw [h] at p
    exact p _ G H (Ex.refl _) (s.setIm h r) (wipe_set hv)
  | exc c fs => rw [h] at p; exact p.elim
  | bad => rw [h] at p; exact p.elim
/-- several targets -/
abbrev GsM := List D → En → Res En
def tGs (T : Tx) (vs : List Nat) (g : GsM) : TGs := fun v σ H Q => ∃ A F G β d, SI T A F G H σ β ∧ RepL T G d v ∧ PostG T A F G vs σ (g d β) Q
abbrev MGs (X : Cx) (T : Tx) (vs : List Nat) (tg : List Expr) (g : GsM) : Prop := PGs X tg (tGs T vs g)
theorem pgs_imp {X : Cx} {tg : List Expr} {t t' : TGs} (h : PGs X tg t) (k : ∀ v σ H Q, t' v σ H Q → t v σ H Q) : PGs X tg t' := ⟨fun pins s σ H v u Q I r z => h.run pins s σ H v u Q I r (k v σ H Q z)⟩
def gNl : GsM := fun ds β => match ds with
  | [] => .ok β
  | _ => .bad
def gCs (g : GM) (gs : GsM) : GsM := fun ds β => match ds with
  | d :: r => (g d β).bindB fun β' => gs r β'
  | _ => .bad
def gTp (gs : GsM) : GM := fun d β => match d with
  | .tup ds => gs ds β
  | _ => .bad
theorem mgs_nil {X : Cx} {T : Tx} {vs : List Nat} : MGs X T vs [] gNl := by
  refine pgs_imp pgs_nil fun v σ H Q ⟨A, F, G, β, d, s, r, p⟩ => ?_
  cases d with
  | nil =>
    obtain rfl : v = [] := r
    exact ⟨rfl, p σ G H (Ex.refl _) s rfl⟩
  | cons _ _ => exact p.elim
theorem mgs_cons {X : Cx} {T : Tx} {vs : List Nat} {e : Expr} {es : List Expr} {g : GM} {gs : GsM} (h1 : MG X T vs e g) (h2 : MGs X T vs es gs) (hs : (assignEach (e :: es) X.env).map (·.2) = assign e X.env :: (assignEach es X.env).map (·.2) := by rfl) : MGs X T vs (e :: es) (gCs g gs) := by
  refine pgs_imp (pgs_cons h1 h2 hs) fun v σ H Q ⟨A, F, G, β, d, s, r, p⟩ => ?_
  cases d with
  | nil => exact p.elim
  | cons d ds =>
    obtain ⟨w, ws, rfl, r1, r2⟩ := r
    refine ⟨w, ws, rfl, A, F, G, β, d, s, r1, ?_⟩
    unfold gCs at p
    dsimp only at p
    cases hg : g d β with
    | ok β1 =>
      rw [hg] at p
      intro σ' G' H' e1 s1 hw
      exact ⟨A, F, G', β1, ds, s1, r2.mono e1, PostG.mono e1 hw p⟩
    | exc _ _ => rw [hg] at p; exact p.elim
    | bad => rw [hg] at p; exact p.elim
theorem gNl_len (ds : List D) (β β' : En) (h : gNl ds β = .ok β') : ds.length = 0 := by
  cases ds with
  | nil => rfl
  | cons _ _ => cases h
theorem gCs_len {g : GM} {gs : GsM} {n : Nat} (h : ∀ ds β β', gs ds β = .ok β' → ds.length = n) (ds : List D) (β β' : En) (q : gCs g gs ds β = .ok β') : ds.length = n + 1 := by
  cases ds with
  | nil => cases q
  | cons d r =>
    unfold gCs at q
    dsimp only at q
    cases hg : g d β with
    | ok β1 => rw [hg] at q; simp [h _ _ _ q]
    | exc _ _ => rw [hg] at q; cases q
    | bad => rw [hg] at q; cases q
theorem mg_tup {X : Cx} {T : Tx} {vs : List Nat} {es : List Expr} {k : Nat} {gs : GsM} {n : Nat} {pos : Pos} (hK : X.K = T.K) (hc : X.calm = true) (h : MGs X T vs es gs) (hl : ∀ ds β β', gs ds β = .ok β' → ds.length = n) (hn : (assignEach es X.env).length = n := by rfl) (hst : (assignEach es X.env).findIdx? (·.1) = none := by rfl) : MG X T vs (.Tuple es k pos) (gTp gs) := by
  obtain ⟨K, cl, xc⟩ := T
  cases hK
  refine pg_imp (pg_tup hc h hn hst) fun v σ H Q ⟨A, F, G, β, d, s, r, p⟩ => ?_
  cases d with
  | tup ds =>
    obtain ⟨a, xs, rfl, sq, rl⟩ := r
    refine ⟨a, xs, rfl, ex_t s.gh sq.sq, ?_, A, F, G, β, ds, s, rl, p⟩
    rw [rl.length]
    cases hg : gs ds β with
    | ok β1 => exact hl _ _ _ hg
    | exc _ _ => rw [show gTp gs (.tup ds) β = gs ds β from rfl, hg] at p; exact p.elim
    | bad => rw [show gTp gs (.tup ds) β = gs ds β from rfl, hg] at p; exact p.elim
  | _ => exact p.elim
/-- a, b = e -/
def asgM (m : MM D) (g : GM) : MM Fl := fun β => (m β).bind fun p => (g p.1 p.2).bindB fun β' => .ok (.nx, β')
theorem ms_asg {X : Cx} {T : Tx} {W : WishX} {vs : List Nat} {tg e : Expr} {m : MM D} {g : GM} {pos : Pos} (he : ME X T W e m) (hg : MG X T vs tg g) (hs : swapsWithSole [tg] e pos.line X.env = pure false := by rfl) (hw : swappedStores [tg] e X.env = pure none := by rfl)
    (h1 : (assignEach [tg] X.env).map (·.2) = [assign tg X.env] := by rfl) : MS X T W (.Assign [tg] e pos) (asgM m g) := by
  refine ps_imp (ps_asg he hg hs hw h1) fun D σ H ⟨A, F, G, β, s, p⟩ => ?_
  refine ⟨A, F, G, β, s, p.bindE fun d β1 v G1 H1 e1 s1 r1 p1 => ⟨A, F, G1, β1, d, s1, r1, ?_⟩⟩
  dsimp only at p1
  cases h : g d β1 with
  | ok β2 => rw [h] at p1; exact fun σ' G' H' e s _ => p1 σ' G' H' e s
  | exc _ _ => rw [h] at p1; exact p1.elim
  | bad => rw [h] at p1; exact p1.elim
/-! ### for -/
def forM (g : GM) (body : MM Fl) : List D → MM Fl
  | [], β => .ok (.nx, β)
  | d :: r, β => (g d β).bindB fun β1 => (body β1).bind fun p => match p.1 with
    | .nx => forM g body r p.2
    | .ct => forM g body r p.2
    | .bk => .ok (.nx, p.2)
    | f => .ok (f, p.2)
def forSt (mi : MM (List D)) (g : GM) (body : MM Fl) : MM Fl := fun β => (mi β).bind fun p => forM g body p.1 p.2
section
variable {X : Cx} {T : Tx} {W : WishX} {tg iter : Expr} {mi : MM (List D)} {g : GM} {body : List Stmt} {mb : MM Fl} {pos : Pos} {vs : List Nat}
theorem PostS.bindI {A : Nat → Option Addr} {F G : Hp} {σ : St} {r : Res (List D × En)} {k : List D × En → Res (Fl × En)} {E : Ends} {Q1 : It → Hp → Prop} (h : PostS T A W F G (r.bind k) E)
    (c : ∀ ds β' J G' H', Ex G G' → SI T A F G' H' σ β' → Yields T G' J ds → PostS T A W F G' (k (ds, β')) E → Q1 J H') : PostI T A W F G σ r Q1 := by
  match r, h with
  | .ok (d, β'), h => exact fun J G2 H2 e2 s rp => c d β' J G2 H2 e2 s rp (PostS.mono e2 h)
  | .exc _ fs, h => exact h σ
  | .bad, h => exact h
theorem ms_for (hp : PassesOwn (model X.prog X.w) X.A X.env X.xe) (hc : X.calm = true) (hi : MI X T W tg iter mi) (hg : MG X T vs tg g) (hb : MSs X T W body mb) (hs : ∀ x, foldedSetIterable iter X.env x = pure x := by intro _; rfl) : MS X T W (.For tg iter body [] pos) (forSt mi g mb) := by
  refine ps_imp (ps_for hp hc hi hg hb hs) fun E σ H ⟨A, F, G, β, s, p⟩ => ?_
  refine ⟨A, F, G, β, s, PostS.bindI p fun ds β1 J G1 H1 e1 s1 y1 p1 => ?_⟩
  refine ⟨fun i n σ' H' => n = ds.length - i ∧ i ≤ ds.length ∧ ∃ G' β', Ex G1 G' ∧ SI T A F G' H' σ' β' ∧ PostS T A W F G' (forM g mb (ds.drop i) β') E, ⟨ds.length, by simp, Nat.zero_le _, G1, β1, Ex.refl _, s1, p1⟩, ?_⟩
  rintro i n σ' H' ⟨hn, hi', G', β', e', s', p'⟩
  by_cases hlt : i < ds.length
  · obtain ⟨d, hd⟩ : ∃ d, ds[i]? = some d := ⟨ds[i], by simp [hlt]⟩
    have hdrop : ds.drop i = d :: ds.drop (i + 1) := by
      obtain ⟨_, e⟩ := List.getElem?_eq_some_iff.mp hd
      rw [List.drop_eq_getElem_cons hlt, e]
    refine .inr ⟨y1.go i H' (e'.trans s'.gh) hlt, fun σ2 H2 => ∃ G2 β2, Ex G1 G2 ∧ SI T A F G2 H2 σ2 β2 ∧ PostS T A W F G2 (forM g mb (ds.drop (i + 1)) β2) E, fun σ2 H2 h => ⟨ds.length - (i + 1), by omega, rfl, hlt, h⟩, fun x H2 hy => ?_⟩
    obtain ⟨G2, gr, rx⟩ := y1.yld i d G' H' x H2 e' s'.gh hd hy
    refine ⟨A, F, G2, β', d, s'.grow gr, rx, ?_⟩
    rw [hdrop] at p'
    unfold forM at p'
    cases hgd : g d β' with
    | ok β2 =>
      rw [hgd] at p'
      intro σ3 G3 H3 e3 s3 _
      refine ⟨A, F, G3, β2, s3, ?_⟩
      have p3 := PostS.mono (gr.gg.trans e3) p'
      dsimp only [Res.bindB_ok] at p3
      have e03 : Ex G1 G3 := (e'.trans gr.gg).trans e3
      match mb β2, p3 with
      | .ok (.nx, β4), p3 => exact fun σ4 G4 H4 e4 s4 => ⟨G4, β4, e03.trans e4, s4, PostS.mono e4 p3⟩
      | .ok (.ct, β4), p3 => exact fun σ4 G4 H4 e4 s4 => ⟨G4, β4, e03.trans e4, s4, PostS.mono e4 p3⟩
      | .ok (.bk, β4), p3 => exact p3
      | .ok (.rt d4, β4), p3 => exact p3
      | .ok (.rf d4, β4), p3 => exact p3
      | .exc c fs, p3 => exact p3
      | .bad, p3 => exact p3
    | exc _ _ => rw [hgd] at p'; exact p'.elim
    | bad => rw [hgd] at p'; exact p'.elim
  · have e : i = ds.length := by omega
    subst e
    rw [List.drop_length] at p'
    exact .inl ⟨y1.stop _ H' (e'.trans s'.gh) (Nat.le_refl _), p' σ' G' H' (Ex.refl _) s'⟩
end
/-! ### while, so many turns at most -/
def whileM (c : MM Bool) (body : MM Fl) : Nat → MM Fl
  | 0, _ => .bad
  | n + 1, β => (c β).bind fun q => if q.1 = true then (body q.2).bind fun p => match p.1 with
      | .nx => whileM c body n p.2
      | .ct => whileM c body n p.2
      | .bk => .ok (.nx, p.2)
      | f => .ok (f, p.2)
    else .ok (.nx, q.2)
def whileSt (n : En → Nat) (c : MM Bool) (body : MM Fl) : MM Fl := fun β => whileM c body (n β) β
theorem ms_while {X : Cx} {T : Tx} {W : WishX} {c : Expr} {mc : MM Bool} {body : List Stmt} {mb : MM Fl} {pos : Pos} (n : En → Nat) (hp : PassesOwn (model X.prog X.w) X.A X.env X.xe) (hc : MT X T W c mc) (hb : MSs X T W body mb) : MS X T W (.While c body [] pos) (whileSt n mc mb) := by
  refine ps_imp (ps_while hp hc hb) fun E σ H ⟨A, F, G, β, s, p⟩ => ?_
  refine ⟨fun k σ' H' => ∃ G' β', Ex G G' ∧ SI T A F G' H' σ' β' ∧ PostS T A W F G' (whileM mc mb k β') E, ⟨n β, G, β, Ex.refl _, s, p⟩, ?_⟩
  rintro k σ' H' ⟨G', β', e', s', p'⟩
  cases k with
  | zero => exact p'.elim
  | succ k =>
    unfold whileM at p'
    refine ⟨A, F, G', β', s', p'.bindT fun b β1 G1 H1 e1 s1 p1 => ?_⟩
    cases b with
    | false => exact iteF (p1 σ' G1 H1 (Ex.refl _) s1)
    | true =>
      refine iteT ⟨fun σ2 H2 => ∃ G2 β2, Ex G G2 ∧ SI T A F G2 H2 σ2 β2 ∧ PostS T A W F G2 (whileM mc mb k β2) E, fun σ2 H2 h => ⟨k, Nat.lt_succ_self k, h⟩, A, F, G1, β1, s1, ?_⟩
      have e03 : Ex G G1 := e'.trans e1
      have p3 : PostS T A W F G1 ((mb β1).bind fun p => match p.1 with
        | .nx => whileM mc mb k p.2
        | .ct => whileM mc mb k p.2
        | .bk => .ok (.nx, p.2)
        | f => .ok (f, p.2)) E := p1
      match mb β1, p3 with
      | .ok (.nx, β4), p3 => exact fun σ4 G4 H4 e4 s4 => ⟨G4, β4, e03.trans e4, s4, PostS.mono e4 p3⟩
      | .ok (.ct, β4), p3 => exact fun σ4 G4 H4 e4 s4 => ⟨G4, β4, e03.trans e4, s4, PostS.mono e4 p3⟩
      | .ok (.bk, β4), p3 => exact p3
      | .ok (.rt d4, β4), p3 => exact p3
      | .ok (.rf d4, β4), p3 => exact p3
      | .exc c fs, p3 => exact p3
      | .bad, p3 => exact p3
end Fw
end

section
set_option Elab.async false
set_option linter.all false
set_option maxRecDepth 100000
set_option maxHeartbeats 4000000
set_option autoImplicit false
namespace Fw
open PySem L2 Evl
/-! ### a fresh list -/
def NotOwn (σ : St) (β : En) (p : Addr) : Prop := ∀ (j : Nat) (b : B), β[j]? = some (some b) → b.own = true → σ[j]? ≠ some (some (.ref p))
def PostF (T : Tx) (A : Nat → Option Addr) (W : WishX) (F G : Hp) (σ : St) (r : Res (List D × En)) (Q : VK) : Prop :=
  match r with
  | .ok (ds, β') => ∀ p xs G' H', Ex G G' → SI T A F G' H' σ β' → H' p = some (.lst xs) → G' p = none → F p = none → NotOwn σ β' p → RepL T G' ds xs → Q (.ref p) H'
  | .exc c fs => PostX T W F G σ c fs
  | .bad => False
def tF (T : Tx) (W : WishX) (m : MM (List D)) : TE := fun σ H Q => ∃ A F G β, SI T A F G H σ β ∧ PostF T A W F G σ (m β) Q
abbrev MF (X : Cx) (T : Tx) (W : WishX) (e : Expr) (m : MM (List D)) : Prop := PE X e (tF T W m)
section
variable {T : Tx} {A : Nat → Option Addr} {W : WishX} {F G H : Hp} {σ : St} {β : En}
theorem PostF.mono {G' : Hp} {r : Res (List D × En)} {Q : VK} (e : Ex G G') (h : PostF T A W F G σ r Q) : PostF T A W F G' σ r Q := by
  match r, h with
  | .ok (d, β'), h => exact fun p xs G2 H2 e2 => h p xs G2 H2 (e.trans e2)
  | .exc c fs, h => exact PostX.mono e h
  | .bad, h => exact h
theorem PostF.bindI {r : Res (List D × En)} {k : List D × En → Res (List D × En)} {Q : VK} {Q1 : It → Hp → Prop} (h : PostF T A W F G σ (r.bind k) Q)
    (c : ∀ ds β' J G' H', Ex G G' → SI T A F G' H' σ β' → Yields T G' J ds → PostF T A W F G' σ (k (ds, β')) Q → Q1 J H') : PostI T A W F G σ r Q1 := by
  match r, h with
  | .ok (d, β'), h => exact fun J G2 H2 e2 s rp => c d β' J G2 H2 e2 s rp (PostF.mono e2 h)
  | .exc _ fs, h => exact h
  | .bad, h => exact h
/-- what is one's own becomes known -/
theorem SI.freeze {p : Addr} {o : HO} (s : SI T A F G H σ β) (hp : H p = some o) (g0 : G p = none) (f0 : F p = none) (no : NotOwn σ β p) (n : ¬ TC o := by (intro z; rcases z with ⟨_, z⟩ | ⟨_, _, z⟩ <;> first | (cases z; done) | (unfold LamX.CodeO at z; cases z))) : SI T A F (upd G p o) H σ β := by
  have e : Ex G (upd G p o) := Ex.new g0
  refine ⟨s.fh, s.gh.put hp, s.dj.freeze hp f0 n, s.len, fun i b hb => ?_, s.sep, s.pin, s.tb⟩
  · obtain ⟨v, hv, r⟩ := s.at' i b hb
    refine ⟨v, hv, ?_⟩
    have hown : b.own = true → ∀ q, v = .ref q → q ≠ p := fun ho q hq z => by
      subst z
      subst hq
      exact no i b hb ho hv
    cases b with
    | im d => exact Rep.mono e r
    | ol q ds => obtain ⟨a, e1, g1, f1, r⟩ := r; exact ⟨a, e1, by rw [upd_ne (hown rfl a e1)]; exact g1, f1, r.mono e fun _ z _ => z⟩
    | od q ds => obtain ⟨a, e1, g1, f1, r⟩ := r; exact ⟨a, e1, by rw [upd_ne (hown rfl a e1)]; exact g1, f1, r.mono e fun _ z _ => z⟩
    | oi q c fs => obtain ⟨a, e1, g1, f1, r⟩ := r; exact ⟨a, e1, by rw [upd_ne (hown rfl a e1)]; exact g1, f1, r.mono e fun _ z _ => z⟩
    | fn q => exact r
/-- a new thing that nobody owns -/
theorem SI.fresh {p : Addr} {o : HO} (s : SI T A F G H σ β) (hp : H p = none) : SI T A F G (upd H p o) σ β ∧ G p = none ∧ F p = none ∧ NotOwn σ β p := by
  refine ⟨s.grow (Grow.side s.gh (Evl.Ex.new hp)), fresh_back s.gh hp, fresh_back s.fh hp, fun j b hb ho hv => ?_⟩
  obtain ⟨v, h1, r⟩ := s.at' j b hb
  rw [hv] at h1
  cases h1
  cases b with
  | im d => cases ho
  | ol q ds => obtain ⟨a, e1, g1, f1, r⟩ := r; cases e1; exact r.there hp
  | od q ds => obtain ⟨a, e1, g1, f1, r⟩ := r; cases e1; exact r.there hp
  | oi q c fs => obtain ⟨a, e1, g1, f1, r⟩ := r; cases e1; exact r.there hp
  | fn q => cases ho
/-- the frame made wider by a thing that nobody owns -/
theorem SI.wide {p : Addr} {o : HO} (s : SI T A F G H σ β) (hp : H p = some o) (g0 : G p = none) (no : NotOwn σ β p) (f0 : F p = none) (n : ¬ TC o := by (intro z; rcases z with ⟨_, z⟩ | ⟨_, _, z⟩ <;> first | (cases z; done) | (unfold LamX.CodeO at z; cases z))) : SI T A (upd F p o) G H σ β := by
  refine ⟨s.fh.put hp, s.gh, s.dj.wide g0 n, s.len, fun i b hb => ?_, s.sep, s.pin, tabs_wide s.tb f0⟩
  · obtain ⟨v, hv, r⟩ := s.at' i b hb
    refine ⟨v, hv, ?_⟩
    have hown : b.own = true → ∀ q, v = .ref q → q ≠ p := fun ho q hq z => by
      subst z
      subst hq
      exact no i b hb ho hv
    cases b with
    | im d => exact r
    | ol q ds => obtain ⟨a, e1, g1, f1, r⟩ := r; exact ⟨a, e1, g1, by rw [upd_ne (hown rfl a e1)]; exact f1, r⟩
    | od q ds => obtain ⟨a, e1, g1, f1, r⟩ := r; exact ⟨a, e1, g1, by rw [upd_ne (hown rfl a e1)]; exact f1, r⟩
    | oi q c fs => obtain ⟨a, e1, g1, f1, r⟩ := r; exact ⟨a, e1, g1, by rw [upd_ne (hown rfl a e1)]; exact f1, r⟩
    | fn q => exact r
/-- .. narrower again -/
theorem SI.narrow {p : Addr} {o : HO} (s : SI T A (upd F p o) G H σ β) (f0 : F p = none) (n : ¬ TC o := by (intro z; rcases z with ⟨_, z⟩ | ⟨_, _, z⟩ <;> first | (cases z; done) | (unfold LamX.CodeO at z; cases z))) : SI T A F G H σ β ∧ H p = some o ∧ G p = none ∧ NotOwn σ β p := by
  have sub : Ex F (upd F p o) := Ex.new f0
  refine ⟨⟨sub.trans s.fh, s.gh, s.dj.narrow f0, s.len, fun i b hb => ?_, s.sep, s.pin, tabs_narrow s.tb n⟩, s.fh.at' p o upd_same (nt_of n), s.dj p (by rw [upd_same]; exact fun z => nomatch z), fun j b hb ho hv => ?_⟩
  · obtain ⟨v, hv, r⟩ := s.at' i b hb
    refine ⟨v, hv, ?_⟩
    cases b with
    | im d => exact r
    | ol q ds => obtain ⟨a, e1, g1, f1, r⟩ := r; exact ⟨a, e1, g1, fresh_back sub f1, r⟩
    | od q ds => obtain ⟨a, e1, g1, f1, r⟩ := r; exact ⟨a, e1, g1, fresh_back sub f1, r⟩
    | oi q c fs => obtain ⟨a, e1, g1, f1, r⟩ := r; exact ⟨a, e1, g1, fresh_back sub f1, r⟩
    | fn q => exact r
  · obtain ⟨v, h1, r⟩ := s.at' j b hb
    rw [hv] at h1
    cases h1
    cases b with
    | im d => cases ho
    | ol q ds => obtain ⟨a, e1, g1, f1, r⟩ := r; cases e1; rw [upd_same] at f1; cases f1
    | od q ds => obtain ⟨a, e1, g1, f1, r⟩ := r; cases e1; rw [upd_same] at f1; cases f1
    | oi q c fs => obtain ⟨a, e1, g1, f1, r⟩ := r; cases e1; rw [upd_same] at f1; cases f1
    | fn q => cases ho
/-- a thing that nobody owns, in no frame, is changed -/
theorem SI.other {p : Addr} {o o' : HO} (s : SI T A F G H σ β) (hp : H p = some o') (g0 : G p = none) (f0 : F p = none) (no : NotOwn σ β p) (n : ¬ TC o' := by (intro z; rcases z with ⟨_, z⟩ | ⟨_, _, z⟩ <;> first | (cases z; done) | (unfold LamX.CodeO at z; cases z))) : SI T A F G (upd H p o) σ β := by
  have ne : ∀ {K : Hp} {a : Addr} {u : HO}, K a = some u → K p = none → a ≠ p := fun h1 h2 => ne_of_none h1 h2
  refine ⟨s.fh.mut f0, s.gh.mut g0, s.dj.other hp n, s.len, fun i b hb => ?_, s.sep, s.pin, s.tb⟩
  obtain ⟨v, hv, r⟩ := s.at' i b hb
  refine ⟨v, hv, ?_⟩
  have hown : b.own = true → ∀ q, v = .ref q → q ≠ p := fun ho q hq z => by
    subst z
    subst hq
    exact no i b hb ho hv
  cases b with
  | im d => exact r
  | ol q ds => obtain ⟨a, e1, g1, f1, r⟩ := r; exact ⟨a, e1, g1, f1, r.mono (Ex.refl _) fun _ z _ => by rw [upd_ne (hown rfl a e1)]; exact z⟩
  | od q ds => obtain ⟨a, e1, g1, f1, r⟩ := r; exact ⟨a, e1, g1, f1, r.mono (Ex.refl _) fun _ z _ => by rw [upd_ne (hown rfl a e1)]; exact z⟩
  | oi q c fs => obtain ⟨a, e1, g1, f1, r⟩ := r; exact ⟨a, e1, g1, f1, r.mono (Ex.refl _) fun _ z _ => by rw [upd_ne (hown rfl a e1)]; exact z⟩
  | fn q => exact r
end
/-- a fresh list as data -/
def frM (m : MM (List D)) : MM D := fun β => (m β).bind fun p => .ok (.lst p.1, p.2)
theorem me_of_mf {X : Cx} {T : Tx} {W : WishX} {e : Expr} {m : MM (List D)} (h : MF X T W e m) : ME X T W e (frM m) := by
  refine pe_imp h fun σ H Q ⟨A, F, G, β, s, p⟩ => ⟨A, F, G, β, s, ?_⟩
  have p' : PostE T A W F G σ ((m β).bind fun p => .ok (.lst p.1, p.2)) Q := p
  match m β, p' with
  | .ok (ds, β'), p' => exact fun a xs G' H' e s' h1 h2 h3 h4 r => p' _ (upd G' a (.lst xs)) H' (e.trans (Ex.new h2)) (s'.freeze h1 h2 h3 h4) (rep_lst (Ex.new h2) r)
  | .exc c fs, p' => exact p'
  | .bad, p' => exact p'
/-- [a, b, ..] -/
def lszM (m : MM (List D)) : MM (List D) := fun β => (m β).bind fun p => if p.1.length ≤ 1000000 then .ok p else .bad
theorem mf_lst {X : Cx} {T : Tx} {W : WishX} {es : List Expr} {m : MM (List D)} {pos : Pos} (h : MA X T W es m) : MF X T W (.List es pos) (lszM m) := by
  refine pe_imp (pe_lst h) fun σ H Q ⟨A, F, G, β, s, p⟩ => ⟨A, F, G, β, s, ?_⟩
  have p' : PostF T A W F G σ ((m β).bind fun p => if p.1.length ≤ 1000000 then .ok p else .bad) Q := p
  match m β, p' with
  | .ok (ds, β'), p' =>
    intro vs G' H' e s' r
    dsimp only [Res.bind_ok] at p'
    split at p'
    · rename_i z
      refine ⟨by rw [r.length]; exact sz_ok z, fun l hl => ?_⟩
      obtain ⟨s2, g0, f0, no⟩ := s'.fresh (o := .lst vs) hl
      exact p' l vs G' _ e s2 upd_same g0 f0 no r
    · exact p'.elim
  | .exc c fs, p' => exact p'
  | .bad, p' => exact p'
/-! ### comprehensions -/
def wipeB (β : En) : List Nat → En
  | [] => β
  | i :: r => (wipeB β r).set i none
theorem wipeB_len (β : En) : ∀ vs, (wipeB β vs).length = β.length
  | [] => rfl
  | i :: r => by simp [wipeB, wipeB_len β r]
theorem wipeB_some {β : En} {i : Nat} {b : B} : ∀ {vs : List Nat}, (wipeB β vs)[i]? = some (some b) → β[i]? = some (some b) ∧ i ∉ vs
  | [], h => ⟨h, by simp⟩
  | j :: r, h => by
    unfold wipeB at h
    by_cases e : j = i
    · subst e
      by_cases hl : j < (wipeB β r).length
      · rw [List.getElem?_set_self hl] at h; cases h
      · rw [List.getElem?_eq_none (by simpa using hl)] at h; cases h
    · rw [List.getElem?_set_ne e] at h
      obtain ⟨h1, h2⟩ := wipeB_some h
      exact ⟨h1, by simp [h2, Ne.symm e]⟩
theorem SI.wipe {T : Tx} {A : Nat → Option Addr} {F G H : Hp} {σ : St} {β : En} (s : SI T A F G H σ β) (vs : List Nat) : SI T A F G H (L2.wipe σ vs) (wipeB β vs) :=
  s.drop (by rw [wipe_length]) (fun i b h => ⟨(wipeB_some h).1, wipe_out (wipeB_some h).2⟩) (by rw [wipeB_len, wipe_length]; exact s.len)
theorem SI.unwipe {T : Tx} {A : Nat → Option Addr} {F G H : Hp} {σ : St} {β : En} {vs : List Nat} (s : SI T A F G H (L2.wipe σ vs) (wipeB β vs)) : SI T A F G H σ (wipeB β vs) :=
  s.drop (by rw [wipe_length]) (fun i b h => ⟨h, (wipe_out (wipeB_some h).2).symm⟩) (by have := s.len; rw [wipe_length] at this; exact this)
theorem wipe_wipe {σ : St} {vs : List Nat} : L2.wipe (L2.wipe σ vs) vs = L2.wipe σ vs := by
  apply List.ext_getElem?
  intro j
  by_cases hj : j ∈ vs
  · have key : ∀ τ : St, j < τ.length → (L2.wipe τ vs)[j]? = some none := by
      intro τ hl
      cases h : (L2.wipe τ vs)[j]? with
      | none =>
        have := List.getElem?_eq_none_iff.mp h
        rw [wipe_length] at this
        omega
      | some o =>
        cases o with
        | none => rfl
        | some x => exact absurd hj (wipe_some h).2
    by_cases hl : j < σ.length
    · rw [key σ hl, key _ (by rw [wipe_length]; exact hl)]
    · rw [List.getElem?_eq_none (by rw [wipe_length, wipe_length]; simpa using hl), List.getElem?_eq_none (by rw [wipe_length]; simpa using hl)]
  · rw [wipe_out hj]
theorem wipe_wipe_eq {σ τ : St} {vs : List Nat} (h : L2.wipe σ vs = L2.wipe τ vs) {i : Nat} (hi : i ∉ vs) : σ[i]? = τ[i]? := by
  have := congrArg (fun l : St => l[i]?) h
  rwa [wipe_out hi, wipe_out hi] at this
def lcLoop (vs : List Nat) (g : GM) (tt : MM Bool) (te : MM D) : List D → List D → En → Res (List D × En)
  | [], acc, β => .ok (acc, β)
  | d :: r, acc, β => (g d β).bindB fun β1 => (tt β1).bindB fun p =>
    if p.1 = true then (te p.2).bindB fun q => lcLoop vs g tt te r (acc ++ [q.1]) (wipeB q.2 vs) else lcLoop vs g tt te r acc (wipeB p.2 vs)
def lcM (mi : MM (List D)) (vs : List Nat) (g : GM) (tt : MM Bool) (te : MM D) : MM (List D) := fun β => (mi β).bind fun p =>
  if p.1.length ≤ 1000000 then lcLoop vs g tt te p.1 [] (wipeB p.2 vs) else .bad
def W0 : WishX := fun _ _ _ _ => False
def yesM : MM Bool := fun β => .ok (true, β)
abbrev MTs (X : Cx) (T : Tx) (W : WishX) (es : List Expr) (m : MM Bool) : Prop := PTs X es (tT T W m)
theorem mts_nil {X : Cx} {T : Tx} {W : WishX} : MTs X T W [] yesM := ⟨fun pins s σ H Q I ⟨A, F, G, β, si, p⟩ => pts_nil.run pins s σ H Q I (p G H (Ex.refl _) si)⟩
theorem mts_one {X : Cx} {T : Tx} {W : WishX} {c : Expr} {m : MM Bool} (h : MT X T W c m) : MTs X T W [c] m := pts_one h
theorem lc_sound {T : Tx} {W : WishX} {mi : MM (List D)} {vs : List Nat} {g : GM} {tt : MM Bool} {te : MM D} {σ : St} {H : Hp} {Q : VK} (h : tF T W (lcM mi vs g tt te) σ H Q) : tLc (tI T W mi) (tG T vs g) (tT T W0 tt) (tM T W0 te) vs σ H Q := by
  obtain ⟨A, F, G, β, s, p⟩ := h
  refine ⟨A, F, G, β, s, PostF.bindI p fun ds β1 J G1 H1 e1 s1 y1 p1 => ?_⟩
  dsimp only at p1
  split at p1
  rotate_left
  · exact p1.elim
  rename_i hz
  intro Dl hD
  obtain ⟨s2, g0, f0, no⟩ := s1.fresh (o := .lst []) hD
  refine ⟨fun i n H' => n = ds.length - i ∧ i ≤ ds.length ∧ ∃ G' β' acc xs, Ex G1 G' ∧ SI T A F G' H' (L2.wipe σ vs) (wipeB β' vs) ∧ H' Dl = some (.lst xs) ∧ G' Dl = none ∧ NotOwn (L2.wipe σ vs) (wipeB β' vs) Dl ∧ RepL T G' acc xs ∧ acc.length ≤ i ∧ PostF T A W F G' σ (lcLoop vs g tt te (ds.drop i) acc (wipeB β' vs)) Q,
    ⟨ds.length, by simp, Nat.zero_le _, G1, β1, [], [], Ex.refl _, s2.wipe vs, upd_same, g0, fun j b hb ho hv => ?_, rfl, Nat.le_refl _, p1⟩, ?_⟩
  · obtain ⟨h1, h2⟩ := wipeB_some hb
    rw [wipe_out h2] at hv
    exact no j b h1 ho hv
  rintro i n H' ⟨hn, hi', G', β', acc, xs, e', s', hx, gx, nx, rl, la, p'⟩
  by_cases hlt : i < ds.length
  · obtain ⟨d, hd⟩ : ∃ d, ds[i]? = some d := ⟨ds[i], by simp [hlt]⟩
    have hdrop : ds.drop i = d :: ds.drop (i + 1) := by
      obtain ⟨_, e⟩ := List.getElem?_eq_some_iff.mp hd
      rw [List.drop_eq_getElem_cons hlt, e]
    refine .inr ⟨y1.go i H' (e'.trans s'.gh) hlt, fun H2 => ∃ G' β' acc xs, Ex G1 G' ∧ SI T A F G' H2 (L2.wipe σ vs) (wipeB β' vs) ∧ H2 Dl = some (.lst xs) ∧ G' Dl = none ∧ NotOwn (L2.wipe σ vs) (wipeB β' vs) Dl ∧ RepL T G' acc xs ∧ acc.length ≤ i + 1 ∧ PostF T A W F G' σ (lcLoop vs g tt te (ds.drop (i + 1)) acc (wipeB β' vs)) Q, fun H2 h => ⟨ds.length - (i + 1), by omega, rfl, hlt, h⟩, fun x H2 hy => ?_⟩
    obtain ⟨G2, gr, rx⟩ := y1.yld i d G' H' x H2 e' s'.gh hd hy
    rw [hdrop] at p'
    unfold lcLoop at p'
    have s2 := (s'.grow gr).wide (gr.hh _ _ hx) (gr.ap Dl (by rw [hx]; exact fun z => nomatch z) gx) nx f0
    refine ⟨A, upd F Dl (.lst xs), G2, wipeB β' vs, d, s2, rx, ?_⟩
    cases hgd : g d (wipeB β' vs) with
    | exc _ _ => rw [hgd] at p'; exact p'.elim
    | bad => rw [hgd] at p'; exact p'.elim
    | ok β2 =>
      rw [hgd] at p'
      dsimp only [Res.bindB_ok] at p'
      intro σ3 G3 H3 e3 s3 hw
      refine ⟨by rw [hw]; exact wipe_wipe, ?_⟩
      refine ⟨A, upd F Dl (.lst xs), G3, β2, s3, ?_⟩
      cases ht : tt β2 with
      | exc _ _ => rw [ht] at p'; exact p'.elim
      | bad => rw [ht] at p'; exact p'.elim
      | ok q =>
        obtain ⟨k, β3⟩ := q
        rw [ht] at p'
        dsimp only [Res.bindB_ok] at p'
        intro G4 H4 e4 s4
        have e14 : Ex G1 G4 := ((e'.trans gr.gg).trans e3).trans e4
        have e'4 : Ex G' G4 := (gr.gg.trans e3).trans e4
        have hw' : L2.wipe σ3 vs = L2.wipe σ vs := by rw [hw]; exact wipe_wipe
        cases k with
        | false =>
          refine iteF ?_
          obtain ⟨s5, h5, g5, n5⟩ := s4.narrow f0
          refine ⟨G4, β3, acc, xs, e14, hw' ▸ s5.wipe vs, h5, g5, fun j b hb ho hv => ?_, rl.mono e'4, by omega, PostF.mono e'4 p'⟩
          obtain ⟨h1, h2⟩ := wipeB_some hb
          rw [wipe_out h2, ← wipe_wipe_eq hw' h2] at hv
          exact n5 j b h1 ho hv
        | true =>
          refine iteT ?_
          refine ⟨A, upd F Dl (.lst xs), G4, β3, s4, ?_⟩
          simp only [if_true] at p'
          cases he : te β3 with
          | exc _ _ => rw [he] at p'; exact p'.elim
          | bad => rw [he] at p'; exact p'.elim
          | ok q =>
            obtain ⟨d5, β5⟩ := q
            rw [he] at p'
            dsimp only [Res.bindB_ok] at p'
            intro v5 G5 H5 e5 s5 r5
            obtain ⟨s6, h6, g6, n6⟩ := s5.narrow f0
            have e'5 : Ex G' G5 := e'4.trans e5
            have n7 : NotOwn (L2.wipe σ vs) (wipeB β5 vs) Dl := fun j b hb ho hv => by
              obtain ⟨h1, h2⟩ := wipeB_some hb
              rw [wipe_out h2, ← wipe_wipe_eq hw' h2] at hv
              exact n6 j b h1 ho hv
            refine ⟨xs, h6, ?_, G5, β5, acc ++ [d5], xs ++ [v5], e14.trans e5, (hw' ▸ s6.wipe vs).other h6 g6 f0 n7, upd_same, g6, n7, (rl.mono e'5).append ⟨v5, [], rfl, r5, rfl⟩, by simp; omega, PostF.mono e'5 p'⟩
            rw [rl.length]
            exact Nat.lt_of_le_of_lt la (Nat.lt_of_lt_of_le hlt (sz_ok hz))
  · have e : i = ds.length := by omega
    subst e
    rw [List.drop_length] at p'
    refine .inl ⟨y1.stop _ H' (e'.trans s'.gh) (Nat.le_refl _), ?_⟩
    refine p' Dl xs G' H' (Ex.refl _) s'.unwipe hx gx f0 (fun j b hb ho hv => ?_) rl
    obtain ⟨h1, h2⟩ := wipeB_some hb
    exact nx j b hb ho (by rw [wipe_out h2]; exact hv)
end Fw
end

section
set_option Elab.async false
set_option linter.all false
set_option maxRecDepth 100000
set_option maxHeartbeats 4000000
set_option autoImplicit false
namespace Fw
open PySem L2 Evl
section
variable {X : Cx} {T : Tx} {W : WishX} {tg iter elt : Expr} {ifs : List Expr} {scope : Scope} {own : List (Str × Nat)} {mi : MM (List D)} {g : GM} {tt : MM Bool} {te : MM D} {pos : Pos}
theorem mf_lc (hc : X.calm = true) (hN : X.N.Nodup) (hi : MI X T W tg iter mi) (ok : BlkOk X.N X.env.scope scope own)
    (hg : ∀ (s : Shared) (H : Hp) (C : Addr) (cl : List (Str × Addr)) (fp : List Addr), MG (X.blk s H scope (compEnvC scope cl C X.env) fp) T (own.map (·.2)) tg g) (ht : ∀ (s : Shared) (H : Hp) (C : Addr) (cl : List (Str × Addr)) (fp : List Addr), MTs (X.blk s H scope (compEnvC scope cl C X.env) fp) T W0 ifs tt)
    (he : ∀ (s : Shared) (H : Hp) (C : Addr) (cl : List (Str × Addr)) (fp : List Addr), ME (X.blk s H scope (compEnvC scope cl C X.env) fp) T W0 elt te) (hs : ∀ x, foldedSetIterable iter X.env x = pure x := by intro _; rfl) :
    MF X T W (.ListComp elt [⟨tg, iter, ifs, 0⟩] scope pos) (lcM mi (own.map (·.2)) g tt te) :=
  pe_imp (pe_lc hc hN hi ok hg ht he hs) fun σ H Q h => lc_sound h
end
/-! ### a slot gets a fresh list: as data, as one's own -/
def ownM (i : Nat) (m : MM (List D)) : MM Fl := fun β => (m β).bind fun p => (setB i (.ol false p.1) p.2).bindB fun β' => .ok (.nx, β')
section
variable {T : Tx} {W : WishX} {m : MM (List D)} {i : Nat}
theorem own_sound {E : Ends} {σ : St} {H : Hp} (h : tS T W (ownM i m) E σ H) : tF T W m σ H fun v H1 => E.nx (σ.set i (some v)) H1 := by
  obtain ⟨A, F, G, β, s, p⟩ := h
  refine ⟨A, F, G, β, s, ?_⟩
  unfold ownM at p
  match m β, p with
  | .ok (ds, β'), p =>
    intro a xs G' H' e s' h1 h2 h3 h4 r
    dsimp only [Res.bind_ok] at p
    cases hb : setB i (.ol false ds) β' with
    | ok β2 =>
      rw [hb] at p
      obtain ⟨i1, i2, i3⟩ := setB_ok hb
      subst i2
      exact p _ G' H' e (s'.set i1 i3 rfl ⟨a, rfl, h2, h3, xs, h1, r⟩ fun _ j c q hj ho hq hv => by cases hq; exact h4 j c hj ho hv)
    | exc _ _ => rw [hb] at p; exact p.elim
    | bad => rw [hb] at p; exact p.elim
  | .exc c fs, p => exact p σ
  | .bad, p => exact p.elim
theorem setF_sound {E : Ends} {σ : St} {H : Hp} (h : tS T W (setM i (frM m)) E σ H) : tF T W m σ H fun v H1 => E.nx (σ.set i (some v)) H1 := by
  obtain ⟨A, F, G, β, s, p⟩ := h
  refine ⟨A, F, G, β, s, ?_⟩
  unfold setM frM at p
  match m β, p with
  | .ok (ds, β'), p =>
    intro a xs G' H' e s' h1 h2 h3 h4 r
    dsimp only [Res.bind_ok] at p
    cases hb : setB i (.im (.lst ds)) β' with
    | ok β2 =>
      rw [hb] at p
      exact p _ (upd G' a (.lst xs)) H' (e.trans (Ex.new h2)) ((s'.freeze h1 h2 h3 h4).setIm hb (rep_lst (Ex.new h2) r))
    | exc _ _ =>
      unfold setB at hb
      split at hb <;> (try split at hb) <;> cases hb
    | bad => rw [hb] at p; exact p.elim
  | .exc c fs, p => exact p σ
  | .bad, p => exact p.elim
end
section
variable {X : Cx} {T : Tx} {W : WishX} {e : Expr} {m : MM (List D)} {pos : Pos}
theorem ms_own {i : Nat} {x : Str} {pos' : Pos} (hN : X.N.Nodup) (hi : X.N[i]? = some x) (hx : Loc X.env.scope x) (he : MF X T W e m) (hs : swapsWith e (some (.Name x pos')) pos.line X.env = pure false := by rfl) (hf : X.fn x = true ∨ X.env.scope.names.lookup x = some .local := by first | exact .inl rfl | exact .inr rfl | assumption) :
    MS X T W (.Assign [.Name x pos'] e pos) (ownM i m) := ps_imp (ps_set hN hi hx he hs hf) fun D σ H h => own_sound h
variable {tg iter elt : Expr} {ifs : List Expr} {scope : Scope} {own : List (Str × Nat)} {mi : MM (List D)} {g : GM} {tt : MM Bool} {te : MM D} {i : Nat} {y : Str} {py spos : Pos}
theorem ms_ownLc (hc : X.calm = true) (hN : X.N.Nodup) (hy : X.N[i]? = some y) (hyl : X.env.scope.names.lookup y = some .local)
    (hsw : swapsWith (.ListComp elt [⟨tg, iter, ifs, 0⟩] scope pos) (some (.Name y py)) spos.line X.env = pure true) (hi : MI X T W tg iter mi) (ok : BlkOk X.N X.env.scope scope own)
    (hg : ∀ (s : Shared) (H : Hp) (C : Addr) (cl : List (Str × Addr)) (fp : List Addr), MG (X.blk s H scope (compEnvC scope cl C X.env) fp) T (own.map (·.2)) tg g) (ht : ∀ (s : Shared) (H : Hp) (C : Addr) (cl : List (Str × Addr)) (fp : List Addr), MTs (X.blk s H scope (compEnvC scope cl C X.env) fp) T W0 ifs tt)
    (he : ∀ (s : Shared) (H : Hp) (C : Addr) (cl : List (Str × Addr)) (fp : List Addr), ME (X.blk s H scope (compEnvC scope cl C X.env) fp) T W0 elt te) (hs : ∀ x, foldedSetIterable iter X.env x = pure x := by intro _; rfl) :
    MS X T W (.Assign [.Name y py] (.ListComp elt [⟨tg, iter, ifs, 0⟩] scope pos) spos) (ownM i (lcM mi (own.map (·.2)) g tt te)) :=
  ps_imp (ps_setLc hc hN hy hyl hsw hi ok hg ht he hs) fun D σ H h => lc_sound (own_sound h)
theorem ms_setLc (hc : X.calm = true) (hN : X.N.Nodup) (hy : X.N[i]? = some y) (hyl : X.env.scope.names.lookup y = some .local)
    (hsw : swapsWith (.ListComp elt [⟨tg, iter, ifs, 0⟩] scope pos) (some (.Name y py)) spos.line X.env = pure true) (hi : MI X T W tg iter mi) (ok : BlkOk X.N X.env.scope scope own)
    (hg : ∀ (s : Shared) (H : Hp) (C : Addr) (cl : List (Str × Addr)) (fp : List Addr), MG (X.blk s H scope (compEnvC scope cl C X.env) fp) T (own.map (·.2)) tg g) (ht : ∀ (s : Shared) (H : Hp) (C : Addr) (cl : List (Str × Addr)) (fp : List Addr), MTs (X.blk s H scope (compEnvC scope cl C X.env) fp) T W0 ifs tt)
    (he : ∀ (s : Shared) (H : Hp) (C : Addr) (cl : List (Str × Addr)) (fp : List Addr), ME (X.blk s H scope (compEnvC scope cl C X.env) fp) T W0 elt te) (hs : ∀ x, foldedSetIterable iter X.env x = pure x := by intro _; rfl) :
    MS X T W (.Assign [.Name y py] (.ListComp elt [⟨tg, iter, ifs, 0⟩] scope pos) spos) (setM i (frM (lcM mi (own.map (·.2)) g tt te))) :=
  ps_imp (ps_setLc hc hN hy hyl hsw hi ok hg ht he hs) fun D σ H h => lc_sound (setF_sound h)
end
/-! ### what is one's own, read for a flat answer -/
def B.expose : B → B
  | .im d => .im d
  | .ol _ ds => .im (.lst ds)
  | .od _ kvs => .im (.dic false kvs)
  | .oi _ c fs => .im (.obj c fs)
  | .fn q => .fn q
def exposeB (β : En) : En := β.map (Option.map B.expose)
open Classical in
noncomputable def gExp (G H : Hp) (σ : St) (β : En) : Hp := fun a => match G a with
  | some o => some o
  | none => if ∃ (j : Nat) (b : B), β[j]? = some (some b) ∧ b.own = true ∧ σ[j]? = some (some (.ref a)) then H a else none
section
variable {T : Tx} {A : Nat → Option Addr} {F G H : Hp} {σ : St} {β : En}
theorem gExp_sub : Ex G (gExp G H σ β) := .of fun a o h => by
  unfold gExp
  rw [h]
theorem gExp_own {a : Addr} {j : Nat} {b : B} (g0 : G a = none) (hb : β[j]? = some (some b)) (ho : b.own = true) (hv : σ[j]? = some (some (.ref a))) : gExp G H σ β a = H a := by
  unfold gExp
  rw [g0]
  exact if_pos ⟨j, b, hb, ho, hv⟩
theorem SI.expose (s : SI T A F G H σ β) : SI T A F (gExp G H σ β) H σ (exposeB β) := by
  have key : ∀ (j : Nat) (b : B), (exposeB β)[j]? = some (some b) → ∃ c, β[j]? = some (some c) ∧ b = c.expose := fun j b h => by
    unfold exposeB at h
    rw [List.getElem?_map] at h
    cases e : β[j]? with
    | none => rw [e] at h; cases h
    | some o =>
      rw [e] at h
      cases o with
      | none => cases h
      | some c => cases h; exact ⟨c, rfl, rfl⟩
  have noown : ∀ c : B, c.expose.own = false := fun c => by cases c <;> rfl
  have nopin : ∀ c : B, c.expose.pin = false := fun c => by cases c <;> rfl
  have sub : ∀ a o, gExp G H σ β a = some o → (G a = some o) ∨ H a = some o := fun a o h => by
    unfold gExp at h
    cases g : G a with
    | some u => rw [g] at h; exact .inl h
    | none =>
      rw [g] at h
      dsimp only at h
      split at h
      · exact .inr h
      · cases h
  have non : ∀ a, G a = none → (∀ (j : Nat) (b : B), β[j]? = some (some b) → b.own = true → σ[j]? = some (some (.ref a)) → False) → gExp G H σ β a = none := fun a g0 k => by
    unfold gExp
    rw [g0]
    exact if_neg fun ⟨j, b, hb, ho, hv⟩ => k j b hb ho hv
  refine ⟨s.fh, ⟨fun a o h n => (sub a o h).elim (fun g => s.gh.at' a o g n) id, fun a o h => (sub a _ h).elim (fun g => s.gh.tt a o g) fun g => ⟨_, g⟩⟩, ⟨fun a ha => non a (s.dj a ha) fun j b hb ho hv => ha (s.ownR hb ho hv).2.1, fun h => tabs_keep (s.dj.tb h) fun a u ha hu => ?_⟩,
    by unfold exposeB; rw [List.length_map]; exact s.len, fun j b h => ?_, fun i j b c p h1 h2 o1 => ?_, fun j b h hp => ?_, s.tb⟩
  · have h1 := off_subE a u ha
    rw [off_at (non a (off_dj a (by rw [ha]; exact fun z => nomatch z)) fun j b hb ho hv => (s.ownR hb ho hv).2.2.ntc h1 hu)]
    exact h1
  · obtain ⟨c, hc, rfl⟩ := key j b h
    obtain ⟨v, h1, r⟩ := s.at' j c hc
    refine ⟨v, h1, ?_⟩
    cases c with
    | im d => exact Rep.mono gExp_sub r
    | ol q ds => obtain ⟨p, e1, g1, f1, xs, hx, rl⟩ := r; subst e1; exact ⟨p, xs, rfl, (by rw [gExp_own g1 hc rfl h1]; exact hx), rl.mono gExp_sub⟩
    | od q ds => obtain ⟨p, e1, g1, f1, xs, hx, rl⟩ := r; subst e1; exact ⟨p, xs, rfl, ⟨.inl (by rw [gExp_own g1 hc rfl h1]; exact hx), fun z => nomatch z⟩, rl.mono gExp_sub⟩
    | oi q c fs => obtain ⟨p, e1, g1, f1, C, dx, ys, hC, hx, rl⟩ := r; subst e1; exact ⟨p, C, dx, ys, rfl, hC, by rw [gExp_own g1 hc rfl h1]; exact hx, rl.mono gExp_sub⟩
    | fn q => exact r
  · obtain ⟨c', _, rfl⟩ := key i b h1
    rw [noown] at o1
    cases o1
  · obtain ⟨c', _, rfl⟩ := key j b h
    rw [nopin] at hp
    cases hp
/-- .. and back, with what grew beside -/
theorem SI.unexpose {G' H' : Hp} {β' : En} (s : SI T A F G H σ β) (e : Ex (gExp G H σ β) G') (s' : SI T A F G' H' σ β') : SI T A F G H' σ β := by
  refine ⟨s'.fh, (gExp_sub.trans e).trans s'.gh, ⟨s.dj.at', fun h => (s'.dj.tb h).ext fun a u ha => by
    have h1 := off_subE a u ha
    rw [off_at (fresh_back (gExp_sub.trans e) (off_dj a (by rw [ha]; exact fun z => nomatch z)))]
    exact h1⟩, s.len, fun j b hb => ?_, s.sep, s.pin, s.tb⟩
  obtain ⟨v, h1, r⟩ := s.at' j b hb
  refine ⟨v, h1, ?_⟩
  have keep : ∀ p, v = .ref p → G p = none → b.own = true → ∀ o, H p = some o → NT o → H' p = some o := fun p ep g0 ho o hp n => by
    subst ep
    exact s'.gh.at' p o (e.at' p o (by rw [gExp_own g0 hb ho h1]; exact hp) n) n
  cases b with
  | im d => exact r
  | ol q ds => obtain ⟨p, e1, g1, f1, r⟩ := r; exact ⟨p, e1, g1, f1, r.mono (Ex.refl _) (keep p e1 g1 rfl)⟩
  | od q ds => obtain ⟨p, e1, g1, f1, r⟩ := r; exact ⟨p, e1, g1, f1, r.mono (Ex.refl _) (keep p e1 g1 rfl)⟩
  | oi q c fs => obtain ⟨p, e1, g1, f1, r⟩ := r; exact ⟨p, e1, g1, f1, r.mono (Ex.refl _) (keep p e1 g1 rfl)⟩
  | fn q => exact r
end
def flatM (m : MM D) : MM D := fun β => (m (exposeB β)).bindB fun p => if p.1.flat = true then .ok (p.1, β) else .bad
def flatT (m : MM Bool) : MM Bool := fun β => (m (exposeB β)).bindB fun p => .ok (p.1, β)
theorem me_flat {X : Cx} {T : Tx} {W : WishX} {e : Expr} {m : MM D} (h : ME X T W e m) : ME X T W e (flatM m) := by
  refine pe_imp h fun σ H Q ⟨A, F, G, β, s, p⟩ => ⟨A, F, _, _, s.expose, ?_⟩
  unfold flatM at p
  match m (exposeB β), p with
  | .ok (d, β'), p =>
    intro v G' H' e s' r
    dsimp only [Res.bindB_ok] at p
    split at p
    · rename_i hf
      exact p v G H' (Ex.refl _) (s.unexpose e s') (r.flat hf)
    · exact p.elim
  | .exc _ _, p => exact p.elim
  | .bad, p => exact p.elim
theorem mt_flat {X : Cx} {T : Tx} {W : WishX} {e : Expr} {m : MM Bool} (h : MT X T W e m) : MT X T W e (flatT m) := by
  refine pt_imp h fun σ H Q ⟨A, F, G, β, s, p⟩ => ⟨A, F, _, _, s.expose, ?_⟩
  unfold flatT at p
  match m (exposeB β), p with
  | .ok (d, β'), p => exact fun G' H' e s' => p G H' (Ex.refl _) (s.unexpose e s')
  | .exc _ _, p => exact p.elim
  | .bad, p => exact p.elim
/-! ### what is one's own becomes data -/
def frzB (i : Nat) (β : En) : En := match β[i]? with
  | some (some (.ol false ds)) => β.set i (some (.im (.lst ds)))
  | some (some (.od false ds)) => β.set i (some (.im (.dic false ds)))
  | _ => β
theorem SI.frz {T : Tx} {A : Nat → Option Addr} {F G H : Hp} {σ : St} {β : En} (s : SI T A F G H σ β) (i : Nat) : ∃ G', Ex G G' ∧ SI T A F G' H σ (frzB i β) := by
  have fin : ∀ (b : B) (p : Addr) (o : HO) (d : D), β[i]? = some (some b) → b.own = true → σ[i]? = some (some (.ref p)) → H p = some o → G p = none → F p = none → ¬ TC o → Rep T (upd G p o) d (.ref p) → SI T A F (upd G p o) H σ (β.set i (some (.im d))) := by
    intro b p o d hb ho hv hp g0 f0 nc r
    have hi : i < β.length := (List.getElem?_eq_some_iff.mp hb).1
    have s0 : SI T A F G H σ (β.set i none) := s.drop rfl (fun j c hj => by
      by_cases e : i = j
      · subst e; rw [List.getElem?_set_self hi] at hj; cases hj
      · rw [List.getElem?_set_ne e] at hj; exact ⟨hj, rfl⟩) (by simpa using s.len)
    have s1 := s0.freeze hp g0 f0 (fun j c hj hc hjv => by
      by_cases e : i = j
      · subst e; rw [List.getElem?_set_self hi] at hj; cases hj
      · rw [List.getElem?_set_ne e] at hj
        exact e (s.sep i j b c p hb hj ho hc hv hjv)) nc
    have s2 := s1.set (i := i) (b := .im d) (v := .ref p) (by simpa using hi) (fun c hc => by rw [List.getElem?_set_self hi] at hc; cases hc) rfl r (fun z => nomatch z)
    rw [List.set_set] at s2
    have : σ.set i (some (.ref p)) = σ := by
      apply List.ext_getElem?
      intro j
      by_cases e : i = j
      · subst e; rw [List.getElem?_set_self (Nat.lt_of_lt_of_le hi s.len), hv]
      · rw [List.getElem?_set_ne e]
    rw [this] at s2
    exact s2
  unfold frzB
  split
  · rename_i ds hb
    obtain ⟨v, hv, p, e1, g0, f0, xs, hp, r⟩ := s.at' i _ hb
    subst e1
    exact ⟨_, Ex.new g0, fin _ p _ _ hb rfl hv hp g0 f0 (by (intro z; rcases z with ⟨_, z⟩ | ⟨_, _, z⟩ <;> first | (cases z; done) | (unfold LamX.CodeO at z; cases z))) (rep_lst (Ex.new g0) r)⟩
  · rename_i ds hb
    obtain ⟨v, hv, p, e1, g0, f0, xs, hp, r⟩ := s.at' i _ hb
    subst e1
    exact ⟨_, Ex.new g0, fin _ p _ _ hb rfl hv hp g0 f0 (by (intro z; rcases z with ⟨_, z⟩ | ⟨_, _, z⟩ <;> first | (cases z; done) | (unfold LamX.CodeO at z; cases z))) ⟨p, xs, rfl, ⟨.inl upd_same, fun z => nomatch z⟩, r.mono (Ex.new g0)⟩⟩
  · exact ⟨G, Ex.refl _, s⟩
def frzM {α : Type} (i : Nat) (m : MM α) : MM α := fun β => m (frzB i β)
theorem mss_frz {X : Cx} {T : Tx} {W : WishX} {st : List Stmt} {m : MM Fl} (i : Nat) (h : MSs X T W st m) : MSs X T W st (frzM i m) := by
  refine pss_imp h fun E σ H ⟨A, F, G, β, s, p⟩ => ?_
  obtain ⟨G', e, s'⟩ := s.frz i
  exact ⟨A, F, G', _, s', PostS.mono e p⟩
/-- one's own dict becomes data that stays -/
def lckB (i : Nat) (β : En) : Option En := match β[i]? with
  | some (some (.od false ds)) => some (β.set i (some (.im (.dic true ds))))
  | _ => none
theorem SI.lck {T : Tx} {A : Nat → Option Addr} {F G H : Hp} {σ : St} {β β' : En} {i : Nat} (s : SI T A F G H σ β) (h : lckB i β = some β') : ∃ p u, H p = some u ∧ Mut (some u) ∧ ∀ od, ∃ G', Ex G G' ∧ SI T A F G' (upd H p (.frz od u)) σ β' := by
  unfold lckB at h
  split at h
  · rename_i ds hb
    cases h
    obtain ⟨v, hv, p, e1, g0, f0, xs, hp, r⟩ := s.at' i _ hb
    subst e1
    refine ⟨p, _, hp, True.intro, fun od => ⟨upd G p (.frz od (.dK xs)), Ex.new g0, ?_⟩⟩
    have hi : i < β.length := (List.getElem?_eq_some_iff.mp hb).1
    have dis : ∀ (j : Nat) (c : B), (β.set i none)[j]? = some (some c) → c.own = true → σ[j]? = some (some (.ref p)) → False := fun j c hj hc hjv => by
      by_cases e : i = j
      · subst e; rw [List.getElem?_set_self hi] at hj; cases hj
      · rw [List.getElem?_set_ne e] at hj
        exact e (s.sep i j _ c p hb hj rfl hc hv hjv)
    have s0 : SI T A F G H σ (β.set i none) := s.drop rfl (fun j c hj => by
      by_cases e : i = j
      · subst e; rw [List.getElem?_set_self hi] at hj; cases hj
      · rw [List.getElem?_set_ne e] at hj; exact ⟨hj, rfl⟩) (by simpa using s.len)
    have s0' : SI T A F G (upd H p (.frz od (.dK xs))) σ (β.set i none) := by
      exact s0.other hp g0 f0 dis
    have s1 := s0'.freeze upd_same g0 f0 dis
    have s2 := s1.set (i := i) (b := .im (.dic true ds)) (v := .ref p) (by simpa using hi) (fun c hc => by rw [List.getElem?_set_self hi] at hc; cases hc) rfl ⟨p, xs, rfl, ⟨.inr ⟨od, upd_same⟩, fun _ => ⟨od, upd_same⟩⟩, r.mono (Ex.new g0)⟩ (fun z => nomatch z)
    rw [List.set_set] at s2
    have : σ.set i (some (.ref p)) = σ := by
      apply List.ext_getElem?
      intro j
      by_cases e : i = j
      · subst e; rw [List.getElem?_set_self (Nat.lt_of_lt_of_le hi s.len), hv]
      · rw [List.getElem?_set_ne e]
    rw [this] at s2
    exact s2
  · cases h
def lckM {α : Type} (i : Nat) (m : MM α) : MM α := fun β => match lckB i β with
  | some β' => m β'
  | none => .bad
theorem pss_plock {X : Cx} {st : List Stmt} {t : TS} (h : PSs X st t) : PSs X st (fun D σ H => ∃ d u, H d = some u ∧ Mut (some u) ∧ ∀ od, t D σ (upd H d (.frz od u))) := by
  refine ⟨fun pins s σ H D I hw => ?_⟩
  obtain ⟨d, u, hd, mu, hw⟩ := hw
  obtain ⟨od, I1⟩ := I.lock hd mu
  exact h.run pins s σ _ _ I1 (hw od)
theorem mss_lck {X : Cx} {T : Tx} {W : WishX} {st : List Stmt} {m : MM Fl} (i : Nat) (h : MSs X T W st m) : MSs X T W st (lckM i m) := by
  refine pss_imp (pss_plock h) fun E σ H ⟨A, F, G, β, s, p⟩ => ?_
  unfold lckM at p
  cases hl : lckB i β with
  | none => rw [hl] at p; exact p.elim
  | some β' =>
    rw [hl] at p
    obtain ⟨d, u, hd, mu, k⟩ := s.lck hl
    refine ⟨d, u, hd, mu, fun od => ?_⟩
    obtain ⟨G', e, s'⟩ := k od
    exact ⟨A, F, G', _, s', PostS.mono e p⟩
/-! ### one's own things changed -/
theorem SI.chg {T : Tx} {A : Nat → Option Addr} {F G H G' H' : Hp} {σ : St} {β : En} {i : Nat} {b b' : B} {p : Addr} (s : SI T A F G H σ β) (hb : β[i]? = some (some b)) (ho : b.own = true) (hv : σ[i]? = some (some (.ref p)))
    (eg : Ex G G') (gh : Ex G' H') (hh : ExB p H H') (ap : ∀ a, H a ≠ none → G a = none → G' a = none) (tb : LamX.Tabs T.tabs (off G H) → LamX.Tabs T.tabs (off G' H')) (ho' : b'.own = true) (hp : b'.pin = b.pin) (r : ORep T G' H' p b') : SI T A F G' H' σ (β.set i (some b')) := by
  have hi : i < β.length := (List.getElem?_eq_some_iff.mp hb).1
  obtain ⟨g0, f0, hth⟩ : G p = none ∧ F p = none ∧ H p ≠ none := by
    obtain ⟨v, h1, r⟩ := s.at' i b hb
    rw [hv] at h1
    cases h1
    cases b with
    | im d => cases ho
    | ol q ds => obtain ⟨a, e1, g1, f1, r⟩ := r; cases e1; exact ⟨g1, f1, r.there⟩
    | od q ds => obtain ⟨a, e1, g1, f1, r⟩ := r; cases e1; exact ⟨g1, f1, r.there⟩
    | oi q c fs => obtain ⟨a, e1, g1, f1, r⟩ := r; cases e1; exact ⟨g1, f1, r.there⟩
    | fn q => cases ho
  refine ⟨s.fh.thenB hh f0, gh, ⟨fun a ha => ap a (ne_none s.fh ha) (s.dj a ha), fun h => tb (s.dj.tb h)⟩, by simpa using s.len, fun j c hj => ?_, fun j k c e q h1 h2 o1 o2 v1 v2 => ?_, fun j c hj hpin => ?_, s.tb⟩
  · by_cases e : i = j
    · subst e
      rw [List.getElem?_set_self hi] at hj
      cases hj
      refine ⟨.ref p, hv, ?_⟩
      cases b' with
      | im d => cases ho'
      | ol q ds => exact ⟨p, rfl, ap p hth g0, f0, r⟩
      | od q ds => exact ⟨p, rfl, ap p hth g0, f0, r⟩
      | oi q c fs => exact ⟨p, rfl, ap p hth g0, f0, r⟩
      | fn q => cases ho'
    · rw [List.getElem?_set_ne e] at hj
      obtain ⟨v, h1, r1⟩ := s.at' j c hj
      refine ⟨v, h1, ?_⟩
      have ne : c.own = true → ∀ q, v = .ref q → q ≠ p := fun hc q hq z => by
        subst z; subst hq
        exact e (s.sep i j b c q hb hj ho hc hv h1)
      cases c with
      | im d => exact Rep.mono eg r1
      | ol q ds => obtain ⟨a, e1, g1, f1, r1⟩ := r1; exact ⟨a, e1, ap a r1.there g1, f1, r1.mono eg fun o z n => hh.at' a o (ne rfl a e1) z n⟩
      | od q ds => obtain ⟨a, e1, g1, f1, r1⟩ := r1; exact ⟨a, e1, ap a r1.there g1, f1, r1.mono eg fun o z n => hh.at' a o (ne rfl a e1) z n⟩
      | oi q c fs => obtain ⟨a, e1, g1, f1, r1⟩ := r1; exact ⟨a, e1, ap a r1.there g1, f1, r1.mono eg fun o z n => hh.at' a o (ne rfl a e1) z n⟩
      | fn q => exact r1
  · have back : ∀ (l : Nat) (d : B), (β.set i (some b'))[l]? = some (some d) → d.own = true → ∃ d', β[l]? = some (some d') ∧ d'.own = true := fun l d hl hd => by
      by_cases z : i = l
      · subst z; exact ⟨b, hb, ho⟩
      · rw [List.getElem?_set_ne z] at hl; exact ⟨d, hl, hd⟩
    obtain ⟨d1, k1, k2⟩ := back j c h1 o1
    obtain ⟨d2, k3, k4⟩ := back k e h2 o2
    exact s.sep j k d1 d2 q k1 k3 k2 k4 v1 v2
  · by_cases e : i = j
    · subst e
      rw [List.getElem?_set_self hi] at hj
      cases hj
      rw [hp] at hpin
      exact s.pin i b hb hpin
    · rw [List.getElem?_set_ne e] at hj
      exact s.pin j c hj hpin
theorem SI.ownAt {T : Tx} {A : Nat → Option Addr} {F G H : Hp} {σ : St} {β : En} {i : Nat} {b : B} (s : SI T A F G H σ β) (hb : β[i]? = some (some b)) (ho : b.own = true) : ∃ p, σ[i]? = some (some (.ref p)) ∧ G p = none ∧ F p = none ∧ ORep T G H p b := by
  obtain ⟨v, h1, r⟩ := s.at' i b hb
  cases b with
  | im d => cases ho
  | ol q ds => obtain ⟨a, e1, g1, f1, r⟩ := r; subst e1; exact ⟨a, h1, g1, f1, r⟩
  | od q ds => obtain ⟨a, e1, g1, f1, r⟩ := r; subst e1; exact ⟨a, h1, g1, f1, r⟩
  | oi q c fs => obtain ⟨a, e1, g1, f1, r⟩ := r; subst e1; exact ⟨a, h1, g1, f1, r⟩
  | fn q => cases ho
/-- the object at one's own slot i is written -/
theorem SI.put {T : Tx} {A : Nat → Option Addr} {F G H : Hp} {σ : St} {β : En} {i : Nat} {b b' : B} {p : Addr} {o : HO} (s : SI T A F G H σ β) (hb : β[i]? = some (some b)) (ho : b.own = true) (hv : σ[i]? = some (some (.ref p))) (g0 : G p = none)
    (ho' : b'.own = true) (hp : b'.pin = b.pin) (r : ORep T G (upd H p o) p b') : SI T A F G (upd H p o) σ (β.set i (some b')) :=
  s.chg hb ho hv (Ex.refl _) (s.gh.mut g0) (.of fun a u ha h => by rw [upd_ne ha]; exact h) (fun _ _ h => h) (fun h => tabs_keep h fun a u ha hu => by
    have h1 := off_subE a u ha
    have x : a ≠ p := fun z => by subst z; exact (s.ownR hb ho hv).2.2.ntc h1 hu
    rw [off_at (off_dj a (by rw [ha]; exact fun z => nomatch z)), upd_ne x]
    exact h1) ho' hp r
end Fw
end

section
set_option Elab.async false
set_option linter.all false
set_option maxRecDepth 100000
set_option maxHeartbeats 4000000
set_option autoImplicit false
namespace Fw
open PySem L2 Evl
/-- known, and the tables beside -/
structure Gh (T : Tx) (G H : Hp) : Prop where
  gh : Ex G H
  tb : LamX.Tabs T.tabs (off G H)
theorem SI.gg {T : Tx} {A : Nat → Option Addr} {F G H : Hp} {σ : St} {β : En} (s : SI T A F G H σ β) : Gh T G H := ⟨s.gh, s.dj.tb s.tb⟩
theorem both_at {G H H' : Hp} {a : Addr} {u o : HO} (e : Ex G H) (e' : Ex G H') (g : G a = some u) (h : H a = some o) (n : NT o) : H' a = some o := by
  rcases nt_or u with q | ⟨ps, rfl⟩
  · have h2 := e.at' a u g q
    rw [h2] at h
    cases h
    exact e'.at' a _ g q
  · obtain ⟨p', h2⟩ := e.tt a ps g
    rw [h2] at h
    cases h
    exact (n _ rfl).elim
theorem both_tt {G H H' : Hp} {a : Addr} {u : HO} {ps : Array Value} (e : Ex G H) (e' : Ex G H') (g : G a = some u) (h : H a = some (.tbl ps)) : ∃ p', H' a = some (.tbl p') := by
  rcases nt_or u with q | ⟨ps, rfl⟩
  · have h2 := e.at' a u g q
    rw [h2] at h
    cases h
    exact (q _ rfl).elim
  · exact e'.tt a _ g
open PyProof.Rows (envOfC)
/-! ### defs -/
def PostFn (T : Tx) (G H : Hp) (r : Res D) (Q : VK) (E : XK) : Prop :=
  match r with
  | .ok d => ∀ v G' H', Grow T G H G' H' → Rep T G' d v → Q v H'
  | .exc c fs => ∀ C dx ys G' H', T.xc c = some C → Grow T G H G' H' → H' dx = some (.xd ys) → RepF T G' fs ys → E (.ref C) (some dx) H'
  | .bad => False
/-- data in, data out -/
def spF (T : Tx) (n : Nat) (fm : List D → Res D) : Sp := fun vs H Q E => vs.length = n ∧ ∃ G ds, Gh T G H ∧ RepL T G ds vs ∧ PostFn T G H (fm ds) Q E
def PostFr (T : Tx) (G H : Hp) (r : Res (List D)) (Q : VK) (E : XK) : Prop :=
  match r with
  | .ok ds => ∀ p xs G' H', Grow T G H G' H' → H p = none → H' p = some (.lst xs) → G' p = none → RepL T G' ds xs → Q (.ref p) H'
  | .exc c fs => ∀ C dx ys G' H', T.xc c = some C → Grow T G H G' H' → H' dx = some (.xd ys) → RepF T G' fs ys → E (.ref C) (some dx) H'
  | .bad => False
/-- data in, a fresh list out -/
def spR (T : Tx) (n : Nat) (fm : List D → Res (List D)) : Sp := fun vs H Q E => vs.length = n ∧ ∃ G ds, Gh T G H ∧ RepL T G ds vs ∧ PostFr T G H (fm ds) Q E
/-- .. but for p, which may change -/
structure GrowB (T : Tx) (p : Addr) (G H G' H' : Hp) : Prop where
  gg : Ex G G'
  gh : Ex G' H'
  hh : ExB p H H'
  ap : ∀ a, H a ≠ none → G a = none → G' a = none
  tb : LamX.Tabs T.tabs (off G H) → LamX.Tabs T.tabs (off G' H')
structure GrowX (T : Tx) (p : Addr) (G H G' H' : Hp) : Prop where
  gg : Ex G G'
  gh : Ex G' H'
  hh : ExB p H H'
  tb : LamX.Tabs T.tabs (off G H) → LamX.Tabs T.tabs (off G' H')
  ap : ∀ a, a ≠ p → H a ≠ none → G a = none → G' a = none
def PostM (T : Tx) (p : Addr) (G H : Hp) (r : Res (D × B)) (Q : VK) (E : XK) : Prop :=
  match r with
  | .ok (d, b) => ∀ v G' H', GrowB T p G H G' H' → ORep T G' H' p b → Rep T G' d v → Q v H'
  | .exc c fs => ∀ C dx ys G' H', T.xc c = some C → GrowX T p G H G' H' → H' dx = some (.xd ys) → RepF T G' fs ys → E (.ref C) (some dx) H'
  | .bad => False
/-- the first parameter a thing that is changed -/
def spM (T : Tx) (n : Nat) (fm : B → List D → Res (D × B)) : Sp := fun vs H Q E => vs.length = n ∧ ∃ G p ws b ds, vs = .ref p :: ws ∧ Gh T G H ∧ G p = none ∧ b.own = true ∧ ORep T G H p b ∧ RepL T G ds ws ∧ PostM T p G H (fm b ds) Q E
def env0 (n : Nat) (ds : List D) : En := ds.map (fun d => some (.im d)) ++ List.replicate (n - ds.length) none
/-- what a body is worth -/
def runF (m : MM Fl) (n : Nat) (ds : List D) : Res D := (m (env0 n ds)).bind fun p => match p.1 with
  | .rt d => .ok d
  | .nx => .ok .non
  | _ => .bad
def runR (m : MM Fl) (n : Nat) (ds : List D) : Res (List D) := (m (env0 n ds)).bind fun p => match p.1 with
  | .rf d => .ok d
  | _ => .bad
def B.pinned : B → B
  | .im d => .im d
  | .ol _ ds => .ol true ds
  | .od _ ds => .od true ds
  | .oi _ c ds => .oi true c ds
  | .fn q => .fn q
def B.asPin (q : Bool) : B → B
  | .im d => .im d
  | .ol _ ds => .ol q ds
  | .od _ ds => .od q ds
  | .oi _ c ds => .oi q c ds
  | .fn q => .fn q
def envM (n : Nat) (b : B) (ds : List D) : En := some b.pinned :: (ds.map (fun d => some (.im d)) ++ List.replicate (n - (ds.length + 1)) none)
def pinOut (d : D) (o : Option (Option B)) : Res (D × B) := match o with
  | some (some b) => if b.pin = true then .ok (d, b) else .bad
  | _ => .bad
def runM (m : MM Fl) (n : Nat) (b : B) (ds : List D) : Res (D × B) := (m (envM n b ds)).bind fun p => match p.1 with
  | .rt d => pinOut d p.2[0]?
  | .nx => pinOut .non p.2[0]?
  | _ => .bad
def wE (E : XK) : WishX := fun cls d _ H => E cls d H
theorem off_grow {T : Tx} {G H G' H' : Hp} (eg : Ex G H) (e : Ex G G') (gh : Ex G' H') (fh : Ex (off G H) H') (dj : Dj T (off G H) G' H') : Grow T G H G' H' := by
  refine ⟨e, gh, ⟨fun a o h n => ?_, fun a o h => ?_⟩, fun a h g => dj a ?_, fun h => dj.tb h⟩
  · cases g : G a with
    | none => exact fh.at' a o (by rw [off_at g]; exact h) n
    | some u => exact both_at eg (e.trans gh) g h n
  · cases g : G a with
    | none => exact fh.tt a o (by rw [off_at g]; exact h)
    | some u => exact both_tt eg (e.trans gh) g h
  · rw [off_at g]; exact h
theorem env0_at {n : Nat} {ds : List D} {i : Nat} {b : B} (h : (env0 n ds)[i]? = some (some b)) : ∃ d, ds[i]? = some d ∧ b = .im d := by
  unfold env0 at h
  by_cases hi : i < ds.length
  · rw [List.getElem?_append_left (by simpa using hi), List.getElem?_map] at h
    rw [List.getElem?_eq_getElem hi] at h ⊢
    cases h
    exact ⟨_, rfl, rfl⟩
  · rw [List.getElem?_append_right (by simpa using hi)] at h
    rw [List.getElem?_replicate] at h
    split at h <;> cases h
theorem start_at {N : List Str} {vs : List V} {i : Nat} {v : V} (h : vs[i]? = some v) : (L2.start N vs)[i]? = some (some v) := by
  unfold L2.start
  have hi : i < vs.length := (List.getElem?_eq_some_iff.mp h).1
  rw [List.getElem?_append_left (by simpa using hi), List.getElem?_map, h]
  rfl
theorem env0_len {n : Nat} {ds : List D} : (env0 n ds).length = ds.length + (n - ds.length) := by simp [env0]
theorem start_len {N : List Str} {vs : List V} : (L2.start N vs).length = vs.length + (N.length - vs.length) := by simp [L2.start]
theorem si_start {T : Tx} {G H : Hp} {ds : List D} {vs : List V} {N : List Str} (eg : Gh T G H) (r : RepL T G ds vs) : SI T (fun _ => none) (off G H) G H (L2.start N vs) (env0 N.length ds) := by
  refine ⟨off_sub, eg.gh, ⟨off_dj, fun h => h⟩, ?_, fun i b hb => ?_, fun i j b c p h1 h2 o1 => ?_, fun i b hb hp => ?_, eg.tb⟩
  · rw [env0_len, start_len, r.length]; exact Nat.le_refl _
  · obtain ⟨d, hd, rfl⟩ := env0_at hb
    obtain ⟨v, hv, rv⟩ := r.get hd
    exact ⟨v, start_at hv, rv⟩
  · obtain ⟨d, _, rfl⟩ := env0_at h1
    cases o1
  · obtain ⟨d, _, rfl⟩ := env0_at hb
    cases hp
section
variable {P : Program} {w : World} {K : PySem.W.Frag} {mg : Str → Option Value} {base : Heap} {x qual : Str} {st : Stmt} {f : Addr} {fd : FuncData} {N ps : List Str} {k : Nat} {T : Tx} {m : MM Fl}
/-- a def of the text, by its body's worth -/
theorem fn_F (F : Fun K x qual st f fd) (S : FnScope N ps (defScope st)) (hbd : ∀ us : List Value, us.length = ps.length → bindArgs fd ⟨us, []⟩ = pure (ps.zip us)) (hb : ∀ (cdv : Value) (A : Around) (outer : List Env) (s : Shared) (H : Hp) (E : XK), Rm k (A.deeper (envOfC qual (defScope st) s.heap.objs.size f cdv)) →
      MSs (cxOf (L2.CX P w) P w K mg base N qual (defScope st) f cdv A outer s H E) T (wE E) (defBody st) m) : FnG P w K mg base (k + 1) f [] (spF T ps.length (runF m N.length)) := by
  refine fn_P F S hbd (fun vs H Q E h => h.1) (fun cdv A outer s H vs Q E hr h => ⟨_, hb cdv A outer s H E hr, ?_⟩)
  obtain ⟨hl, G, ds, eg, r, p⟩ := h
  refine ⟨fun _ => none, off G H, G, env0 N.length ds, si_start eg r, ?_⟩
  unfold runF at p
  match m (env0 N.length ds), p with
  | .ok (.nx, β'), p => exact fun σ' G' H' e s' => p _ G' H' (off_grow eg.gh e s'.gh s'.fh s'.dj) rfl
  | .ok (.bk, β'), p => exact p.elim
  | .ok (.ct, β'), p => exact p.elim
  | .ok (.rt d, β'), p => exact fun v σ' G' H' e s' rv => p v G' H' (off_grow eg.gh e s'.gh s'.fh s'.dj) rv
  | .ok (.rf d, β'), p => exact p.elim
  | .exc c fs, p => exact fun σ' C dx ys G' H' hc e gh fh dj hx rf => p C dx ys G' H' hc (off_grow eg.gh e gh fh dj) hx rf
  | .bad, p => exact p
theorem fn_R (F : Fun K x qual st f fd) (S : FnScope N ps (defScope st)) (hbd : ∀ us : List Value, us.length = ps.length → bindArgs fd ⟨us, []⟩ = pure (ps.zip us)) (hb : ∀ (cdv : Value) (A : Around) (outer : List Env) (s : Shared) (H : Hp) (E : XK), Rm k (A.deeper (envOfC qual (defScope st) s.heap.objs.size f cdv)) →
      MSs (cxOf (L2.CX P w) P w K mg base N qual (defScope st) f cdv A outer s H E) T (wE E) (defBody st) m) : FnG P w K mg base (k + 1) f [] (spR T ps.length (runR m N.length)) := by
  refine fn_P F S hbd (fun vs H Q E h => h.1) (fun cdv A outer s H vs Q E hr h => ⟨_, hb cdv A outer s H E hr, ?_⟩)
  obtain ⟨hl, G, ds, eg, r, p⟩ := h
  refine ⟨fun _ => none, off G H, G, env0 N.length ds, si_start eg r, ?_⟩
  unfold runR at p
  match m (env0 N.length ds), p with
  | .ok (.nx, β'), p => exact p.elim
  | .ok (.bk, β'), p => exact p.elim
  | .ok (.ct, β'), p => exact p.elim
  | .ok (.rt d, β'), p => exact p.elim
  | .ok (.rf d, β'), p =>
    intro a xs σ' G' H' e s' h1 h2 h3 rv
    have gr := off_grow eg.gh e s'.gh s'.fh s'.dj
    refine p a xs G' H' gr ?_ h1 h2 rv
    cases q : H a with
    | none => rfl
    | some o =>
      exfalso
      have g0 : G a = none := fresh_back e h2
      unfold off at h3
      rw [g0, q] at h3
      cases h3
  | .exc c fs, p => exact fun σ' C dx ys G' H' hc e gh fh dj hx rf => p C dx ys G' H' hc (off_grow eg.gh e gh fh dj) hx rf
  | .bad, p => exact p
/-- what is beside, without p -/
def offB (p : Addr) (G H : Hp) : Hp := fun a => if a = p then none else off G H a
theorem offB_at {p a : Addr} {G H : Hp} (h : a ≠ p) (g : G a = none) : offB p G H a = H a := by unfold offB; rw [if_neg h, off_at g]
theorem offB_sub {p : Addr} {G H : Hp} : Ex (offB p G H) H := .of fun a o h => by
  unfold offB at h
  split at h
  · cases h
  · exact off_subE a o h
theorem offB_dj {p : Addr} {G H : Hp} : ∀ a, offB p G H a ≠ none → G a = none := fun a h => by
  unfold offB at h
  split at h
  · exact (h rfl).elim
  · exact off_dj a h
theorem offB_tb {p : Addr} {G H : Hp} {L : List (Addr × Str)} (n : ∀ o, H p = some o → ¬ TC o) (t : LamX.Tabs L (off G H)) : LamX.Tabs L (offB p G H) := tabs_keep t fun a u ha hu => by
  have x : a ≠ p := fun z => by subst z; exact n u (off_subE _ u ha) hu
  unfold offB
  rw [if_neg x]
  exact ha
theorem offB_tbs {p : Addr} {G H : Hp} {L : List (Addr × Str)} (t : LamX.Tabs L (offB p G H)) : LamX.Tabs L (off G H) := t.ext fun a u ha => by
  unfold offB at ha
  split at ha
  · cases ha
  · exact ha
theorem offB_hh {p : Addr} {G H G' H' : Hp} (eg : Ex G H) (e : Ex G H') (fh : Ex (offB p G H) H') : ExB p H H' := by
  refine ⟨fun a o ha h n => ?_, fun a o ha h => ?_⟩
  · cases g : G a with
    | none => exact fh.at' a o (by rw [offB_at ha g]; exact h) n
    | some u => exact both_at eg e g h n
  · cases g : G a with
    | none => exact fh.tt a o (by rw [offB_at ha g]; exact h)
    | some u => exact both_tt eg e g h
theorem offB_grow {T : Tx} {p : Addr} {G H G' H' : Hp} (n : ∀ o, H p = some o → ¬ TC o) (eg : Ex G H) (e : Ex G G') (gh : Ex G' H') (fh : Ex (offB p G H) H') (dj : Dj T (offB p G H) G' H') (gp : G' p = none) : GrowB T p G H G' H' := by
  refine ⟨e, gh, offB_hh (G' := G') eg (e.trans gh) fh, fun a h g => ?_, fun h => dj.tb (offB_tb n h)⟩
  by_cases z : a = p
  · subst z; exact gp
  · exact dj a (by rw [offB_at z g]; exact h)
theorem envM_at {n : Nat} {b0 b : B} {ds : List D} {i : Nat} (h : (envM n b0 ds)[i]? = some (some b)) : (i = 0 ∧ b = b0.pinned) ∨ ∃ j d, i = j + 1 ∧ ds[j]? = some d ∧ b = .im d := by
  cases i with
  | zero =>
    left
    refine ⟨rfl, ?_⟩
    have : some b0.pinned = some b := by simpa [envM] using h
    cases this
    rfl
  | succ j =>
    right
    have h' : (env0 (n - 1) ds)[j]? = some (some b) := by
      have e : n - (ds.length + 1) = n - 1 - ds.length := by omega
      unfold envM at h
      rw [e] at h
      simpa [env0] using h
    obtain ⟨d, hd, rfl⟩ := env0_at h'
    exact ⟨j, d, rfl, hd, rfl⟩
theorem ORep.pinned {G H : Hp} {p : Addr} {b : B} (r : ORep T G H p b) : ORep T G H p b.pinned := by cases b <;> exact r
theorem tS_M {n : Nat} {vs : List V} {H : Hp} {Q : VK} {E : XK} (h : spM T n (runM m N.length) vs H Q E) : tS T (wE E) m { nx := fun _ H' => Q .non H', rt := Q } (L2.start N vs) H := by
  obtain ⟨hl, G, p, ws, b, ds, rfl, eg, g0, ho, ro, r, po⟩ := h
  have ro0 : ∀ o, H p = some o → ¬ TC o := fun o h => ro.ntc h
  have bo : b.pinned.own = true := by cases b <;> first | rfl | cases ho
  have bp : b.pinned.pin = true := by cases b <;> first | rfl | cases ho
  have si : SI T (fun i => if i = 0 then some p else none) (offB p G H) G H (L2.start N (.ref p :: ws)) (envM N.length b ds) := by
    refine ⟨offB_sub, eg.gh, ⟨offB_dj, fun h => offB_tbs h⟩, ?_, fun i c hc => ?_, fun i j c d q h1 h2 o1 o2 v1 v2 => ?_, fun i c hc hp => ?_, offB_tb ro0 eg.tb⟩
    · rw [start_len]
      have := r.length
      simp [envM, this]
      omega
    · rcases envM_at hc with ⟨rfl, rfl⟩ | ⟨j, d, rfl, hd, rfl⟩
      · refine ⟨.ref p, start_at rfl, ?_⟩
        have f0 : offB p G H p = none := by unfold offB; rw [if_pos rfl]
        cases b with
        | im d => cases ho
        | ol q ds => exact ⟨p, rfl, g0, f0, ro⟩
        | od q ds => exact ⟨p, rfl, g0, f0, ro⟩
        | oi q c fs => exact ⟨p, rfl, g0, f0, ro⟩
        | fn q => cases ho
      · obtain ⟨v, hv, rv⟩ := r.get hd
        exact ⟨v, start_at (by simpa using hv), rv⟩
    · rcases envM_at h1 with ⟨rfl, _⟩ | ⟨j1, d1, rfl, _, rfl⟩
      · rcases envM_at h2 with ⟨rfl, _⟩ | ⟨j2, d2, rfl, _, rfl⟩
        · rfl
        · cases o2
      · cases o1
    · rcases envM_at hc with ⟨rfl, _⟩ | ⟨j1, d1, rfl, _, rfl⟩
      · exact ⟨p, rfl, start_at rfl⟩
      · cases hp
  refine ⟨_, _, G, _, si, ?_⟩
  have fin : ∀ {σ' : St} {G' H' : Hp} {β' : En} {b' : B}, Ex G G' → SI T (fun i => if i = 0 then some p else none) (offB p G H) G' H' σ' β' → β'[0]? = some (some b') → b'.pin = true → GrowB T p G H G' H' ∧ ORep T G' H' p b' := by
    intro σ' G' H' β' b' e s' hb' hp'
    obtain ⟨q, hq, hv⟩ := s'.pin 0 b' hb' hp'
    simp at hq
    subst hq
    have ho' : b'.own = true := by cases b' <;> first | rfl | cases hp'
    obtain ⟨q, hq, g1, f1, ro'⟩ := s'.ownAt hb' ho'
    rw [hv] at hq
    cases hq
    exact ⟨offB_grow ro0 eg.gh e s'.gh s'.fh s'.dj g1, ro'⟩
  have out : ∀ {d : D} {β' : En}, PostM T p G H (pinOut d β'[0]?) Q E → ∀ v σ' G' H', Ex G G' → SI T (fun i => if i = 0 then some p else none) (offB p G H) G' H' σ' β' → Rep T G' d v → Q v H' := by
    intro d β' po v σ' G' H' e s' rv
    unfold pinOut at po
    split at po
    · rename_i b' hb'
      split at po
      · rename_i hp'
        obtain ⟨g, ro'⟩ := fin e s' hb' hp'
        exact po v G' H' g ro' rv
      · exact po.elim
    · exact po.elim
  unfold runM at po
  match m (envM N.length b ds), po with
  | .ok (.nx, β'), po => exact fun σ' G' H' e s' => out po _ σ' G' H' e s' rfl
  | .ok (.bk, β'), po => exact po.elim
  | .ok (.ct, β'), po => exact po.elim
  | .ok (.rt d, β'), po => exact fun v σ' G' H' e s' rv => out po v σ' G' H' e s' rv
  | .ok (.rf d, β'), po => exact po.elim
  | .exc c fs, po =>
    intro σ' C dx ys G' H' hc e gh fh dj hx rf
    exact po C dx ys G' H' hc ⟨e, gh, offB_hh (G' := G') eg.gh (e.trans gh) fh, fun h => dj.tb (offB_tb ro0 h), fun a ha h g => dj a (by rw [offB_at ha g]; exact h)⟩ hx rf
  | .bad, po => exact po
theorem fn_M (F : Fun K x qual st f fd) (S : FnScope N ps (defScope st)) (hbd : ∀ us : List Value, us.length = ps.length → bindArgs fd ⟨us, []⟩ = pure (ps.zip us)) (hb : ∀ (cdv : Value) (A : Around) (outer : List Env) (s : Shared) (H : Hp) (E : XK), Rm k (A.deeper (envOfC qual (defScope st) s.heap.objs.size f cdv)) →
      MSs (cxOf (L2.CX P w) P w K mg base N qual (defScope st) f cdv A outer s H E) T (wE E) (defBody st) m) : FnG P w K mg base (k + 1) f [] (spM T ps.length (runM m N.length)) := by
  exact fn_P F S hbd (fun vs H Q E h => h.1) (fun cdv A outer s H vs Q E hr h => ⟨_, hb cdv A outer s H E hr, tS_M h⟩)
end
/-! ### calls -/
def callM (fm : List D → Res D) (m : MM (List D)) : MM D := fun β => (m β).bind fun p => (fm p.1).bind fun d => .ok (d, p.2)
section
variable {X : Cx} {T : Tx} {W : WishX} {k : Nat} {f : Addr} {x : Str} {p pos : Pos} {e : Expr} {es : List Expr} {m : MM (List D)}
theorem PostFn.of {A : Nat → Option Addr} {F G H : Hp} {σ : St} {β : En} {r : Res D} {Q : VK} (s : SI T A F G H σ β) (h : PostE T A W F G σ (r.bind fun d => .ok (d, β)) Q) : PostFn T G H r Q (WE W σ) := by
  match r, h with
  | .ok d, h => exact fun v G2 H2 g rp => h v G2 H2 g.gg (s.grow g) rp
  | .exc c fs, h => exact fun C dx ys G' H' hc g hx rf => h C dx ys G' H' hc g.gg g.gh (s.fh.trans g.hh) (s.dj.grow s.fh g) hx rf
  | .bad, h => exact h.elim
theorem me_call {fm : List D → Res D} {n : Nat} (F : FnG X.prog X.w X.K X.mg X.base k f [] (spF T n fm)) (hr : Rm k X.A) (hg : Gl X x) (hm : X.mg x = some (.ref f)) (hk : PySem.W.keepIn X.K (.ref f) = true) (tk : Takes X W)
    (ha : MA X T W (e :: es) m) (hn : ∀ β ds β', m β = .ok (ds, β') → ds.length = n) (hdb : (x == ("__debug__" : Str)) = false := by decide) (he : starEach (e :: es) X.env = (false, eval e X.env) :: starEach es X.env := by rfl) (hpl : (backTo pos (starEach es X.env)).any (·.1) = false := by rfl) :
    ME X T W (.Call (.Name x p) (e :: es) [] pos) (callM fm m) := by
  refine pe_imp (pe_cl F hr hg hm hk tk ha hdb he hpl) fun σ H Q ⟨A, F, G, β, s, p⟩ => ?_
  refine ⟨A, F, G, β, s, ?_⟩
  unfold callM at p
  cases hm : m β with
  | ok q =>
    obtain ⟨ds, β'⟩ := q
    rw [hm] at p
    intro vs G1 H1 e1 s1 r1
    refine ⟨by rw [r1.length]; exact hn _ _ _ hm, G1, ds, s1.gg, r1, PostFn.of s1 (PostE.mono e1 p)⟩
  | exc c fs => rw [hm] at p; exact p
  | bad => rw [hm] at p; exact p
theorem nilM_len (β : En) (ds : List D) (β' : En) (h : nilM β = .ok (ds, β')) : ds.length = 0 := by cases h; rfl
theorem consM_len {m1 : MM D} {m2 : MM (List D)} {n : Nat} (h : ∀ β ds β', m2 β = .ok (ds, β') → ds.length = n) (β : En) (ds : List D) (β' : En) (q : consM m1 m2 β = .ok (ds, β')) : ds.length = n + 1 := by
  unfold consM at q
  cases h1 : m1 β with
  | ok r =>
    rw [h1] at q
    dsimp only [Res.bind_ok] at q
    cases h2 : m2 r.2 with
    | ok t =>
      rw [h2] at q
      cases q
      simp [h _ _ _ h2]
    | exc _ _ => rw [h2] at q; cases q
    | bad => rw [h2] at q; cases q
  | exc _ _ => rw [h1] at q; cases q
  | bad => rw [h1] at q; cases q
/-- a call that gives a fresh list -/
def callR (fm : List D → Res (List D)) (m : MM (List D)) : MM (List D) := fun β => (m β).bind fun p => (fm p.1).bind fun d => .ok (d, p.2)
theorem mf_call {fm : List D → Res (List D)} {n : Nat} (F : FnG X.prog X.w X.K X.mg X.base k f [] (spR T n fm)) (hr : Rm k X.A) (hg : Gl X x) (hm : X.mg x = some (.ref f)) (hk : PySem.W.keepIn X.K (.ref f) = true) (tk : Takes X W)
    (ha : MA X T W (e :: es) m) (hn : ∀ β ds β', m β = .ok (ds, β') → ds.length = n) (hdb : (x == ("__debug__" : Str)) = false := by decide) (he : starEach (e :: es) X.env = (false, eval e X.env) :: starEach es X.env := by rfl) (hpl : (backTo pos (starEach es X.env)).any (·.1) = false := by rfl) :
    MF X T W (.Call (.Name x p) (e :: es) [] pos) (callR fm m) := by
  refine pe_imp (pe_cl F hr hg hm hk tk ha hdb he hpl) fun σ H Q ⟨A, F, G, β, s, p⟩ => ?_
  refine ⟨A, F, G, β, s, ?_⟩
  unfold callR at p
  cases hm : m β with
  | ok q =>
    obtain ⟨ds, β'⟩ := q
    rw [hm] at p
    intro vs G1 H1 e1 s1 r1
    refine ⟨by rw [r1.length]; exact hn _ _ _ hm, G1, ds, s1.gg, r1, ?_⟩
    have p1 : PostF T A W F G1 σ ((fm ds).bind fun d => .ok (d, β')) Q := PostF.mono e1 p
    match fm ds, p1 with
    | .ok es, p1 =>
      intro a xs G2 H2 g h0 h2 g0 rl
      obtain ⟨_, _, f0, no⟩ := s1.fresh (o := .lst xs) h0
      exact p1 a xs G2 H2 g.gg (s1.grow g) h2 g0 f0 no rl
    | .exc c fs, p1 => exact fun C dx ys G' H' hc g hx rf => p1 C dx ys G' H' hc g.gg g.gh (s1.fh.trans g.hh) (s1.dj.grow s1.fh g) hx rf
    | .bad, p1 => exact p1.elim
  | exc c fs => rw [hm] at p; exact p
  | bad => rw [hm] at p; exact p
/-- a call whose first argument is one's own slot i, changed by it -/
def callO (fm : B → List D → Res (D × B)) (i : Nat) (m : MM (List D)) : MM D := fun β => match β[i]? with
  | some (some _) => (m β).bind fun p => match p.2[i]? with
    | some (some b) => if b.own = true then (fm b p.1).bind fun q => if q.2.own = true then .ok (q.1, p.2.set i (some (q.2.asPin b.pin))) else .bad else .bad
    | _ => .bad
  | _ => .bad
theorem ORep.asPin {G H : Hp} {p : Addr} {b : B} {q : Bool} (r : ORep T G H p b) : ORep T G H p (b.asPin q) := by cases b <;> exact r
theorem me_callO {fm : B → List D → Res (D × B)} {n i : Nat} {y : Str} {py : Pos} (F : FnG X.prog X.w X.K X.mg X.base k f [] (spM T (n + 1) fm)) (hr : Rm k X.A) (hg : Gl X x) (hm : X.mg x = some (.ref f)) (hk : PySem.W.keepIn X.K (.ref f) = true) (tk : Takes X W)
    (hN : X.N[i]? = some y) (hv : Vis X.env.scope y) (ha : MA X T W es m) (hn : ∀ β ds β', m β = .ok (ds, β') → ds.length = n) (hd : (y == ("__debug__" : Str)) = false := by decide) (hcd : (y == ("__classdict__" : Str)) = false := by decide) (hdb : (x == ("__debug__" : Str)) = false := by decide)
    (he : starEach (.Name y py :: es) X.env = (false, eval (.Name y py) X.env) :: starEach es X.env := by rfl) (hpl : (backTo pos (starEach es X.env)).any (·.1) = false := by rfl) :
    ME X T W (.Call (.Name x p) (.Name y py :: es) [] pos) (callO fm i m) := by
  refine pe_imp (pe_cl F hr hg hm hk tk (pa_cons (pe_var hN hv hd hcd) ha he) hdb he hpl) fun σ H Q ⟨A, F, G, β, s, p⟩ => ?_
  unfold callO at p
  split at p
  rotate_left
  · exact p.elim
  rename_i b0 hb0
  obtain ⟨v0, hv0, _⟩ := s.at' i b0 hb0
  refine ⟨v0, hv0, A, F, G, β, s, ?_⟩
  cases hm : m β with
  | ok q =>
    obtain ⟨ds, β'⟩ := q
    rw [hm] at p
    intro vs G1 H1 e1 s1 r1
    dsimp only [Res.bind_ok] at p
    cases hb1 : β'[i]? with
    | none => rw [hb1] at p; exact p.elim
    | some o =>
      cases o with
      | none => rw [hb1] at p; exact p.elim
      | some b =>
        rw [hb1] at p
        dsimp only at p
        split at p
        rotate_left
        · exact p.elim
        rename_i ho
        obtain ⟨a, ha, g0, f0, ro⟩ := s1.ownAt hb1 ho
        rw [hv0] at ha
        cases ha
        refine ⟨by simp [r1.length, hn _ _ _ hm], G1, a, vs, b, ds, rfl, s1.gg, g0, ho, ro, r1, ?_⟩
        have p1 := PostE.mono e1 p
        match fm b ds, p1 with
        | .ok (d, b'), p1 =>
          intro v G2 H2 g ro' rv
          dsimp only [Res.bind_ok] at p1
          split at p1
          · rename_i ho'
            refine p1 v G2 H2 g.gg (s1.chg hb1 ho hv0 g.gg g.gh g.hh g.ap g.tb ?_ ?_ ro'.asPin) rv
            · cases b' <;> first | rfl | cases ho'
            · cases b' <;> first | rfl | cases ho'
          · exact p1.elim
        | .exc c fs, p1 =>
          exact fun C dx ys G' H' hc g hx rf => p1 C dx ys G' H' hc g.gg g.gh (s1.fh.thenB g.hh f0) ⟨fun z hz => g.ap z (fun q => by subst q; exact hz f0) (ne_none s1.fh hz) (s1.dj z hz), fun h => g.tb (s1.dj.tb h)⟩ hx rf
        | .bad, p1 => exact p1.elim
  | exc c fs => rw [hm] at p; exact p
  | bad => rw [hm] at p; exact p.elim
/-- a call of one argument, a fresh list that it changes -/
def callFr (fm : B → List D → Res (D × B)) (m : MM (List D)) : MM D := fun β => (m β).bind fun p => (fm (.ol false p.1) []).bind fun q => .ok (q.1, p.2)
theorem me_callFr {fm : B → List D → Res (D × B)} (F : FnG X.prog X.w X.K X.mg X.base k f [] (spM T 1 fm)) (hr : Rm k X.A) (hg : Gl X x) (hm : X.mg x = some (.ref f)) (hk : PySem.W.keepIn X.K (.ref f) = true) (tk : Takes X W)
    (ha : MF X T W e m) (hdb : (x == ("__debug__" : Str)) = false := by decide) (he : starEach [e] X.env = (false, eval e X.env) :: starEach [] X.env := by rfl) (hpl : (backTo pos (starEach [] X.env)).any (·.1) = false := by rfl) :
    ME X T W (.Call (.Name x p) [e] [] pos) (callFr fm m) := by
  refine pe_imp (pe_cl F hr hg hm hk tk (pa_cons ha pa_nil he) hdb he hpl) fun σ H Q ⟨A, F, G, β, s, p⟩ => ?_
  refine ⟨A, F, G, β, s, ?_⟩
  unfold callFr at p
  cases hm : m β with
  | ok q =>
    obtain ⟨ds, β'⟩ := q
    rw [hm] at p
    intro a xs G1 H1 e1 s1 h1 g1 f1 no r1
    refine ⟨rfl, G1, a, [], .ol false ds, [], rfl, s1.gg, g1, rfl, ⟨xs, h1, r1⟩, rfl, ?_⟩
    have p1 : PostE T A W F G1 σ ((fm (.ol false ds) []).bind fun q => .ok (q.1, β')) Q := PostE.mono e1 p
    match fm (.ol false ds) [], p1 with
    | .ok (d, b'), p1 =>
      intro v G2 H2 g ro' rv
      have s2 : SI T A F G2 H2 σ β' := by
        refine ⟨s1.fh.thenB g.hh f1, g.gh, ⟨fun z hz => g.ap z (ne_none s1.fh hz) (s1.dj z hz), fun h => g.tb (s1.dj.tb h)⟩, s1.len, fun j c hj => ?_, s1.sep, s1.pin, s1.tb⟩
        obtain ⟨v, hv, r⟩ := s1.at' j c hj
        refine ⟨v, hv, ?_⟩
        have ne : c.own = true → ∀ q, v = .ref q → q ≠ a := fun hc q hq z => by
          subst z; subst hq
          exact no j c hj hc hv
        cases c with
        | im d => exact Rep.mono g.gg r
        | ol q ds => obtain ⟨z, e1, g1, f1, r1⟩ := r; exact ⟨z, e1, g.ap z r1.there g1, f1, r1.mono g.gg fun o h n => g.hh.at' z o (ne rfl z e1) h n⟩
        | od q ds => obtain ⟨z, e1, g1, f1, r1⟩ := r; exact ⟨z, e1, g.ap z r1.there g1, f1, r1.mono g.gg fun o h n => g.hh.at' z o (ne rfl z e1) h n⟩
        | oi q c fs => obtain ⟨z, e1, g1, f1, r1⟩ := r; exact ⟨z, e1, g.ap z r1.there g1, f1, r1.mono g.gg fun o h n => g.hh.at' z o (ne rfl z e1) h n⟩
        | fn q => exact r
      exact p1 v G2 H2 g.gg s2 rv
    | .exc c fs, p1 =>
      exact fun C dx ys G' H' hc g hx rf => p1 C dx ys G' H' hc g.gg g.gh (s1.fh.thenB g.hh f1) ⟨fun z hz => g.ap z (fun q => by subst q; exact hz f1) (ne_none s1.fh hz) (s1.dj z hz), fun h => g.tb (s1.dj.tb h)⟩ hx rf
    | .bad, p1 => exact p1.elim
  | exc c fs => rw [hm] at p; exact p
  | bad => rw [hm] at p; exact p
end
/-! ### one's own list, dict, instance changed by statements -/
def lenOk (n : Nat) : Bool := decide (n < 1000000)
theorem lenOk_lt {n : Nat} (h : lenOk n = true) : n < sizeLine := Nat.lt_of_lt_of_le (of_decide_eq_true h) (by decide)
/-- x.append(e) -/
def appM (i : Nat) (m : MM D) : MM Fl := fun β => match β[i]? with
  | some (some (.ol _ _)) => (m β).bind fun p => match p.2[i]? with
    | some (some (.ol q ds)) => if lenOk ds.length = true then .ok (.nx, p.2.set i (some (.ol q (ds ++ [p.1])))) else .bad
    | _ => .bad
  | _ => .bad
section
variable {X : Cx} {T : Tx} {W : WishX} {e : Expr} {m : MM D} {i : Nat} {y : Str}
theorem ms_app {py apos cpos spos : Pos} (hN : X.N[i]? = some y) (hv : Vis X.env.scope y) (he : ME X T W e m) (hd : (y == ("__debug__" : Str)) = false := by decide) (hcd : (y == ("__classdict__" : Str)) = false := by decide)
    (hbase : attributeBase (.Name y py) "append" X.env (eval (.Name y py) X.env) = eval (.Name y py) X.env := by rfl)
    (hfew : ((backTo cpos (starEach (e :: []) X.env)).all (fun x => !x.1) && (backToKw cpos (keywordEach [] X.env)).all (fun x => x.1.isSome)
      && decide ((e :: []).length + ([] : List Keyword).length + (if ([] : List Keyword).isEmpty then 0 else 1) < 30)) = true := by rfl)
    (hline : (apos.endLine == cpos.line) = true := by rfl) (hs : starEach (e :: []) X.env = (false, eval e X.env) :: starEach [] X.env := by rfl) (hplain : (backTo cpos (starEach [] X.env)).any (·.1) = false := by rfl)
    (hsw : swapsWith (.Call (.Attribute (.Name y py) "append" apos) [e] [] cpos) none spos.line X.env = pure false := by rfl) :
    MS X T W (.Expr (.Call (.Attribute (.Name y py) "append" apos) [e] [] cpos) spos) (appM i m) := by
  refine ps_imp (ps_expr (pe_bm PySem.F.plainAttrs_list PySem.F.slot_list_append PySem.F.type_list_append mt_append (pe_var hN hv hd hcd) (pa_cons he pa_nil hs) hbase hfew hline hs hplain) hsw) fun E σ H ⟨A, F, G, β, s, p⟩ => ?_
  unfold appM at p
  split at p
  rotate_left
  · exact p.elim
  rename_i q0 ds0 hb0
  obtain ⟨a, hv0, g0, f0, xs0, hx0, r0⟩ := s.ownAt hb0 rfl
  refine ⟨.ref a, hv0, .inl ⟨rfl, xs0, sq_of hx0⟩, A, F, G, β, s, PostS.bindE p fun d β1 v G1 H1 e1 s1 r1 p1 => ?_⟩
  dsimp only at p1
  split at p1
  rotate_left
  · exact p1.elim
  rename_i q ds hb
  split at p1
  rotate_left
  · exact p1.elim
  rename_i hl
  obtain ⟨a', hv', g', f', xs, hx, r⟩ := s1.ownAt hb rfl
  rw [hv0] at hv'
  cases hv'
  refine ⟨a, xs, v, rfl, rfl, hx, by rw [r.length]; exact lenOk_lt hl, ?_⟩
  exact p1 σ G1 _ (Ex.refl _) (s1.put hb rfl hv0 g' rfl rfl ⟨_, upd_same, r.append ⟨v, [], rfl, r1, rfl⟩⟩)
/-- x.extend(e), e a fresh list -/
def extM (i : Nat) (m : MM (List D)) : MM Fl := fun β => match β[i]? with
  | some (some (.ol _ _)) => (m β).bind fun p => match p.2[i]? with
    | some (some (.ol q ds)) => if lenOk (ds.length + p.1.length) = true then .ok (.nx, p.2.set i (some (.ol q (ds ++ p.1)))) else .bad
    | _ => .bad
  | _ => .bad
theorem PostS.bindF {A : Nat → Option Addr} {F G : Hp} {σ : St} {r : Res (List D × En)} {k : List D × En → Res (Fl × En)} {E : Ends} {Q1 : VK} (h : PostS T A W F G (r.bind k) E)
    (c : ∀ ds β' p xs G' H', Ex G G' → SI T A F G' H' σ β' → H' p = some (.lst xs) → G' p = none → F p = none → NotOwn σ β' p → RepL T G' ds xs → PostS T A W F G' (k (ds, β')) E → Q1 (.ref p) H') : PostF T A W F G σ r Q1 := by
  match r, h with
  | .ok (d, β'), h => exact fun p xs G2 H2 e2 s h1 h2 h3 h4 rp => c d β' p xs G2 H2 e2 s h1 h2 h3 h4 rp (PostS.mono e2 h)
  | .exc _ fs, h => exact h σ
  | .bad, h => exact h
theorem ms_ext {ml : MM (List D)} {py apos cpos spos : Pos} (hN : X.N[i]? = some y) (hv : Vis X.env.scope y) (he : MF X T W e ml) (hd : (y == ("__debug__" : Str)) = false := by decide) (hcd : (y == ("__classdict__" : Str)) = false := by decide)
    (hbase : attributeBase (.Name y py) "extend" X.env (eval (.Name y py) X.env) = eval (.Name y py) X.env := by rfl)
    (hfew : ((backTo cpos (starEach (e :: []) X.env)).all (fun x => !x.1) && (backToKw cpos (keywordEach [] X.env)).all (fun x => x.1.isSome)
      && decide ((e :: []).length + ([] : List Keyword).length + (if ([] : List Keyword).isEmpty then 0 else 1) < 30)) = true := by rfl)
    (hline : (apos.endLine == cpos.line) = true := by rfl) (hs : starEach (e :: []) X.env = (false, eval e X.env) :: starEach [] X.env := by rfl) (hplain : (backTo cpos (starEach [] X.env)).any (·.1) = false := by rfl)
    (hsw : swapsWith (.Call (.Attribute (.Name y py) "extend" apos) [e] [] cpos) none spos.line X.env = pure false := by rfl) :
    MS X T W (.Expr (.Call (.Attribute (.Name y py) "extend" apos) [e] [] cpos) spos) (extM i ml) := by
  refine ps_imp (ps_expr (pe_bm PySem.F.plainAttrs_list PySem.F.slot_list_extend PySem.F.type_list_extend mt_extend (pe_var hN hv hd hcd) (pa_cons he pa_nil hs) hbase hfew hline hs hplain) hsw) fun E σ H ⟨A, F, G, β, s, p⟩ => ?_
  unfold extM at p
  split at p
  rotate_left
  · exact p.elim
  rename_i q0 ds0 hb0
  obtain ⟨a, hv0, g0, f0, xs0, hx0, r0⟩ := s.ownAt hb0 rfl
  refine ⟨.ref a, hv0, .inl ⟨rfl, xs0, sq_of hx0⟩, A, F, G, β, s, PostS.bindF p fun d β1 b zs G1 H1 e1 s1 hz gz fz nz r1 p1 => ?_⟩
  dsimp only at p1
  split at p1
  rotate_left
  · exact p1.elim
  rename_i q ds hb
  split at p1
  rotate_left
  · exact p1.elim
  rename_i hl
  obtain ⟨a', hv', g', f', xs, hx, r⟩ := s1.ownAt hb rfl
  rw [hv0] at hv'
  cases hv'
  refine ⟨a, b, xs, zs, rfl, rfl, hx, hz, by rw [r.length, r1.length]; exact Nat.le_of_lt (lenOk_lt hl), ?_⟩
  exact p1 σ G1 _ (Ex.refl _) (s1.put hb rfl hv0 g' rfl rfl ⟨_, upd_same, r.append r1⟩)
/-- x[j] = e, x one's own list -/
def setLM (i : Nat) (m mj : MM D) : MM Fl := fun β => (m β).bind fun p => match p.2[i]? with
  | some (some (.ol _ _)) => (mj p.2).bind fun j => match j.1, j.2[i]? with
    | .int n, some (some (.ol q ds)) => match ixN ds.length n with
      | some k => .ok (.nx, j.2.set i (some (.ol q (ds.set k p.1))))
      | none => .bad
    | _, _ => .bad
  | _ => .bad
theorem RepL.set {T : Tx} {H : Hp} {d : D} {v : V} (r : Rep T H d v) : ∀ {ds : List D} {vs : List V} (k : Nat), RepL T H ds vs → RepL T H (ds.set k d) (vs.set k v)
  | [], _, _, h => by
    obtain rfl : _ = [] := h
    exact rfl
  | _ :: _, _, 0, h => by
    obtain ⟨w, t, rfl, a, b⟩ := h
    exact ⟨v, t, rfl, r, b⟩
  | _ :: _, _, k + 1, h => by
    obtain ⟨w, t, rfl, a, b⟩ := h
    exact ⟨w, _, rfl, a, RepL.set r k b⟩
theorem ms_setL {j : Expr} {mj : MM D} {py ps spos : Pos} (hN : X.N[i]? = some y) (hv : Vis X.env.scope y) (he : ME X T W e m) (hj : ME X T W j mj) (hd : (y == ("__debug__" : Str)) = false := by decide) (hcd : (y == ("__classdict__" : Str)) = false := by decide)
    (ha : ∀ v, assign (.Subscript (.Name y py) j ps) X.env v = (do
      let ov ← holding [v] (eval (.Name y py) X.env)
      let iv ← holding [v, ov] (eval j X.env)
      standAt ps
      holding [v, ov, iv] (setItem ov iv v)
      release [v, ov, iv] []) := by intro _; rfl)
    (hs : swapsWithSole [.Subscript (.Name y py) j ps] e spos.line X.env = pure false := by rfl) (hw : swappedStores [.Subscript (.Name y py) j ps] e X.env = pure none := by rfl) (h1 : (assignEach [.Subscript (.Name y py) j ps] X.env).map (·.2) = [assign (.Subscript (.Name y py) j ps) X.env] := by rfl) :
    MS X T W (.Assign [.Subscript (.Name y py) j ps] e spos) (setLM i m mj) := by
  refine ps_imp (ps_asg he (pg_sub (pe_var hN hv hd hcd) hj set_list ha) hs hw h1) fun E σ H ⟨A, F, G, β, s, p⟩ => ?_
  refine ⟨A, F, G, β, s, PostS.bindE p fun d β1 v G1 H1 e1 s1 r1 p1 => ?_⟩
  dsimp only at p1
  split at p1
  rotate_left
  · exact p1.elim
  rename_i q0 ds0 hb0
  obtain ⟨a, hv0, g0, f0, xs0, hx0, r0⟩ := s1.ownAt hb0 rfl
  refine ⟨.ref a, hv0, A, F, G1, β1, s1, PostS.bindE p1 fun d2 β2 v2 G2 H2 e2 s2 r2 p2 => ?_⟩
  dsimp only at p2
  split at p2
  rotate_left
  · exact p2.elim
  rename_i n q ds hb
  obtain ⟨a', hv', g', f', xs, hx, r⟩ := s2.ownAt hb rfl
  rw [hv0] at hv'
  cases hv'
  cases hk : ixN ds.length n with
  | none => rw [hk] at p2; exact p2.elim
  | some k =>
    rw [hk] at p2
    refine ⟨a, xs, n, k, rfl, r2, hx, by rw [r.length]; exact hk, ?_⟩
    exact p2 σ G2 _ (Ex.refl _) (s2.put hb rfl hv0 g' rfl rfl ⟨_, upd_same, r.set (r1.mono e2) k⟩)
end
/-! ### methods of built-in types -/
def tyD : D → String → Bool
  | .str _, t => t == "str"
  | .int _, t => t == "int"
  | .lst _, t => t == "list"
  | _, _ => false
def PrimB (T : Tx) (r : V → List V → Hp → VK → Prop) (f : D → List D → Res D) : Prop := ∀ G H x xs a as Q, Ex G H → Rep T G a x → RepL T G as xs → PostP T G H (f a as) Q → r x xs H Q
def bmM (t : String) (f : D → List D → Res D) (m : MM D) (ms : MM (List D)) : MM D := fun β => (m β).bind fun p => if tyD p.1 t = true then (ms p.2).bind fun q => (f p.1 q.1).keep q.2 else .bad
section
variable {X : Cx} {T : Tx} {W : WishX} {o e : Expr} {es : List Expr} {m : MM D} {ms : MM (List D)} {name : Str} {apos cpos : Pos} {Ty id : String} {r : V → List V → Hp → VK → Prop} {f : D → List D → Res D}
theorem tyD_is {K : PySem.W.Frag} {cl xc fn : Str → Option Addr} {tl : List (Addr × Str)} {G H : Hp} {d : D} {v : V} {t : String} (e : Ex G H) (rp : Rep ⟨K, cl, xc, tl, fn⟩ G d v) (h : tyD d t = true) : tyV K t v H := by
  cases d with
  | str x => obtain rfl : v = .str x := rp; exact eq_of_beq h
  | int x => obtain rfl : v = .int x := rp; exact eq_of_beq h
  | lst ds => obtain ⟨a, xs, rfl, sq, _⟩ := rp; exact .inl ⟨eq_of_beq h, xs, sq_of (e _ _ sq)⟩
  | dic l ds => cases h
  | _ => cases h
theorem me_bm (hK : X.K = T.K) (pa : PlainAttrs Ty) (slot : Slot Ty name id) (hty : typeOf (.builtin id) = pure (.type "method_descriptor")) (hm : MtR X id r) (hp : PrimB T r f) (ho : ME X T W o m) (ha : MA X T W (e :: es) ms)
    (hbase : attributeBase o name X.env (eval o X.env) = eval o X.env := by rfl)
    (hfew : ((backTo cpos (starEach (e :: es) X.env)).all (fun x => !x.1) && (backToKw cpos (keywordEach [] X.env)).all (fun x => x.1.isSome)
      && decide ((e :: es).length + ([] : List Keyword).length + (if ([] : List Keyword).isEmpty then 0 else 1) < 30)) = true := by rfl)
    (hline : (apos.endLine == cpos.line) = true := by rfl) (hs : starEach (e :: es) X.env = (false, eval e X.env) :: starEach es X.env := by rfl) (hplain : (backTo cpos (starEach es X.env)).any (·.1) = false := by rfl) :
    ME X T W (.Call (.Attribute o name apos) (e :: es) [] cpos) (bmM Ty f m ms) := by
  obtain ⟨K, cl, xc⟩ := T
  cases hK
  refine pe_imp (pe_bm pa slot hty hm ho ha hbase hfew hline hs hplain) fun σ H Q ⟨A, F, G, β, s, p⟩ => ?_
  refine ⟨A, F, G, β, s, p.bindE fun d β1 v G1 H1 e1 s1 r1 p1 => ?_⟩
  dsimp only at p1
  split at p1
  rotate_left
  · exact p1.elim
  rename_i ht
  refine ⟨tyD_is s1.gh r1 ht, A, F, G1, β1, s1, p1.bindA fun ds β2 vs G2 H2 e2 s2 r2 p2 => ?_⟩
  exact hp G2 H2 v vs d ds Q s2.gh (r1.mono e2) r2 (p2.prim s2)
end
end Fw
end

section
set_option Elab.async false
set_option linter.all false
set_option maxRecDepth 100000
set_option maxHeartbeats 4000000
set_option autoImplicit false
namespace Fw
open PySem L2 Evl
/-! ### numbers -/
theorem PostP.val {T : Tx} {G H : Hp} {d : D} {v : V} {Q : VK} (e : Ex G H) (h : PostP T G H (.ok d) Q) (r : Rep T G d v) : Q v H := h v G H (Grow.refl e) r
def iOp (C : Int → Int → Bool) (g : Int → Int → D) : D → D → Res D
  | .int a, .int b => if C a b = true then .ok (g a b) else .bad
  | _, _ => .bad
theorem prim_iOp {T : Tx} {C : Int → Int → Prop} {Cb : Int → Int → Bool} {g : Int → Int → V} {gd : Int → Int → D} (hC : ∀ i j, Cb i j = true → C i j) (hg : ∀ i j G, Rep T G (gd i j) (g i j)) : Prim2 T (rI C g) (iOp Cb gd) := by
  intro G H x y a b Q e ra rb h
  unfold iOp at h
  split at h
  · rename_i i j
    split at h
    · rename_i hc
      exact ⟨i, j, ra, rb, hC i j hc, h.val e (hg i j G)⟩
    · exact h.elim
  · exact h.elim
theorem prim_iOp0 {T : Tx} {g : Int → Int → V} {gd : Int → Int → D} (hg : ∀ i j G, Rep T G (gd i j) (g i j)) : Prim2 T (rI0 g) (iOp (fun _ _ => true) gd) := by
  intro G H x y a b Q e ra rb h
  unfold iOp at h
  split at h
  · rename_i i j
    exact ⟨i, j, ra, rb, h.val e (hg i j G)⟩
  · exact h.elim
/-- two rules for one operator, by the data -/
theorem Prim2.or {T : Tx} {r r' : R2} {f g : D → D → Res D} (s : D → D → Bool) (h : Prim2 T r f) (h' : Prim2 T r' g) : Prim2 T (fun x y H Q => r x y H Q ∨ r' x y H Q) (fun a b => if s a b = true then f a b else g a b) := by
  intro G H x y a b Q e ra rb hp
  dsimp only at hp
  split at hp
  · exact .inl (h G H x y a b Q e ra rb hp)
  · exact .inr (h' G H x y a b Q e ra rb hp)
def subD : D → D → Res D := iOp (fun _ _ => true) fun i j => .int (i - j)
def mulB (i j : Int) : Bool := decide (i.natAbs < 2 ^ 400000) && decide (j.natAbs < 2 ^ 400000)
def mulS (i j : Int) : Bool := (decide (-(2 ^ 64) < i) && decide (i < 2 ^ 64)) || (decide (-(2 ^ 64) < j) && decide (j < 2 ^ 64))
def mulI : D → D → Res D := iOp mulS fun i j => .int (i * j)
def mulW (b : Nat) (i j : Int) : Bool := decide (i.natAbs < 2 ^ b) && decide (j.natAbs < 2 ^ b) && decide (0 < b) && decide (b ≤ 400000)
def modD : D → D → Res D := iOp (fun _ j => decide (0 < j)) fun i j => .int (i % j)
def fdivD : D → D → Res D := iOp (fun _ j => decide (0 < j) && decide (j < 2 ^ 200)) fun i j => .int (i / j)
def powD : D → D → Res D := iOp (fun i j => decide (0 ≤ j) && decide (j ≤ 100000) && decide (i.natAbs < 2 ^ 64)) fun i j => .int (i ^ j.toNat)
section
variable {T : Tx}
theorem p_sub : Prim2 T (rI0 fun i j => .int (i - j)) subD := prim_iOp0 fun _ _ _ => rfl
theorem p_mulI : Prim2 T (rI CMul fun i j => .int (i * j)) mulI := prim_iOp (fun i j h => by
  unfold mulS at h
  simp only [Bool.or_eq_true, Bool.and_eq_true, decide_eq_true_eq] at h
  exact h) fun _ _ _ => rfl
theorem p_mod : Prim2 T (rI (fun _ j => 0 < j) fun i j => .int (i % j)) modD := prim_iOp (fun i j h => by simpa using h) fun _ _ _ => rfl
theorem p_fdiv : Prim2 T (rI CDivW fun i j => .int (i / j)) fdivD := prim_iOp (fun i j h => by
  simp only [Bool.and_eq_true, decide_eq_true_eq] at h
  exact wide_div (b := 200) h.1 (by omega) (by decide) (by decide)) fun _ _ _ => rfl
theorem p_pow : Prim2 T (rI CPow fun i j => .int (i ^ j.toNat)) powD := prim_iOp (fun i j h => by
  simp only [Bool.and_eq_true, decide_eq_true_eq] at h
  exact ⟨h.1.1, by omega, h.2⟩) fun _ _ _ => rfl
def ltD : D → D → Res D := iOp (fun _ _ => true) fun i j => .bl (decide (i < j))
def leD : D → D → Res D := iOp (fun _ _ => true) fun i j => .bl (decide (i ≤ j))
def gtD : D → D → Res D := iOp (fun _ _ => true) fun i j => .bl (decide (j < i))
def geD : D → D → Res D := iOp (fun _ _ => true) fun i j => .bl (decide (j ≤ i))
theorem p_lt : Prim2 T (rI0 fun i j => .bl (decide (i < j))) ltD := prim_iOp0 fun _ _ _ => rfl
theorem p_le : Prim2 T (rI0 fun i j => .bl (decide (i ≤ j))) leD := prim_iOp0 fun _ _ _ => rfl
theorem p_gt : Prim2 T (rI0 fun i j => .bl (decide (j < i))) gtD := prim_iOp0 fun _ _ _ => rfl
theorem p_ge : Prim2 T (rI0 fun i j => .bl (decide (j ≤ i))) geD := prim_iOp0 fun _ _ _ => rfl
def negD : D → Res D
  | .int i => .ok (.int (-i))
  | _ => .bad
theorem p_neg : Prim1 T (rU fun i => .int (-i)) negD := by
  intro G H x a Q e r h
  cases a with
  | int i => exact ⟨i, r, h.val e rfl⟩
  | _ => exact h.elim
/-! ### + -/
def catS (a b : D) : Res D := match a, b with
  | .str x, .str y => if x.length + y.length ≤ 1000000 then .ok (.str (x ++ y)) else .bad
  | _, _ => .bad
def catL (a b : D) : Res D := match a, b with
  | .lst x, .lst y => sz (x.length + y.length) (.ok (.lst (x ++ y)))
  | _, _ => .bad
def catT (a b : D) : Res D := match a, b with
  | .tup x, .tup y => if x.isEmpty = false then sz (x.length + y.length) (.ok (.tup (x ++ y))) else .bad
  | _, _ => .bad
def addI : D → D → Res D := iOp (fun _ _ => true) fun i j => .int (i + j)
theorem p_addI : Prim2 T (rI0 fun i j => .int (i + j)) addI := prim_iOp0 fun _ _ _ => rfl
theorem p_catS : Prim2 T (fun x y H Q => ∃ i j, x = .str i ∧ y = .str j ∧ i.length + j.length ≤ sizeLine ∧ Q (.str (i ++ j)) H) catS := by
  intro G H x y a b Q e ra rb h
  unfold catS at h
  split at h
  · rename_i i j
    split at h
    · rename_i hz
      exact ⟨i, j, ra, rb, sz_ok hz, h.val e rfl⟩
    · exact h.elim
  · exact h.elim
theorem p_catL : Prim2 T rCat catL := by
  intro G H x y a b Q e ra rb h
  unfold catL at h
  split at h
  · rename_i i j
    obtain ⟨l, xs, rfl, h1, r1⟩ := ra
    obtain ⟨l2, ys, rfl, h2, r2⟩ := rb
    obtain ⟨z, h⟩ := sz_get h
    exact ⟨l, l2, xs, ys, rfl, rfl, e _ _ h1, e _ _ h2, by rw [r1.length, r2.length]; exact sz_ok z, fun p hp => h.lst e (r1.append r2) hp⟩
  · exact h.elim
def rCatP (K : PySem.W.Frag) : R2 := fun x y H Q => ∃ a b xs ys, x = .ref a ∧ y = .ref b ∧ SqT K H a xs ∧ SqT K H b ys ∧ xs ≠ [] ∧ xs.length + ys.length ≤ sizeLine ∧
  (ys = [] → Q (.ref a) H) ∧ (ys ≠ [] → ∀ p o, H p = none → o.dict = none → Q (.ref p) (upd H p (.frz o (.tup (xs ++ ys)))))
theorem op_catP {X : Cx} : OpR X (binaryOp .Add) (rCatP X.K) := by
  intro pins s σ H x y v u Q I rx ry h
  obtain ⟨a, b, xs, ys, rfl, rfl, ha, hb, hx, hz, q1, q2⟩ := h
  cases rx
  cases ry
  obtain ⟨its, r1, p1, _⟩ := I.tuple ha
  obtain ⟨its2, r2, p2, _⟩ := I.tuple hb
  refine HT.cat_tup p1 p2 (fun z => hx (r1.nil_iff.mp z)) (fun z => ⟨.ref a, H, I, rfl, q1 (r2.nil_iff.mp z)⟩) (fun z => ?_) (by rw [← r1.length, ← r2.length]; exact hz)
  refine ⟨.ref s.heap.objs.size, _, I.laid (t' := s.toks) (o := .frz ({ cls := .type "tuple", data := .seq (its ++ its2).toArray } : Obj) (.tup (xs ++ ys))) (fun b ob q => Heap.get?_push_of_some _ q) (Nat.le_refl _) ?_, rfl, q2 (fun w => z (r2.nil_iff.mpr w)) _ _ (I.hok.fresh (Nat.le_refl _)) ?_⟩
  · exact ⟨Heap.get?_push_size _ rfl, by rw [List.length_append]; exact hz, _, r1.append r2, ⟨_, Heap.get?_push_size _ rfl, rfl, _, rfl⟩⟩
  · rfl
theorem p_catT : Prim2 T (rCatP T.K) catT := by
  intro G H x y a b Q e ra rb h
  unfold catT at h
  split at h
  · rename_i i j
    split at h
    · rename_i hne
      have ra0 := ra
      obtain ⟨l, xs, rfl, h1, r1⟩ := ra
      obtain ⟨l2, ys, rfl, h2, r2⟩ := rb
      obtain ⟨z, h⟩ := sz_get h
      refine ⟨l, l2, xs, ys, rfl, rfl, ex_t e h1.sq, ex_t e h2.sq, ?_, by rw [r1.length, r2.length]; exact sz_ok z, fun hy => ?_, fun hy p o hp ho => h.tup ho e (r1.append r2) hp⟩
      · intro z
        subst z
        have := r1.length
        cases i with
        | nil => cases hne
        | cons _ _ => simp at this
      · subst hy
        have hj : j = [] := by
          have := r2.length
          cases j with
          | nil => rfl
          | cons _ _ => simp at this
        subst hj
        rw [List.append_nil] at h
        exact h.val e ra0
    · exact h.elim
  · exact h.elim
def isInt : D → Bool
  | .int _ => true
  | _ => false
def isStr : D → Bool
  | .str _ => true
  | _ => false
def isLst : D → Bool
  | .lst _ => true
  | _ => false
def addD : D → D → Res D := fun a b => if isInt a = true then addI a b else if isStr a = true then catS a b else if isLst a = true then catL a b else catT a b
def rAddA (K : PySem.W.Frag) : R2 := fun x y H Q => (rI0 fun i j => .int (i + j)) x y H Q ∨ (∃ i j, x = .str i ∧ y = .str j ∧ i.length + j.length ≤ sizeLine ∧ Q (.str (i ++ j)) H) ∨ rCat x y H Q ∨ rCatP K x y H Q
theorem op_addA {X : Cx} : OpR X (binaryOp .Add) (rAddA X.K) := OpR.or op_add (OpR.or op_add_str (OpR.or op_cat op_catP))
theorem p_addA : Prim2 T (rAddA T.K) addD := by
  intro G H x y a b Q e ra rb h
  unfold addD at h
  split at h
  · exact .inl (p_addI G H x y a b Q e ra rb h)
  · split at h
    · exact .inr (.inl (p_catS G H x y a b Q e ra rb h))
    · split at h
      · exact .inr (.inr (.inl (p_catL G H x y a b Q e ra rb h)))
      · exact .inr (.inr (.inr (p_catT G H x y a b Q e ra rb h)))
end
/-! ### the same by expressions -/
section
variable {X : Cx} {T : Tx} {W : WishX} {a b : Expr} {m1 m2 : MM D} {pos : Pos}
theorem me_add (hK : X.K = T.K) (ha : ME X T W a m1) (hb : ME X T W b m2) : ME X T W (.BinOp a .Add b pos) (opM addD m1 m2) := me_op op_addA (hK ▸ p_addA) ha hb
theorem me_sub (ha : ME X T W a m1) (hb : ME X T W b m2) : ME X T W (.BinOp a .Sub b pos) (opM subD m1 m2) := me_op op_sub p_sub ha hb
theorem me_mod (ha : ME X T W a m1) (hb : ME X T W b m2) : ME X T W (.BinOp a .Mod b pos) (opM modD m1 m2) := me_op op_mod p_mod ha hb
theorem me_fdiv (ha : ME X T W a m1) (hb : ME X T W b m2) : ME X T W (.BinOp a .FloorDiv b pos) (opM fdivD m1 m2) := me_op op_fdivW p_fdiv ha hb
theorem me_pow (ha : ME X T W a m1) (hb : ME X T W b m2) : ME X T W (.BinOp a .Pow b pos) (opM powD m1 m2) := me_op op_pow p_pow ha hb
theorem me_neg (ha : ME X T W a m1) : ME X T W (.UnaryOp .USub a pos) (unM negD m1) := me_un un_neg p_neg ha
end
end Fw
end

section
set_option Elab.async false
set_option linter.all false
set_option maxRecDepth 100000
set_option maxHeartbeats 4000000
set_option autoImplicit false
namespace Fw
open PySem L2 Evl
/-! ### data that Python compares and shows -/
mutual
def toPy : D → Option PyData
  | .non => some .none
  | .bl b => some (.bool b)
  | .int i => some (.int i)
  | .str x => some (.str x)
  | .tup ds => (toPyL ds).map .tuple
  | .lst ds => (toPyL ds).map .list
  | .scr _ => none
  | .dic _ _ => none
  | .obj _ _ => none
def toPyL : List D → Option (List PyData)
  | [] => some []
  | d :: r => match toPy d, toPyL r with
    | some p, some ps => some (p :: ps)
    | _, _ => none
end
mutual
theorem Rep.dp {T : Tx} {G : Hp} : ∀ {d : D} {v : V} {p : PyData}, Rep T G d v → toPy d = some p → Dp T.K G v p
  | .non, _, _, r, h => by cases h; cases (show _ = V.non from r); exact .non
  | .bl b, _, _, r, h => by cases h; cases (show _ = V.bl b from r); exact .bl b
  | .int i, _, _, r, h => by cases h; cases (show _ = V.int i from r); exact .int i
  | .str x, _, _, r, h => by cases h; cases (show _ = V.str x from r); exact .str x
  | .tup ds, _, _, r, h => by
    obtain ⟨a, xs, rfl, sq, rl⟩ := r
    cases hl : toPyL ds with
    | none => simp [toPy, hl] at h
    | some ps =>
      simp [toPy, hl] at h
      subst h
      exact .tup sq.sq (RepL.dp rl hl)
  | .lst ds, _, _, r, h => by
    obtain ⟨a, xs, rfl, sq, rl⟩ := r
    cases hl : toPyL ds with
    | none => simp [toPy, hl] at h
    | some ps =>
      simp [toPy, hl] at h
      subst h
      exact .lst (sq_of sq) (RepL.dp rl hl)
  | .scr _, _, _, _, h => by simp [toPy] at h
  | .dic _ _, _, _, _, h => by simp [toPy] at h
  | .obj _ _, _, _, _, h => by simp [toPy] at h
theorem RepL.dp {T : Tx} {G : Hp} : ∀ {ds : List D} {vs : List V} {ps : List PyData}, RepL T G ds vs → toPyL ds = some ps → DpAll T.K G vs ps
  | [], _, _, r, h => by
    cases (show _ = [] from r)
    cases h
    exact .nil
  | d :: ds, _, _, r, h => by
    obtain ⟨v, t, rfl, r1, r2⟩ := r
    cases h1 : toPy d with
    | none => simp [toPyL, h1] at h
    | some p =>
      cases h2 : toPyL ds with
      | none => simp [toPyL, h1, h2] at h
      | some ps =>
        simp [toPyL, h1, h2] at h
        subst h
        exact .cons (Rep.dp r1 h1) (RepL.dp r2 h2)
end
mutual
theorem dp_mono {K : PySem.W.Frag} {G H : Hp} (e : Ex G H) : ∀ {v : V} {p : PyData}, Dp K G v p → Dp K H v p
  | _, _, .non => .non
  | _, _, .bl b => .bl b
  | _, _, .int i => .int i
  | _, _, .str x => .str x
  | _, _, .lst s a => .lst (ex_l e s) (dpAll_mono e a)
  | _, _, .tup s a => .tup (ex_t e s) (dpAll_mono e a)
theorem dpAll_mono {K : PySem.W.Frag} {G H : Hp} (e : Ex G H) : ∀ {v : List V} {p : List PyData}, DpAll K G v p → DpAll K H v p
  | _, _, .nil => .nil
  | _, _, .cons a b => .cons (dp_mono e a) (dpAll_mono e b)
end
def eqP (a b : D) : Option Bool := match toPy a, toPy b with
  | some p, some q => if SeqAt.shaped p = true ∧ SeqAt.shaped q = true then some (PyData.eqv p q) else none
  | _, _ => none
theorem eqP_some {a b : D} {k : Bool} (h : eqP a b = some k) : ∃ p q, toPy a = some p ∧ toPy b = some q ∧ SeqAt.shaped p = true ∧ SeqAt.shaped q = true ∧ PyData.eqv p q = k := by
  unfold eqP at h
  split at h
  · rename_i p q hp hq
    split at h
    · rename_i hs
      exact ⟨p, q, hp, hq, hs.1, hs.2, Option.some.inj h⟩
    · cases h
  · cases h
def eqPD (a b : D) : Res D := match eqP a b with
  | some k => .ok (.bl k)
  | none => .bad
def nePD (a b : D) : Res D := match eqP a b with
  | some k => .ok (.bl (!k))
  | none => .bad
section
variable {T : Tx}
theorem p_eqP : Prim2 T (rEqD T.K) eqPD := by
  intro G H x y a b Q e ra rb h
  unfold eqPD at h
  cases hk : eqP a b with
  | none => rw [hk] at h; exact h.elim
  | some k =>
    rw [hk] at h
    obtain ⟨p, q, hp, hq, sp, sq, ev⟩ := eqP_some hk
    exact ⟨p, q, dp_mono e (ra.dp hp), dp_mono e (rb.dp hq), sp, sq, by rw [ev]; exact h.val e rfl⟩
theorem p_neP : Prim2 T (rNeD T.K) nePD := by
  intro G H x y a b Q e ra rb h
  unfold nePD at h
  cases hk : eqP a b with
  | none => rw [hk] at h; exact h.elim
  | some k =>
    rw [hk] at h
    obtain ⟨p, q, hp, hq, sp, sq, ev⟩ := eqP_some hk
    exact ⟨p, q, dp_mono e (ra.dp hp), dp_mono e (rb.dp hq), sp, sq, by rw [ev]; exact h.val e rfl⟩
/-! ### repr -/
def rRepr (K : PySem.W.Frag) : List V → Hp → VK → Prop := fun xs H Q => ∃ x d, xs = [x] ∧ Dp K H x d ∧ d.showable = true ∧ d.hasDict = false ∧ d.depth ≤ 60 ∧ d.shown.length ≤ sizeLine ∧ Q (.str d.shown) H
theorem call_repr {X : Cx} {k : Nat} (hr : Rm k X.A) : CallR X (.builtin "repr") (rRepr X.K) := by
  intro pins s σ H xs us Q I r h
  obtain ⟨x, d, rfl, dp, hs, hd, hdep, hsz, q⟩ := h
  obtain ⟨u, rfl, ru⟩ := vals1 r
  have fin : ∀ (h' : Heap) (u : Tok) (tk : Nat), (∀ b o, s.heap.get? b = some o → h'.get? b = some o) → EP X pins σ Q (.str d.shown u) { s with heap := h', toks := tk } := fun h' u tk hk => ⟨.str d.shown, H, I.kept (t' := tk) hk, ⟨u, rfl⟩, q⟩
  have fin0 : EP X pins σ Q (.str d.shown s.toks) { s with toks := s.toks + 1 } := fin s.heap _ _ fun _ _ e => e
  cases dp with
  | non => cases ru; exact PySem.P.repr_of_none fin0
  | bl b => cases ru; exact PySem.P.repr_of_bool fin0
  | int i =>
    obtain ⟨t, rfl⟩ := ru
    exact PySem.P.repr_of_int (by simpa [PyData.showable] using hs) fin0
  | str y =>
    obtain ⟨t, rfl⟩ := ru
    exact PySem.P.repr_of_str fin0 hsz
  | lst s1 s2 =>
    rename_i a ys ds
    obtain ⟨as, rd⟩ := Dp.reads I (.list ds) (.ref a) u (.lst s1 s2) ru
    cases ru
    exact repr_of_reads' rd hs (PyData.noDict_hsm hd) hr.g (by have := hr.r.units; omega) (fun _ _ e => e) fin hsz
  | tup s1 s2 =>
    rename_i a ys ds
    obtain ⟨as, rd⟩ := Dp.reads I (.tuple ds) (.ref a) u (.tup s1 s2) ru
    cases ru
    exact repr_of_reads' rd hs (PyData.noDict_hsm hd) hr.g (by have := hr.r.units; omega) (fun _ _ e => e) fin hsz
def reprP (d : D) : Option Str := match toPy d with
  | some p => if p.showable = true ∧ p.hasDict = false ∧ p.depth ≤ 60 ∧ p.shown.length ≤ 1000000 then some p.shown else none
  | none => none
def reprF : List D → Res D
  | [d] => match reprP d with
    | some x => .ok (.str x)
    | none => .bad
  | _ => .bad
theorem RepL.one {G : Hp} {d : D} {xs : List V} (r : RepL T G [d] xs) : ∃ v, xs = [v] ∧ Rep T G d v := by
  obtain ⟨v, t, rfl, r1, r2⟩ := r
  cases (show t = [] from r2)
  exact ⟨v, rfl, r1⟩
theorem RepL.two {G : Hp} {d e : D} {xs : List V} (r : RepL T G [d, e] xs) : ∃ v w, xs = [v, w] ∧ Rep T G d v ∧ Rep T G e w := by
  obtain ⟨v, t, rfl, r1, r2⟩ := r
  obtain ⟨w, rfl, r3⟩ := RepL.one r2
  exact ⟨v, w, rfl, r1, r3⟩
theorem p_repr : PrimA T (rRepr T.K) reprF := by
  intro G H xs as Q e r h
  unfold reprF at h
  split at h
  · rename_i d
    obtain ⟨v, rfl, rv⟩ := r.one
    unfold reprP at h
    cases hp : toPy d with
    | none => rw [hp] at h; exact h.elim
    | some p =>
      rw [hp] at h
      dsimp only at h
      by_cases hc : p.showable = true ∧ p.hasDict = false ∧ p.depth ≤ 60 ∧ p.shown.length ≤ 1000000
      · rw [if_pos hc] at h
        exact ⟨v, p, rfl, dp_mono e (rv.dp hp), hc.1, hc.2.1, hc.2.2.1, sz_ok hc.2.2.2, h.val e rfl⟩
      · rw [if_neg hc] at h
        exact h.elim
  · exact h.elim
/-! ### items -/
def ixF (a b : D) : Res D := match a, b with
  | .lst ds, .int i => match atI ds i with
    | some d => .ok d
    | none => .bad
  | .tup ds, .int i => match atI ds i with
    | some d => .ok d
    | none => .bad
  | .scr ns, .int i => match atI ns i with
    | some n => .ok (.int n)
    | none => .bad
  | .str x, .int i => if x.length ≤ 1000000 then match atI x.cps.toList i with
    | some c => .ok (.str ⟨#[c]⟩)
    | none => .bad else .bad
  | _, _ => .bad
theorem atI_rep {G : Hp} {ds : List D} {vs : List V} {i : Int} {d : D} (r : RepL T G ds vs) (h : atI ds i = some d) : ∃ v, atI vs i = some v ∧ Rep T G d v := by
  unfold atI at h ⊢
  rw [r.length]
  cases hx : ixN ds.length i with
  | none => rw [hx] at h; cases h
  | some j =>
    rw [hx] at h
    exact r.get h
theorem p_ix : Prim2 T (rIx T.K) ixF := by
  intro G H x y a b Q e ra rb h
  unfold ixF at h
  split at h
  · rename_i ds i
    obtain ⟨l, xs, rfl, h1, r1⟩ := ra
    cases hk : atI ds i with
    | none => rw [hk] at h; exact h.elim
    | some d =>
      rw [hk] at h
      obtain ⟨v, hv, rv⟩ := atI_rep r1 hk
      exact .inl ⟨l, xs, i, v, rfl, rb, sq_of (e _ _ h1), hv, h.val e rv⟩
  · rename_i ds i
    obtain ⟨l, xs, rfl, h1, r1⟩ := ra
    cases hk : atI ds i with
    | none => rw [hk] at h; exact h.elim
    | some d =>
      rw [hk] at h
      obtain ⟨v, hv, rv⟩ := atI_rep r1 hk
      exact .inr (.inl ⟨l, xs, i, v, rfl, rb, ex_t e h1.sq, hv, h.val e rv⟩)
  · rename_i ns i
    obtain ⟨l, rfl, h1⟩ := ra
    cases hk : atI ns i with
    | none => rw [hk] at h; exact h.elim
    | some n =>
      rw [hk] at h
      refine .inl ⟨l, _, i, .int n, rfl, rb, ex_l e h1, ?_, h.val e rfl⟩
      unfold atI at hk ⊢
      rw [List.length_map]
      cases hx : ixN ns.length i with
      | none => rw [hx] at hk; cases hk
      | some j =>
        rw [hx] at hk
        show (ns.map V.int)[j]? = some (.int n)
        rw [List.getElem?_map, show ns[j]? = some n from hk]
        rfl
  · rename_i z i
    split at h
    · rename_i hz
      cases hk : atI z.cps.toList i with
      | none => rw [hk] at h; exact h.elim
      | some c =>
        rw [hk] at h
        exact .inr (.inr ⟨z, i, c, ra, rb, sz_ok hz, hk, h.val e rfl⟩)
    · exact h.elim
  · exact h.elim
/-! ### len, min, max, int, abs, all, any, sum -/
def lenF : List D → Res D
  | [.lst ds] => .ok (.int ds.length)
  | [.tup ds] => .ok (.int ds.length)
  | [.scr ds] => .ok (.int ds.length)
  | [.str x] => if x.length ≤ 1000000 then .ok (.int x.length) else .bad
  | _ => .bad
theorem p_len : PrimA T (fun xs H Q => ∃ x n, xs = [x] ∧ LenV T.K x H n ∧ Q (.int n) H) lenF := by
  intro G H xs as Q e r h
  unfold lenF at h
  split at h
  · obtain ⟨v, rfl, a, ys, rfl, h1, r1⟩ := r.one
    exact ⟨_, _, rfl, .inl ⟨ys, sq_of (e _ _ h1), rfl⟩, by rw [r1.length]; exact h.val e rfl⟩
  · obtain ⟨v, rfl, a, ys, rfl, h1, r1⟩ := r.one
    exact ⟨_, _, rfl, .inr ⟨ys, ex_t e h1.sq, rfl⟩, by rw [r1.length]; exact h.val e rfl⟩
  · obtain ⟨v, rfl, a, rfl, h1⟩ := r.one
    exact ⟨_, _, rfl, .inl ⟨_, ex_l e h1, rfl⟩, by rw [List.length_map]; exact h.val e rfl⟩
  · rename_i x
    obtain ⟨v, rfl, r1⟩ := r.one
    cases (show v = .str x from r1)
    split at h
    · rename_i hz
      exact ⟨_, _, rfl, ⟨sz_ok hz, rfl⟩, h.val e rfl⟩
    · exact h.elim
  · exact h.elim
def max2F : List D → Res D
  | [.int i, .int j] => .ok (.int (if j > i then j else i))
  | _ => .bad
def min2F : List D → Res D
  | [.int i, .int j] => .ok (.int (if j < i then j else i))
  | _ => .bad
theorem p_max2 : PrimA T (fun xs H Q => ∃ i j, xs = [.int i, .int j] ∧ Q (.int (if j > i then j else i)) H) max2F := by
  intro G H xs as Q e r h
  unfold max2F at h
  split at h
  · rename_i i j
    obtain ⟨v, w, rfl, r1, r2⟩ := r.two
    cases (show v = .int i from r1)
    cases (show w = .int j from r2)
    exact ⟨i, j, rfl, h.val e rfl⟩
  · exact h.elim
theorem p_min2 : PrimA T (fun xs H Q => ∃ i j, xs = [.int i, .int j] ∧ Q (.int (if j < i then j else i)) H) min2F := by
  intro G H xs as Q e r h
  unfold min2F at h
  split at h
  · rename_i i j
    obtain ⟨v, w, rfl, r1, r2⟩ := r.two
    cases (show v = .int i from r1)
    cases (show w = .int j from r2)
    exact ⟨i, j, rfl, h.val e rfl⟩
  · exact h.elim
def intF : List D → Res D
  | [.int i] => .ok (.int i)
  | [.bl b] => .ok (.int (if b then 1 else 0))
  | _ => .bad
theorem p_int : PrimA T (fun xs H Q => (∃ i, xs = [.int i] ∧ Q (.int i) H) ∨ ∃ k, xs = [.bl k] ∧ Q (.int (if k then 1 else 0)) H) intF := by
  intro G H xs as Q e r h
  unfold intF at h
  split at h
  · rename_i i
    obtain ⟨v, rfl, r1⟩ := r.one
    cases (show v = .int i from r1)
    exact .inl ⟨i, rfl, h.val e rfl⟩
  · rename_i i
    obtain ⟨v, rfl, r1⟩ := r.one
    cases (show v = .bl i from r1)
    exact .inr ⟨i, rfl, h.val e rfl⟩
  · exact h.elim
def absF : List D → Res D
  | [.int i] => .ok (.int (if i < 0 then -i else i))
  | _ => .bad
theorem p_abs : PrimA T (fun xs H Q => ∃ i, xs = [.int i] ∧ Q (.int (if i < 0 then -i else i)) H) absF := by
  intro G H xs as Q e r h
  unfold absF at h
  split at h
  · rename_i i
    obtain ⟨v, rfl, r1⟩ := r.one
    cases (show v = .int i from r1)
    exact ⟨i, rfl, h.val e rfl⟩
  · exact h.elim
/-- a list of truth values, of numbers, of texts -/
def blsD : List D → Option (List Bool)
  | [] => some []
  | .bl b :: r => (blsD r).map (b :: ·)
  | _ => none
def numsD : List D → Option (List Int)
  | [] => some []
  | .int b :: r => (numsD r).map (b :: ·)
  | _ => none
def strsD : List D → Option (List Str)
  | [] => some []
  | .str b :: r => (strsD r).map (b :: ·)
  | _ => none
theorem blsD_rep {G : Hp} : ∀ {ds : List D} {vs : List V} {bs : List Bool}, RepL T G ds vs → blsD ds = some bs → vs = bs.map V.bl
  | [], _, _, r, h => by cases h; exact r
  | d :: ds, _, _, r, h => by
    obtain ⟨v, t, rfl, r1, r2⟩ := r
    cases d with
    | bl b =>
      cases hd : blsD ds with
      | none => simp [blsD, hd] at h
      | some cs =>
        simp [blsD, hd] at h
        subst h
        cases (show v = .bl b from r1)
        rw [blsD_rep r2 hd]
        rfl
    | _ => simp [blsD] at h
theorem numsD_rep {G : Hp} : ∀ {ds : List D} {vs : List V} {bs : List Int}, RepL T G ds vs → numsD ds = some bs → vs = bs.map V.int
  | [], _, _, r, h => by cases h; exact r
  | d :: ds, _, _, r, h => by
    obtain ⟨v, t, rfl, r1, r2⟩ := r
    cases d with
    | int b =>
      cases hd : numsD ds with
      | none => simp [numsD, hd] at h
      | some cs =>
        simp [numsD, hd] at h
        subst h
        cases (show v = .int b from r1)
        rw [numsD_rep r2 hd]
        rfl
    | _ => simp [numsD] at h
theorem strsD_rep {G : Hp} : ∀ {ds : List D} {vs : List V} {bs : List Str}, RepL T G ds vs → strsD ds = some bs → vs = bs.map V.str
  | [], _, _, r, h => by cases h; exact r
  | d :: ds, _, _, r, h => by
    obtain ⟨v, t, rfl, r1, r2⟩ := r
    cases d with
    | str b =>
      cases hd : strsD ds with
      | none => simp [strsD, hd] at h
      | some cs =>
        simp [strsD, hd] at h
        subst h
        cases (show v = .str b from r1)
        rw [strsD_rep r2 hd]
        rfl
    | _ => simp [strsD] at h
def allF : List D → Res D
  | [.lst ds] => match blsD ds with
    | some bs => .ok (.bl (bs.all id))
    | none => .bad
  | _ => .bad
def anyF : List D → Res D
  | [.lst ds] => match blsD ds with
    | some bs => .ok (.bl (bs.any id))
    | none => .bad
  | _ => .bad
def sumF : List D → Res D
  | [.lst ds] => match numsD ds with
    | some bs => .ok (.int bs.sum)
    | none => .bad
  | _ => .bad
theorem p_all : PrimA T (rAll T.K) allF := by
  intro G H xs as Q e r h
  unfold allF at h
  split at h
  · rename_i ds
    obtain ⟨v, rfl, a, ys, rfl, h1, r1⟩ := r.one
    cases hb : blsD ds with
    | none => rw [hb] at h; exact h.elim
    | some bs =>
      rw [hb] at h
      have := blsD_rep r1 hb
      subst this
      exact ⟨a, bs, rfl, sq_of (e _ _ h1), h.val e rfl⟩
  · exact h.elim
theorem p_any : PrimA T (rAny T.K) anyF := by
  intro G H xs as Q e r h
  unfold anyF at h
  split at h
  · rename_i ds
    obtain ⟨v, rfl, a, ys, rfl, h1, r1⟩ := r.one
    cases hb : blsD ds with
    | none => rw [hb] at h; exact h.elim
    | some bs =>
      rw [hb] at h
      have := blsD_rep r1 hb
      subst this
      exact ⟨a, bs, rfl, sq_of (e _ _ h1), h.val e rfl⟩
  · exact h.elim
theorem p_sum : PrimA T (rSum T.K) sumF := by
  intro G H xs as Q e r h
  unfold sumF at h
  split at h
  · rename_i ds
    obtain ⟨v, rfl, a, ys, rfl, h1, r1⟩ := r.one
    cases hb : numsD ds with
    | none => rw [hb] at h; exact h.elim
    | some bs =>
      rw [hb] at h
      have := numsD_rep r1 hb
      subst this
      exact ⟨a, bs, rfl, sq_of (e _ _ h1), h.val e rfl⟩
  · exact h.elim
def tupleF : List D → Res D
  | [.lst ds] => .ok (.tup ds)
  | [.tup ds] => .ok (.tup ds)
  | _ => .bad
def listF : List D → Res D
  | [.lst ds] => .ok (.lst ds)
  | [.tup ds] => .ok (.lst ds)
  | _ => .bad
def rTupleP (K : PySem.W.Frag) : List V → Hp → VK → Prop := fun xs H Q => ∃ p ys, xs = [.ref p] ∧ ((SqL K H p ys ∧ ∀ l o, H l = none → o.dict = none → Q (.ref l) (upd H l (.frz o (.tup ys)))) ∨ (SqT K H p ys ∧ Q (.ref p) H))
theorem call_tupleP {X : Cx} : CallR X (.type "tuple") (rTupleP X.K) := by
  intro pins s σ H xs us Q I r h
  obtain ⟨p, ys, rfl, h⟩ := h
  obtain ⟨u, rfl, rx⟩ := vals1 r
  cases rx
  rcases h with ⟨hq, q⟩ | ⟨hq, q⟩
  · obtain ⟨its, r', pl, hz⟩ := I.list hq
    have hlen := r'.length
    refine PySem.call_tuple_list pl.isList (fun h' kp => ?_) (by simp only [List.size_toArray] <;> omega)
    have I1 : Inv X pins σ H { s with heap := h' } := I.kept (t' := s.toks) kp
    have I2 : Inv X pins σ (upd H h'.objs.size (.frz { cls := .type "tuple", data := .seq its.toArray } (.tup ys))) { s with heap := h'.push { cls := .type "tuple", data := .seq its.toArray } } :=
      I1.laid (t' := s.toks) (fun b o e => Heap.get?_push_of_some _ e) (Nat.le_refl _) (show ObjOk X.prog X.w _ _ _ (.frz { cls := .type "tuple", data := .seq its.toArray } (.tup ys)) from ⟨Heap.get?_push_size _ rfl, hz, its, r', ⟨_, Heap.get?_push_size _ rfl, rfl, _, rfl⟩⟩)
    exact ⟨.ref h'.objs.size, _, I2, rfl, q _ _ (I1.hok.fresh (Nat.le_refl _)) rfl⟩
  · obtain ⟨its, r', pl, hz⟩ := I.tuple hq
    exact PySem.call_tuple_same pl ⟨.ref p, H, I, rfl, q⟩
theorem p_tuple : PrimA T (rTupleP T.K) tupleF := by
  intro G H xs as Q e r h
  unfold tupleF at h
  split at h
  · obtain ⟨v, rfl, a, ys, rfl, h1, r1⟩ := r.one
    exact ⟨a, ys, rfl, .inl ⟨sq_of (e _ _ h1), fun l o hl ho => h.tup ho e r1 hl⟩⟩
  · obtain ⟨v, rfl, rv⟩ := r.one
    have rv0 := rv
    obtain ⟨a, ys, rfl, h1, r1⟩ := rv
    exact ⟨a, ys, rfl, .inr ⟨ex_t e h1.sq, h.val e rv0⟩⟩
  · exact h.elim
theorem p_list : PrimA T (fun xs H Q => ∃ p ys, xs = [.ref p] ∧ (SqL T.K H p ys ∨ SqT T.K H p ys) ∧ ∀ l, H l = none → Q (.ref l) (upd H l (.lst ys))) listF := by
  intro G H xs as Q e r h
  unfold listF at h
  split at h
  · obtain ⟨v, rfl, a, ys, rfl, h1, r1⟩ := r.one
    exact ⟨a, ys, rfl, .inl (sq_of (e _ _ h1)), fun l hl => h.lst e r1 hl⟩
  · obtain ⟨v, rfl, a, ys, rfl, h1, r1⟩ := r.one
    exact ⟨a, ys, rfl, .inr (ex_t e h1.sq), fun l hl => h.lst e r1 hl⟩
  · exact h.elim
/-! ### list * int -/
def repL (ds : List D) (k : Int) : Res D := if (-(2 ^ 63) ≤ k ∧ k < 2 ^ 63) ∧ ds.length * k.toNat ≤ 1000000 then .ok (.lst (List.replicate k.toNat ds).flatten) else .bad
def mulD : D → D → Res D := fun a b => match a, b with
  | .lst ds, .int k => repL ds k
  | a, b => mulI a b
def rMulA : R2 := fun x y H Q => (rI CMul fun i j => .int (i * j)) x y H Q ∨ rRep x y H Q
theorem op_mulA {X : Cx} : OpR X (binaryOp .Mult) rMulA := OpR.or op_mul op_rep
theorem repl_rep {G : Hp} {ds : List D} {vs : List V} (r : RepL T G ds vs) : ∀ n : Nat, RepL T G (List.replicate n ds).flatten (List.replicate n vs).flatten
  | 0 => rfl
  | n + 1 => by
    rw [List.replicate_succ, List.replicate_succ, List.flatten_cons, List.flatten_cons]
    exact r.append (repl_rep r n)
theorem p_mulA : Prim2 T rMulA mulD := by
  intro G H x y a b Q e ra rb h
  unfold mulD at h
  split at h
  · rename_i ds k
    unfold repL at h
    split at h
    · rename_i hc
      obtain ⟨l, xs, rfl, h1, r1⟩ := ra
      exact .inr ⟨l, k, xs, rfl, rb, e _ _ h1, hc.1.1, hc.1.2, by rw [r1.length]; exact sz_ok hc.2, fun p hp => h.lst e (repl_rep r1 k.toNat) hp⟩
    · exact h.elim
  · exact .inl (p_mulI G H x y _ _ Q e ra rb h)
end
section
variable {X : Cx} {T : Tx} {W : WishX} {a b : Expr} {m1 m2 : MM D} {pos : Pos}
theorem me_ix (hK : X.K = T.K) (ha : ME X T W a m1) (hb : ME X T W b m2) (hs : PlainIx b := by exact fun _ _ => rfl) : ME X T W (.Subscript a b pos) (opM ixF m1 m2) := by
  refine pe_imp (pe_ix ix_seq ha hb hs) fun σ H Q ⟨A, F, G, β, s, p⟩ => ?_
  exact ⟨A, F, G, β, s, p.bindE fun d β1 v G1 H1 e1 s1 r1 p1 => ⟨A, F, G1, β1, s1, p1.bindE fun d2 β2 v2 G2 H2 e2 s2 r2 p2 => hK ▸ p_ix G2 H2 v v2 d d2 Q s2.gh (r1.mono e2) r2 (p2.prim s2)⟩⟩
theorem me_mul (ha : ME X T W a m1) (hb : ME X T W b m2) : ME X T W (.BinOp a .Mult b pos) (opM mulD m1 m2) := me_op op_mulA p_mulA ha hb
end
end Fw
end

section
set_option Elab.async false
set_option linter.all false
set_option maxRecDepth 100000
set_option maxHeartbeats 4000000
set_option autoImplicit false
namespace Fw
open PySem L2 Evl
/-- return of a fresh list -/
def retF (m : MM (List D)) : MM Fl := fun β => (m β).bind fun p => .ok (.rf p.1, p.2)
theorem ms_retF {X : Cx} {T : Tx} {W : WishX} {e : Expr} {m : MM (List D)} {pos : Pos} (he : MF X T W e m) : MS X T W (.Return (some e) pos) (retF m) := by
  refine ps_imp (ps_ret he) fun D σ H ⟨A, F, G, β, s, p⟩ => ?_
  exact ⟨A, F, G, β, s, PostS.bindF p fun ds β1 a xs G1 H1 e1 s1 h1 g1 f1 no r1 p1 => p1 a xs σ G1 H1 (Ex.refl _) s1 h1 g1 f1 r1⟩
/-- a, b = x, y with plain local names -/
def parM (i j : Nat) (m : MM (List D)) : MM Fl := fun β => (m β).bind fun p => match p.1 with
  | [a, b] => (setB i (.im a) p.2).bindB fun β1 => (setB j (.im b) β1).bindB fun β2 => .ok (.nx, β2)
  | _ => .bad
theorem ms_par {X : Cx} {T : Tx} {W : WishX} {i j : Nat} {x y : Str} {a b : Expr} {m : MM (List D)} {px py pt pt2 pos : Pos} {kt k2 : Nat} (hc : X.calm = true) (hN : X.N.Nodup) (hi : X.N[i]? = some x) (hj : X.N[j]? = some y) (hij : i ≠ j)
    (hx : X.env.scope.names.lookup x = some .local) (hy : X.env.scope.names.lookup y = some .local) (ha : MA X T W [a, b] m)
    (hw : swappedStores [.Tuple [.Name x px, .Name y py] kt pt] (.Tuple [a, b] k2 pt2) X.env = pure (some [x, y])) (hs : swapsWithSole [.Tuple [.Name x px, .Name y py] kt pt] (.Tuple [a, b] k2 pt2) pos.line X.env = pure false := by rfl) :
    MS X T W (.Assign [.Tuple [.Name x px, .Name y py] kt pt] (.Tuple [a, b] k2 pt2) pos) (parM i j m) := by
  refine ps_imp (ps_par hc hN hi hj hij hx hy ha hw hs) fun D σ H ⟨A, F, G, β, s, p⟩ => ?_
  refine ⟨A, F, G, β, s, PostS.bindA p fun ds β1 vs G1 H1 e1 s1 r1 p1 => ?_⟩
  dsimp only at p1
  split at p1
  · rename_i d1 d2
    obtain ⟨v, w, rfl, rv, rw'⟩ := r1.two
    refine ⟨v, w, rfl, ?_⟩
    cases h1 : setB i (.im d1) β1 with
    | ok β2 =>
      rw [h1] at p1
      dsimp only [Res.bindB_ok] at p1
      cases h2 : setB j (.im d2) β2 with
      | ok β3 =>
        rw [h2] at p1
        exact p1 _ G1 H1 (Ex.refl _) ((s1.setIm h1 rv).setIm h2 rw')
      | exc _ _ => rw [h2] at p1; exact p1.elim
      | bad => rw [h2] at p1; exact p1.elim
    | exc _ _ => rw [h1] at p1; exact p1.elim
    | bad => rw [h1] at p1; exact p1.elim
  · exact p1.elim
end Fw
end

section
set_option Elab.async false
set_option linter.all false
set_option maxRecDepth 100000
set_option maxHeartbeats 4000000
set_option autoImplicit false
namespace Fw
open PySem L2 Evl
/-- a rule chosen by what the mirror gives -/
theorem me_by {X : Cx} {T : Tx} {W : WishX} {e : Expr} {m : MM D} (h : ∀ β, ∃ t, PE X e t ∧ ∀ A F G σ H Q, SI T A F G H σ β → PostE T A W F G σ (m β) Q → t σ H Q) : ME X T W e m :=
  ⟨fun pins s σ H Q I ⟨A, F, G, β, si, p⟩ => let ⟨_, pe, k⟩ := h β; pe.run pins s σ H Q I (k A F G σ H Q si p)⟩
/-! ### dicts -/
def keyD : D → Option Key
  | .int i => some (.inl i)
  | .str x => some (.inr x)
  | _ => none
def valD (kvs : List (Key × D)) (k : Key) : Option D := (kvs.find? fun kv => decide (kv.1 = k)).map (·.2)
def putD (kvs : List (Key × D)) (k : Key) (v : D) : List (Key × D) :=
  if (kvs.any fun kv => decide (kv.1 = k)) = true then kvs.map (fun kv => if kv.1 = k then (kv.1, v) else kv) else kvs ++ [(k, v)]
def OptRep (T : Tx) (G : Hp) : Option D → Option V → Prop
  | some d, some v => Rep T G d v
  | none, none => True
  | _, _ => False
section
variable {T : Tx} {G H : Hp}
theorem keyD_rep {d : D} {v : V} {k : Key} (r : Rep T G d v) (h : keyD d = some k) : v = kV k := by
  cases d with
  | int i => cases h; exact r
  | str x => cases h; exact r
  | _ => cases h
theorem valD_rep (k : Key) : ∀ {ds : List (Key × D)} {vs : List (Key × V)}, RepK T G ds vs → OptRep T G (valD ds k) (valV vs k)
  | [], _, r => by
    cases (show _ = [] from r)
    exact True.intro
  | (k1, d) :: ds, _, r => by
    obtain ⟨v, t, rfl, r1, r2⟩ := r
    by_cases e : k1 = k
    · rw [valV_pos (p := (k1, v)) e]
      have : valD ((k1, d) :: ds) k = some d := by simp [valD, List.find?_cons, e]
      rw [this]
      exact r1
    · rw [valV_neg (p := (k1, v)) e]
      have : valD ((k1, d) :: ds) k = valD ds k := by simp [valD, List.find?_cons, e]
      rw [this]
      exact valD_rep k r2
theorem repK_any (k : Key) : ∀ {ds : List (Key × D)} {vs : List (Key × V)}, RepK T G ds vs → (ds.any fun kv => decide (kv.1 = k)) = (vs.any fun kv => decide (kv.1 = k))
  | [], _, r => by
    cases (show _ = [] from r)
    rfl
  | (k1, d) :: ds, _, r => by
    obtain ⟨v, t, rfl, r1, r2⟩ := r
    simp only [List.any_cons]
    rw [repK_any k r2]
theorem repK_map (k : Key) {d : D} {v : V} (rd : Rep T G d v) : ∀ {ds : List (Key × D)} {vs : List (Key × V)}, RepK T G ds vs → RepK T G (ds.map (fun kv => if kv.1 = k then (kv.1, d) else kv)) (vs.map (fun kv => if kv.1 = k then (kv.1, v) else kv))
  | [], _, r => by
    cases (show _ = [] from r)
    exact rfl
  | (k1, d1) :: ds, _, r => by
    obtain ⟨v1, t, rfl, r1, r2⟩ := r
    simp only [List.map_cons]
    by_cases e : k1 = k
    · rw [if_pos e, if_pos e]
      exact ⟨v, _, rfl, rd, repK_map k rd r2⟩
    · rw [if_neg e, if_neg e]
      exact ⟨v1, _, rfl, r1, repK_map k rd r2⟩
theorem repK_append {ds2 : List (Key × D)} {vs2 : List (Key × V)} (r' : RepK T G ds2 vs2) : ∀ {ds : List (Key × D)} {vs : List (Key × V)}, RepK T G ds vs → RepK T G (ds ++ ds2) (vs ++ vs2)
  | [], _, r => by
    cases (show _ = [] from r)
    exact r'
  | (k1, d1) :: ds, _, r => by
    obtain ⟨v1, t, rfl, r1, r2⟩ := r
    exact ⟨v1, _, rfl, r1, repK_append r' r2⟩
theorem putD_rep {k : Key} {d : D} {v : V} {ds : List (Key × D)} {vs : List (Key × V)} (r : RepK T G ds vs) (rd : Rep T G d v) : RepK T G (putD ds k d) (putK vs k v) := by
  unfold putD putK
  rw [repK_any k r]
  split
  · exact repK_map k rd r
  · exact repK_append (ds2 := [(k, d)]) (vs2 := [(k, v)]) ⟨v, [], rfl, rd, rfl⟩ r
theorem RepK.length : ∀ {ds : List (Key × D)} {vs : List (Key × V)}, RepK T G ds vs → vs.length = ds.length
  | [], _, r => by
    cases (show _ = [] from r)
    rfl
  | (k1, d1) :: ds, _, r => by
    obtain ⟨v1, t, rfl, r1, r2⟩ := r
    simp [RepK.length r2]
end
/-- d[k], or an item of a list, a tuple, a text -/
def subF (a b : D) : Res D := match a with
  | .dic _ kvs => match keyD b with
    | some k => match valD kvs k with
      | some d => .ok d
      | none => .bad
    | none => .bad
  | a => ixF a b
section
variable {X : Cx} {T : Tx} {W : WishX} {a b c : Expr} {m1 m2 m3 : MM D} {pos : Pos}
theorem me_sub' (hK : X.K = T.K) (hu : X.A.units + 1 < cLine) (ha : ME X T W a m1) (hb : ME X T W b m2) (hs : PlainIx b := by exact fun _ _ => rfl) (hn : NoSl b := by exact fun _ _ => rfl) : ME X T W (.Subscript a b pos) (opM subF m1 m2) := by
  refine me_by fun β => ?_
  cases hm : m1 β with
  | ok q =>
    obtain ⟨d, β1⟩ := q
    cases d with
    | dic l kvs =>
      refine ⟨_, pe_dget hu ha hb hn, fun A F G σ H Q si p => ⟨A, F, G, β, si, ?_⟩⟩
      unfold opM at p
      rw [hm] at p ⊢
      intro v G1 H1 e1 s1 r1
      have r0 := r1
      obtain ⟨x, ys, rfl, hx, rk⟩ := r1
      have p1 := PostE.mono e1 p
      refine ⟨A, F, G1, β1, s1, PostE.bindE p1 fun d2 β2 v2 G2 H2 e2 s2 r2 p2 => ?_⟩
      dsimp only [subF] at p2
      cases hk : keyD d2 with
      | none => rw [hk] at p2; exact p2.elim
      | some k =>
        rw [hk] at p2
        dsimp only at p2
        cases hv : valD kvs k with
        | none => rw [hv] at p2; exact p2.elim
        | some w =>
          rw [hv] at p2
          have hor := valD_rep k (rk.mono e2)
          rw [hv] at hor
          cases hw : valV ys k with
          | none => rw [hw] at hor; exact hor.elim
          | some u =>
            rw [hw] at hor
            refine ⟨x, u, rfl, ?_, p2 u G2 H2 (Ex.refl _) s2 hor⟩
            rw [keyD_rep r2 hk, ← hw]
            exact .inl ⟨ys, k, ((hx.mono e2).mono s2.gh).1, rfl, rfl⟩
    | _ =>
      refine ⟨_, me_ix hK ha hb hs, fun A F G σ H Q si p => ⟨A, F, G, β, si, ?_⟩⟩
      unfold opM at p ⊢
      rw [hm] at p ⊢
      exact p
  | exc c fs =>
    refine ⟨_, me_ix hK ha hb hs, fun A F G σ H Q si p => ⟨A, F, G, β, si, ?_⟩⟩
    unfold opM at p ⊢
    rw [hm] at p ⊢
    exact p
  | bad => exact ⟨_, me_ix hK ha hb hs, fun A F G σ H Q si p => by unfold opM at p; rw [hm] at p; exact p.elim⟩
/-- d.get(k, x) -/
def get2M (m1 m2 m3 : MM D) : MM D := fun β => (m1 β).bind fun p => match p.1 with
  | .dic _ kvs => (m2 p.2).bind fun q => (m3 q.2).bind fun r => match keyD q.1 with
    | some k => .ok ((valD kvs k).getD r.1, r.2)
    | none => .bad
  | _ => .bad
theorem me_get2 {apos cpos : Pos} (hu : X.A.units + 1 < cLine) (ha : ME X T W a m1) (hb : ME X T W b m2) (hc : ME X T W c m3) (m : M2 X a "get" apos b c cpos) : ME X T W (.Call (.Attribute a "get" apos) [b, c] [] cpos) (get2M m1 m2 m3) := by
  refine pe_imp (pe_dget2 hu ha hb hc m) fun σ H Q ⟨A, F, G, β, s, p⟩ => ?_
  refine ⟨A, F, G, β, s, p.bindE fun d β1 v G1 H1 e1 s1 r1 p1 => ?_⟩
  dsimp only at p1
  split at p1
  · rename_i l kvs
    obtain ⟨x, ys, rfl, hx, rk⟩ := r1
    refine ⟨x, rfl, .inl ⟨ys, (hx.mono s1.gh).1⟩, A, F, G1, β1, s1, p1.bindE fun d2 β2 v2 G2 H2 e2 s2 r2 p2 => ⟨A, F, G2, β2, s2, p2.bindE fun d3 β3 v3 G3 H3 e3 s3 r3 p3 => ?_⟩⟩
    dsimp only at p3
    cases hk : keyD d2 with
    | none => rw [hk] at p3; exact p3.elim
    | some k =>
      rw [hk] at p3
      dsimp only at p3
      have hor := valD_rep k (rk.mono (e2.trans e3))
      refine ⟨valV ys k, by rw [keyD_rep r2 hk]; exact .inl ⟨ys, k, (((hx.mono e2).mono e3).mono s3.gh).1, rfl, rfl⟩, ?_⟩
      cases hv : valD kvs k with
      | none =>
        rw [hv] at hor p3
        cases hw : valV ys k with
        | none => exact p3 v3 G3 H3 (Ex.refl _) s3 r3
        | some u => rw [hw] at hor; exact hor.elim
      | some z =>
        rw [hv] at hor p3
        cases hw : valV ys k with
        | none => rw [hw] at hor; exact hor.elim
        | some u => rw [hw] at hor; exact p3 u G3 H3 (Ex.refl _) s3 hor
  · exact p1.elim
/-- {} as data, as one's own -/
theorem pe_plock {e : Expr} {t : TE} (h : PE X e t) : PE X e (fun σ H Q => t σ H fun v H1 => ∃ p u, v = .ref p ∧ H1 p = some u ∧ Mut (some u) ∧ ∀ od, Q v (upd H1 p (.frz od u))) := by
  refine ⟨fun pins s σ H Q I hw => ?_⟩
  refine thn (h.run pins s σ _ _ I hw) fun v s1 ⟨x, H1, I1, r, p, u, ex, hp, mu, q⟩ => ?_
  obtain ⟨od, I2⟩ := I1.lock hp mu
  exact ⟨x, _, I2, r, q od⟩
def emptyD : MM D := constM (.dic true [])
theorem me_dnew : ME X T W (.Dict [] [] pos) emptyD := by
  refine pe_imp (pe_plock pe_dnewK) fun σ H Q ⟨A, F, G, β, s, p⟩ => fun x hx => ⟨x, _, rfl, upd_same, True.intro, fun od => ?_⟩
  rw [upd_upd]
  exact p _ _ _ (Grow.new (T := T) (o := .frz od (.dK [])) s.gh hx).gg (s.grow (Grow.new s.gh hx)) ⟨x, [], rfl, ⟨.inr ⟨od, upd_same⟩, fun _ => ⟨od, upd_same⟩⟩, rfl⟩
def ownDM (i : Nat) : MM Fl := fun β => (setB i (.od false []) β).bindB fun β' => .ok (.nx, β')
theorem ms_ownD {i : Nat} {x : Str} {pos' dpos : Pos} (hN : X.N.Nodup) (hi : X.N[i]? = some x) (hx : Loc X.env.scope x) (hs : swapsWith (.Dict [] [] dpos) (some (.Name x pos')) pos.line X.env = pure false := by rfl) (hf : X.fn x = true ∨ X.env.scope.names.lookup x = some .local := by first | exact .inl rfl | exact .inr rfl | assumption) :
    MS X T W (.Assign [.Name x pos'] (.Dict [] [] dpos) pos) (ownDM i) := by
  refine ps_imp (ps_set hN hi hx pe_dnewK hs hf) fun E σ H ⟨A, F, G, β, s, p⟩ => fun a ha => ?_
  show E.nx (σ.set i (some (.ref a))) (upd H a (.dK []))
  unfold ownDM at p
  cases hb : setB i (.od false []) β with
  | ok β2 =>
    rw [hb] at p
    obtain ⟨i1, i2, i3⟩ := setB_ok hb
    subst i2
    obtain ⟨s2, g0, f0, no⟩ := s.fresh (o := .dK []) ha
    exact p _ G _ (Ex.refl _) (s2.set i1 i3 rfl ⟨a, rfl, g0, f0, [], upd_same, rfl⟩ fun _ j c q hj ho hq hv => by cases hq; exact no j c hj ho hv)
  | exc _ _ => rw [hb] at p; exact p.elim
  | bad => rw [hb] at p; exact p.elim
/-- x[k] = e, x one's own dict (or list) -/
def putM (i : Nat) (m mk : MM D) : MM Fl := fun β => (m β).bind fun p => match p.2[i]? with
  | some (some (.od _ _)) => (mk p.2).bind fun j => match keyD j.1, j.2[i]? with
    | some k, some (some (.od q kvs)) => if lenOk kvs.length = true then .ok (.nx, j.2.set i (some (.od q (putD kvs k p.1)))) else .bad
    | _, _ => .bad
  | _ => .bad
theorem ms_put {i : Nat} {y : Str} {j e : Expr} {m mk : MM D} {py ps spos : Pos} (hu : X.A.units + 1 < cLine) (hN : X.N[i]? = some y) (hv : Vis X.env.scope y) (he : ME X T W e m) (hj : ME X T W j mk) (hd : (y == ("__debug__" : Str)) = false := by decide) (hcd : (y == ("__classdict__" : Str)) = false := by decide)
    (hs : swapsWith e (some (.Subscript (.Name y py) j ps)) spos.line X.env = pure false := by rfl) : MS X T W (.Assign [.Subscript (.Name y py) j ps] e spos) (putM i m mk) := by
  refine ps_imp (ps_dput hu (pe_var hN hv hd hcd) hj he hs) fun E σ H ⟨A, F, G, β, s, p⟩ => ?_
  refine ⟨A, F, G, β, s, PostS.bindE p fun d β1 v G1 H1 e1 s1 r1 p1 => ?_⟩
  dsimp only at p1
  split at p1
  rotate_left
  · exact p1.elim
  rename_i q0 ds0 hb0
  obtain ⟨a, hv0, g0, f0, xs0, hx0, r0⟩ := s1.ownAt hb0 rfl
  refine ⟨.ref a, hv0, A, F, G1, β1, s1, PostS.bindE p1 fun d2 β2 v2 G2 H2 e2 s2 r2 p2 => ?_⟩
  dsimp only at p2
  split at p2
  rotate_left
  · exact p2.elim
  rename_i k q kvs hk hb
  split at p2
  rotate_left
  · exact p2.elim
  rename_i hl
  obtain ⟨a', hv', g', f', xs, hx, r⟩ := s2.ownAt hb rfl
  rw [hv0] at hv'
  cases hv'
  refine ⟨a, _, rfl, by rw [keyD_rep r2 hk]; exact DPut.k hx (by rw [r.length]; exact lenOk_lt hl), ?_⟩
  exact p2 σ G2 _ (Ex.refl _) (s2.put hb rfl hv0 g' rfl rfl ⟨_, upd_same, putD_rep r (r1.mono e2)⟩)
end
end Fw
end

section
set_option Elab.async false
set_option linter.all false
set_option maxRecDepth 100000
set_option maxHeartbeats 4000000
set_option autoImplicit false
namespace Fw
open PySem L2 Evl
/-! ### in, not in -/
def vOf : D → V
  | .non => .non
  | .bl b => .bl b
  | .int i => .int i
  | .str x => .str x
  | _ => .non
/-- x in a list or tuple of data, in a dict by its keys, one sign in a text -/
def inP (a b : D) : Option Bool := match b with
  | .dic _ kvs => match keyD a with
    | some k => some (valD kvs k).isSome
    | none => none
  | .lst ds => if a.flat = true ∧ ds.all D.flat = true then some (ds.any fun z => eqV (vOf z) (vOf a)) else match toPy a, toPyL ds with
    | some p, some ps => if SeqAt.shaped p = true ∧ SeqAt.shaped (.list ps) = true then some (ps.any fun z => PyData.eqv z p) else none
    | _, _ => none
  | .tup ds => if a.flat = true ∧ ds.all D.flat = true then some (ds.any fun z => eqV (vOf z) (vOf a)) else none
  | .str z => match a with
    | .str x => if x.cps.size = 1 then some (decide (x.cps.getD 0 0 ∈ z.cps.toList)) else none
    | _ => none
  | _ => none
def inF (neg : Bool) (a b : D) : Res D := match inP a b with
  | some k => .ok (.bl (if neg = true then !k else k))
  | none => .bad
theorem rep_flat {T : Tx} {G : Hp} {d : D} {v : V} (h : d.flat = true) (r : Rep T G d v) : v = vOf d ∧ flatV v = true := by
  cases d with
  | non => cases (show v = .non from r); exact ⟨rfl, rfl⟩
  | bl b => cases (show v = .bl b from r); exact ⟨rfl, rfl⟩
  | int b => cases (show v = .int b from r); exact ⟨rfl, rfl⟩
  | str b => cases (show v = .str b from r); exact ⟨rfl, rfl⟩
  | _ => cases h
theorem repL_flat {T : Tx} {G : Hp} : ∀ {ds : List D} {vs : List V}, ds.all D.flat = true → RepL T G ds vs → vs = ds.map vOf ∧ vs.all flatV = true
  | [], _, _, r => by cases (show _ = [] from r); exact ⟨rfl, rfl⟩
  | d :: ds, _, h, r => by
    obtain ⟨v, t, rfl, r1, r2⟩ := r
    simp only [List.all_cons, Bool.and_eq_true] at h
    obtain ⟨e1, f1⟩ := rep_flat h.1 r1
    obtain ⟨e2, f2⟩ := repL_flat h.2 r2
    exact ⟨by rw [e1, e2]; rfl, by simp [f1, f2]⟩
theorem inV_flat {a : D} {ds : List D} : inV (vOf a) (ds.map vOf) = ds.any fun z => eqV (vOf z) (vOf a) := by
  unfold inV
  rw [List.any_map]
  rfl
section
variable {X : Cx} {T : Tx} {W : WishX} {a b : Expr} {m1 m2 : MM D} {pos : Pos} {k : Nat}
theorem sign_of {x : Str} (h : x.cps.size = 1) : x = ⟨#[x.cps.getD 0 0]⟩ := by
  obtain ⟨⟨l⟩⟩ := x
  match l, h with
  | [c], _ => rfl
/-- by what the container is -/
theorem pc_by {op : CmpOp} {m : MM D} (h : ∀ β, ∃ t, PC X op a b t ∧ ∀ A F G σ H Q, SI T A F G H σ β → PostE T A W F G σ (m β) Q → t σ H Q) : PC X op a b (tM T W m) :=
  ⟨fun pins s σ H Q I ⟨A, F, G, β, si, po⟩ => let ⟨t, ht, k⟩ := h β; ht.run pins s σ H Q I (k A F G σ H Q si po)⟩
theorem pc_op {op : CmpOp} {r : R2} {ta tb : TE} (ho : OpR X (compareOp op) r) (ha : PE X a ta) (hb : PE X b tb) : PC X op a b (tOp r ta tb) :=
  ⟨fun pins s σ H Q I h => thn (ha.run pins s σ H _ I h) fun v s1 ⟨x, H1, I1, r1, q1⟩ => thn (hb.run pins s1 σ H1 _ I1 q1) fun u s2 ⟨y, H2, I2, r2, q2⟩ => ho pins s2 σ H2 x y v u Q I2 r1 r2 q2⟩
theorem mc_in_gen (neg : Bool) (op : CmpOp) (hK : X.K = T.K) (ha : ME X T W a m1) (hb : ME X T W b m2)
    (hD : PC X op a b (tOp (fun x y H Q => ∃ d ds, Dp X.K H x d ∧ Dp X.K H y (.list ds) ∧ SeqAt.shaped d = true ∧ SeqAt.shaped (.list ds) = true ∧ Q (.bl (if neg = true then !(ds.any fun z => PyData.eqv z d) else ds.any fun z => PyData.eqv z d)) H) (tM T W m1) (tM T W m2)))
    (hd : PC X op a b (fun σ H Q => tM T W m1 σ H fun y H1 => tM T W m2 σ H1 fun x H2 => ∃ a o, x = .ref a ∧ DGet H2 a y o ∧ Q (.bl (if neg = true then !o.isSome else o.isSome)) H2))
    (hq : PC X op a b (tOp (rIn X.K neg) (tM T W m1) (tM T W m2)))
    (hs : PC X op a b (tOp (fun x y H Q => ∃ (c : Nat) (z : Str), x = .str ⟨#[c]⟩ ∧ y = .str z ∧ Q (.bl (if neg = true then !decide (c ∈ z.cps.toList) else decide (c ∈ z.cps.toList))) H) (tM T W m1) (tM T W m2))) :
    PC X op a b (tM T W (opM (inF neg) m1 m2)) := by
  obtain ⟨K, cl, xc, tl, fn⟩ := T
  cases hK
  refine pc_by fun β => ?_
  have dflt : (∀ d β1 d2 β2, m1 β = .ok (d, β1) → m2 β1 = .ok (d2, β2) → inP d d2 = none) → ∃ t, PC X op a b t ∧ ∀ A F G σ H Q, SI ⟨X.K, cl, xc, tl, fn⟩ A F G H σ β → PostE ⟨X.K, cl, xc, tl, fn⟩ A W F G σ (opM (inF neg) m1 m2 β) Q → t σ H Q := by
    intro hbad
    refine ⟨_, hD, fun A F G σ H Q si p => ⟨A, F, G, β, si, ?_⟩⟩
    unfold opM at p
    cases h1 : m1 β with
    | ok q =>
      obtain ⟨d, β1⟩ := q
      rw [h1] at p
      intro v G1 H1 e1 s1 r1
      refine ⟨A, F, G1, β1, s1, ?_⟩
      have p1 := PostE.mono e1 p
      dsimp only [Res.bind_ok] at p1
      cases h2 : m2 β1 with
      | ok q2 =>
        obtain ⟨d2, β2⟩ := q2
        rw [h2] at p1
        dsimp only [Res.bind_ok] at p1
        unfold inF at p1
        rw [hbad d β1 d2 β2 h1 h2] at p1
        exact p1.elim
      | exc c fs => rw [h2] at p1; exact p1
      | bad => rw [h2] at p1; exact p1
    | exc c fs => rw [h1] at p; exact p
    | bad => rw [h1] at p; exact p
  cases h1 : m1 β with
  | ok q =>
    obtain ⟨d, β1⟩ := q
    cases h2 : m2 β1 with
    | ok q2 =>
      obtain ⟨d2, β2⟩ := q2
      cases hp : inP d d2 with
      | none => exact dflt fun d' β1' d2' β2' e1 e2 => by rw [h1] at e1; cases e1; rw [h2] at e2; cases e2; exact hp
      | some bb =>
        have run : ∀ {r : R2}, PC X op a b (tOp r (tM ⟨X.K, cl, xc, tl, fn⟩ W m1) (tM ⟨X.K, cl, xc, tl, fn⟩ W m2)) → (∀ G2 H2 x y (Q : VK), Ex G2 H2 → Rep ⟨X.K, cl, xc, tl, fn⟩ G2 d x → Rep ⟨X.K, cl, xc, tl, fn⟩ G2 d2 y → Q (.bl (if neg = true then !bb else bb)) H2 → r x y H2 Q) →
            ∃ t, PC X op a b t ∧ ∀ A F G σ H Q, SI ⟨X.K, cl, xc, tl, fn⟩ A F G H σ β → PostE ⟨X.K, cl, xc, tl, fn⟩ A W F G σ (opM (inF neg) m1 m2 β) Q → t σ H Q := by
          intro r pe hrule
          refine ⟨_, pe, fun A F G σ H Q si p => ⟨A, F, G, β, si, ?_⟩⟩
          unfold opM at p
          rw [h1] at p ⊢
          intro v G1 H1 e1 s1 r1
          refine ⟨A, F, G1, β1, s1, ?_⟩
          have p1 := PostE.mono e1 p
          dsimp only [Res.bind_ok] at p1
          rw [h2] at p1 ⊢
          intro v2 G2 H2 e2 s2 r2
          dsimp only [Res.bind_ok] at p1
          unfold inF at p1
          rw [hp] at p1
          exact hrule G2 H2 v v2 Q s2.gh (r1.mono e2) r2 (p1 (.bl _) G2 H2 e2 s2 rfl)
        cases d2 with
        | dic l kvs =>
          refine ⟨_, hd, fun A F G σ H Q si p => ⟨A, F, G, β, si, ?_⟩⟩
          unfold opM at p
          rw [h1] at p ⊢
          intro v G1 H1 e1 s1 r1
          refine ⟨A, F, G1, β1, s1, ?_⟩
          have p1 := PostE.mono e1 p
          dsimp only [Res.bind_ok] at p1
          rw [h2] at p1 ⊢
          intro v2 G2 H2 e2 s2 r2
          dsimp only [Res.bind_ok] at p1
          unfold inF at p1
          rw [hp] at p1
          unfold inP at hp
          dsimp only at hp
          cases hk : keyD d with
          | none => rw [hk] at hp; cases hp
          | some k =>
            rw [hk] at hp
            cases hp
            obtain ⟨x, ys, rfl, hx, rk⟩ := r2
            refine ⟨x, valV ys k, rfl, by rw [keyD_rep r1 hk]; exact .inl ⟨ys, k, (hx.mono s2.gh).1, rfl, rfl⟩, ?_⟩
            have hor := valD_rep k rk
            have e : (valV ys k).isSome = (valD kvs k).isSome := by
              cases h5 : valD kvs k <;> cases h6 : valV ys k <;> rw [h5, h6] at hor <;> first | rfl | exact hor.elim
            rw [e]
            exact p1 (.bl _) G2 H2 e2 s2 rfl
        | lst ds =>
          unfold inP at hp
          dsimp only at hp
          split at hp
          · rename_i hf
            cases hp
            refine run hq fun G2 H2 x y Q e rx ry q => ?_
            obtain ⟨l, xs, rfl, sq, rl⟩ := ry
            obtain ⟨e1, f1⟩ := rep_flat hf.1 rx
            obtain ⟨e2, f2⟩ := repL_flat hf.2 rl
            refine ⟨l, xs, rfl, .inl (sq_of (e _ _ sq)), f1, f2, ?_⟩
            rw [e1, e2, inV_flat]
            exact q
          refine run hD fun G2 H2 x y Q e rx ry q => ?_
          cases hp1 : toPy d with
          | none => rw [hp1] at hp; cases hp
          | some p1 =>
            cases hp2 : toPyL ds with
            | none => rw [hp1, hp2] at hp; cases hp
            | some ps =>
              rw [hp1, hp2] at hp
              dsimp only at hp
              split at hp
              · rename_i hs
                cases hp
                exact ⟨p1, ps, dp_mono e (rx.dp hp1), dp_mono e (ry.dp (by simp [toPy, hp2])), hs.1, hs.2, q⟩
              · cases hp
        | tup ds =>
          refine run hq fun G2 H2 x y Q e rx ry q => ?_
          unfold inP at hp
          dsimp only at hp
          split at hp
          · rename_i hf
            cases hp
            obtain ⟨l, xs, rfl, sq, rl⟩ := ry
            obtain ⟨e1, f1⟩ := rep_flat hf.1 rx
            obtain ⟨e2, f2⟩ := repL_flat hf.2 rl
            refine ⟨l, xs, rfl, .inr (ex_t e sq.sq), f1, f2, ?_⟩
            rw [e1, e2, inV_flat]
            exact q
          · cases hp
        | str z =>
          refine run hs fun G2 H2 x y Q e rx ry q => ?_
          unfold inP at hp
          dsimp only at hp
          split at hp
          · rename_i _ x'
            split at hp
            · rename_i h1'
              cases hp
              refine ⟨x'.cps.getD 0 0, z, ?_, ry, q⟩
              rw [← sign_of h1']
              exact rx
            · cases hp
          · cases hp
        | _ => cases hp
    | exc c fs => exact dflt fun d' β1' d2' β2' e1 e2 => by rw [h1] at e1; cases e1; rw [h2] at e2; cases e2
    | bad => exact dflt fun d' β1' d2' β2' e1 e2 => by rw [h1] at e1; cases e1; rw [h2] at e2; cases e2
  | exc c fs => exact dflt fun d' β1' d2' β2' e1 e2 => by rw [h1] at e1; cases e1
  | bad => exact dflt fun d' β1' d2' β2' e1 e2 => by rw [h1] at e1; cases e1
theorem mc_in (hK : X.K = T.K) (hr : Rm k X.A) (ha : ME X T W a m1) (hb : ME X T W b m2) : PC X .In a b (tM T W (opM (inF false) m1 m2)) :=
  mc_in_gen false .In hK ha hb (pc_op (op_inD (by have := hr.r.un; omega)) ha hb) (pc_din (hu_of hr.r) ha hb) (pc_op op_in_seq ha hb) (pc_op op_in_sign ha hb)
theorem mc_notin (hK : X.K = T.K) (hr : Rm k X.A) (ha : ME X T W a m1) (hb : ME X T W b m2) : PC X .NotIn a b (tM T W (opM (inF true) m1 m2)) :=
  mc_in_gen true .NotIn hK ha hb (pc_op (op_notInD (by have := hr.r.un; omega)) ha hb) (pc_dnotin (hu_of hr.r) ha hb) (pc_op op_notIn_seq ha hb) (pc_op op_notIn_sign ha hb)
theorem me_in (hK : X.K = T.K) (hr : Rm k X.A) (ha : ME X T W a m1) (hb : ME X T W b m2) (hm : behindInMarks .In b = false := by rfl) : ME X T W (.Compare a [.In] [b] pos) (opM (inF false) m1 m2) := pe_cmp (mc_in hK hr ha hb) hm
theorem me_notin (hK : X.K = T.K) (hr : Rm k X.A) (ha : ME X T W a m1) (hb : ME X T W b m2) (hm : behindInMarks .NotIn b = false := by rfl) : ME X T W (.Compare a [.NotIn] [b] pos) (opM (inF true) m1 m2) := pe_cmp (mc_notin hK hr ha hb) hm
theorem mt_in (hK : X.K = T.K) (hr : Rm k X.A) (ha : ME X T W a m1) (hb : ME X T W b m2) (hm : behindInMarks .In b = false := by rfl) : MT X T W (.Compare a [.In] [b] pos) (truthM (opM (inF false) m1 m2)) := pt_imp (pt_cmp (mc_in hK hr ha hb) hm) fun σ H Q h => tB_of h
theorem mt_notin (hK : X.K = T.K) (hr : Rm k X.A) (ha : ME X T W a m1) (hb : ME X T W b m2) (hm : behindInMarks .NotIn b = false := by rfl) : MT X T W (.Compare a [.NotIn] [b] pos) (truthM (opM (inF true) m1 m2)) := pt_imp (pt_cmp (mc_notin hK hr ha hb) hm) fun σ H Q h => tB_of h
end
end Fw
end

section
set_option Elab.async false
set_option linter.all false
set_option maxRecDepth 100000
set_option maxHeartbeats 4000000
set_option autoImplicit false
/-! # sets of texts: set(xs), sorted(set) -/
namespace Fw
open PySem PySem.Spec L2 PyProof.Rows
abbrev kS (P : Program) (w : World) := PySem.strKind P w
/-- an entry of a text -/
def EntS (w : World) (e : Int × Value) (k : Str) : Prop := ∃ t, e.2 = .str k t ∧ e.1 = hashStr w k
/-- at a: a set whose members are those of l -/
structure TxS (w : World) (h : Heap) (a : Addr) (l : List Str) (es : Array (Int × Value)) (ep : Nat) (t : SetTable) (o : Obj) (ms : List Str) : Prop where
  ob : h.get? a = some o
  ex : o.ExactSet
  dt : o.data = .set es ep t
  en : Paired (EntS w) es.toList ms
  nd : ms.Nodup
  mem : ∀ k, k ∈ l ↔ k ∈ ms
  sz : ms.length ≤ l.length
  bd : l.length < scanBound
  ft : t.fits es.size = true
  ri : Ris t.place.toList
  ld : w.params.followText "set-order" = true ∨ t.led = true
def TxSet (w : World) (h : Heap) (a : Addr) (l : List Str) : Prop := ∃ es ep t o ms, TxS w h a l es ep t o ms
theorem f2_mem {α β : Type} {R : α → β → Prop} : ∀ {l : List α} {m : List β}, Paired R l m → ∀ {x}, x ∈ l → ∃ y ∈ m, R x y
  | _, _, .cons r t, x, h => by
    rcases List.mem_cons.mp h with rfl | h
    · exact ⟨_, List.mem_cons_self, r⟩
    · obtain ⟨y, hy, q⟩ := f2_mem t h
      exact ⟨y, List.mem_cons_of_mem _ hy, q⟩
theorem f2_mem' {α β : Type} {R : α → β → Prop} : ∀ {l : List α} {m : List β}, Paired R l m → ∀ {y}, y ∈ m → ∃ x ∈ l, R x y
  | _, _, .cons r t, x, h => by
    rcases List.mem_cons.mp h with rfl | h
    · exact ⟨_, List.mem_cons_self, r⟩
    · obtain ⟨y, hy, q⟩ := f2_mem' t h
      exact ⟨y, List.mem_cons_of_mem _ hy, q⟩
theorem f2_perm {α β : Type} {R : α → β → Prop} {l l' : List α} (p : l.Perm l') : ∀ {m : List β}, Paired R l m → ∃ m', m.Perm m' ∧ Paired R l' m' := by
  induction p with
  | nil => intro m h; exact ⟨m, .refl _, h⟩
  | cons x _ ih =>
    intro m h
    cases h with
    | cons r t =>
      obtain ⟨m', p', h'⟩ := ih t
      exact ⟨_, p'.cons _, .cons r h'⟩
  | swap x y l =>
    intro m h
    cases h with
    | cons r t =>
      cases t with
      | cons r2 t2 => exact ⟨_, .swap _ _ _, .cons r2 (.cons r t2)⟩
  | trans _ _ i1 i2 =>
    intro m h
    obtain ⟨m1, p1, h1⟩ := i1 h
    obtain ⟨m2, p2, h2⟩ := i2 h1
    exact ⟨m2, p1.trans p2, h2⟩
section
variable {P : Program} {w : World} {A : Around} {E : Value → Shared → Prop} {s : Shared} {a : Addr} {l ms : List Str} {es : Array (Int × Value)} {ep : Nat} {t : SetTable} {o : Obj}
theorem ents_is {e : Int × Value} {k : Str} (h : EntS w e k) : (kS P w).is k e.2 = true := by
  obtain ⟨u, h1, _⟩ := h
  rw [h1]
  exact strKind_is P w k u
theorem ents_of {e : Int × Value} {k k' : Str} (h : EntS w e k) (q : (kS P w).is k' e.2 = true) : k' = k := (kS P w).inj _ _ _ q (ents_is h)
theorem TxS.elems (R : TxS w s.heap a l es ep t o ms) : ElemsOf (kS P w) es.toList := fun e he => by
  obtain ⟨k, _, u, h1, h2⟩ := f2_mem R.en he
  exact ⟨⟨k, by rw [h1]; exact strKind_is P w k u, h2⟩, by rw [h1] <;> rfl⟩
theorem TxS.size (R : TxS w s.heap a l es ep t o ms) : es.size = ms.length := by rw [← Array.length_toList]; exact Paired.length R.en
theorem TxS.bnd (R : TxS w s.heap a l es ep t o ms) : es.size < scanBound := by have := R.size; have := R.sz; have := R.bd; omega
theorem txs_tail {g : Bool → Sem Unit} (hg : ∀ (b : Bool) (s₁ : Shared) (Q' : Unit → Shared → Prop), Q' () s₁ → wpAny (model P w) A (g b) Q' E s₁)
    (ho : s.heap.get? a = some o) (hex : o.ExactSet) (hd : o.data = .set es ep t) {es1 : Array (Int × Value)} {t2 : SetTable} {l' ms' : List Str} (en : Paired (EntS w) es1.toList ms') (nd : ms'.Nodup) (mem : ∀ k, k ∈ l' ↔ k ∈ ms')
    (sz : ms'.length ≤ l'.length) (bd : l'.length < scanBound) (hf2 : t2.fits es1.size = true) (hr : Ris t2.place.toList) (hl : w.params.followText "set-order" = true ∨ t2.led = true) {wasDummy : Bool} {R : Option Bool → Shared → Prop}
    (hR : ∀ h', Heap.SameBut a s.heap h' → TxSet w h' a l' → R (some true) { s with heap := h' }) :
    wpAny (model P w) A (do
        storeSet a es1 t2
        if (!wasDummy && t2.tooFull) = true then do
            g (relayAll t2 es1 (SetTable.grown es1.size)).2.2
            storeSet a (relayAll t2 es1 (SetTable.grown es1.size)).1 (relayAll t2 es1 (SetTable.grown es1.size)).2.1
            pure (some true)
          else pure (some true)) R E s := by
  have hz1 : es1.size = ms'.length := by rw [← Array.length_toList]; exact Paired.length en
  have hb1 : es1.size < scanBound := by omega
  refine wpAny_bind (wpAny_storeSet_of ho hd ?_ (fits_of_scanBound hb1))
  have ho1 := store_at (es' := es1) (t' := t2) ho hd
  have sb1 := Heap.SameBut.update s.heap a (Obj.putSet es1 t2)
  split
  · have pm := relayAll_perm t2 es1 (SetTable.grown es1.size)
    have hf3 := relayAll_fits t2 es1 (SetTable.grown es1.size)
    have hr3 := relayAll_ris t2 es1 (SetTable.grown es1.size)
    have hl3 := relayAll_led t2 es1 (SetTable.grown es1.size)
    generalize relayAll t2 es1 (SetTable.grown es1.size) = Z at pm hf3 hr3 hl3 ⊢
    obtain ⟨es2, t3, gave⟩ := Z
    dsimp only at pm hf3 hr3 hl3 ⊢
    have hsz : es2.size = es1.size := by rw [← Array.length_toList, pm.length_eq, Array.length_toList]
    refine wpAny_bind (hg _ _ _ ?_)
    refine wpAny_bind (wpAny_storeSet_of ho1 rfl ?_ (fits_of_scanBound (by rw [hsz]; exact hb1)))
    have ho2 := store_at (es' := es2) (t' := t3) ho1 rfl
    obtain ⟨m2, p2, en2⟩ := f2_perm pm.symm en
    exact wpAny_pure (hR _ (sb1.trans (Heap.SameBut.update _ a _)) ⟨_, _, _, _, m2, ⟨ho2, hex, rfl, en2, p2.nodup_iff.mp nd, fun k => (mem k).trans p2.mem_iff, by rw [← p2.length_eq]; exact sz, bd, hf3, hr3, hl.imp id fun z => by rw [hl3]; exact z⟩⟩)
  · exact wpAny_pure (hR _ sb1 ⟨_, _, _, _, ms', ⟨ho1, hex, rfl, en, nd, mem, sz, bd, hf2, hr, hl⟩⟩)
theorem txs_add {k : Str} {tk : Tok} {Q : Bool → Shared → Prop} (R : TxS w s.heap a l es ep t o ms) (room : l.length + 1 < scanBound)
    (hQ : ∀ b h', Heap.SameBut a s.heap h' → TxSet w h' a (l ++ [k]) → Q b { s with heap := h' }) :
    wpAny (model P w) A (setAddHashed a (.str k tk) ((kS P w).hash k)) Q E s := by
  have hkey : (kS P w).is k (.str k tk) = true := strKind_is P w k tk
  have hsc : (Value.str k tk).scannable = true := rfl
  have hel : ElemsOf (kS P w) es.toList := R.elems
  have hb := R.bnd
  unfold setAddHashed setAddHashedIn
  refine wpAny_holding (wpAny_bind (wpAny_setState_of R.ob R.dt R.ft ?_))
  dsimp only
  rw [byScan_of hsc hb hel]
  simp only [↓reduceIte]
  unfold setAddByScan
  refine wpAny_bind ?_
  refine wpAny_bind (wpAny_rule ?_)
  refine wpAny_bind (wpAny_setScan_of hkey R.ob R.dt R.ft hel ?_)
  cases hfi : List.findIdx? (fun e => (kS P w).is k e.2) es.toList with
  | some j =>
    dsimp only
    obtain ⟨hj, pj, _⟩ := List.findIdx?_eq_some_iff_getElem.mp hfi
    obtain ⟨k', hk', q⟩ := f2_mem R.en (List.getElem_mem hj)
    have ek := ents_of q pj
    refine wpAny_pure (wpAny_pure (hQ _ s.heap (Heap.SameBut.refl a s.heap) ⟨es, ep, t, o, ms, { R with mem := fun i => ?_, sz := by have := R.sz; simp; omega, bd := by simpa using room }⟩))
    rw [List.mem_append, R.mem i, List.mem_singleton]
    exact ⟨fun z => z.elim id fun e => by rw [e, ek]; exact hk', .inl⟩
  | none =>
    dsimp only
    have hnk : k ∉ ms := fun z => by
      obtain ⟨e, he, q⟩ := f2_mem' R.en z
      have c := List.findIdx?_eq_none_iff.mp hfi e he
      rw [ents_is q] at c
      cases c
    have hgw : ∀ (b : Bool) {s₁ : Shared} {Q' : Unit → Shared → Prop}, Q' () s₁ → wpAny (model P w) A (match b with | true => rule "set.scan.the-table-gave-way" | false => pure ()) Q' E s₁ :=
      fun b s₁ Q' q => by cases b <;> first | exact wpAny_pure q | exact wpAny_rule q
    have pm := layNew_perm t es ((kS P w).hash k) (.str k tk)
    have hf1 := layNew_fits t es ((kS P w).hash k) (.str k tk)
    have hr1 := layNew_ris t es ((kS P w).hash k) (.str k tk) R.ri
    have hl1 := layNew_led t es ((kS P w).hash k) (.str k tk)
    generalize layNew t es ((kS P w).hash k) (.str k tk) = Z at pm hf1 hr1 hl1 ⊢
    obtain ⟨es1, t1, wasDummy, gave⟩ := Z
    dsimp only at pm hf1 hr1 hl1 ⊢
    rw [Array.toList_push] at pm
    have pc : (((kS P w).hash k, Value.str k tk) :: es.toList).Perm es1.toList := (pm.trans (List.perm_append_singleton _ _)).symm
    obtain ⟨m1, p1, en1⟩ := f2_perm pc (.cons (⟨tk, rfl, rfl⟩ : EntS w ((kS P w).hash k, Value.str k tk) k) R.en)
    have nd1 : m1.Nodup := p1.nodup_iff.mp (List.nodup_cons.mpr ⟨hnk, R.nd⟩)
    have mem1 : ∀ i, i ∈ l ++ [k] ↔ i ∈ m1 := fun i => by
      rw [List.mem_append, List.mem_singleton, R.mem i, ← p1.mem_iff, List.mem_cons]
      exact Or.comm
    have sz1 : m1.length ≤ (l ++ [k]).length := by have := R.sz; rw [← p1.length_eq]; simp; omega
    have bd1 : (l ++ [k]).length < scanBound := by simpa using room
    have hled : w.params.followText "set-order" = true ∨ t1.led = true := R.ld.imp id fun z => by rw [hl1]; exact z
    refine wpAny_bind (hgw _ ?_)
    split
    · refine wpAny_bind ?_
      rw [hashByValue_scannable 8 hsc]
      refine wpAny_pure ?_
      refine txs_tail ?_ R.ob R.ex R.dt en1 nd1 mem1 sz1 bd1 ?_ ?_ ?_ ?_
      · intro b s₁ Q' q; cases b <;> first | exact wpAny_pure q | exact wpAny_rule q
      · first | (split <;> first | exact hf1 | exact SetTable.fits_plain_off hf1) | exact hf1
      · first | (split <;> exact hr1) | exact hr1
      · first | (split <;> exact hled) | exact hled
      · intro h' sb r; dsimp only; exact wpAny_pure (hQ _ h' sb r)
    · refine wpAny_bind (wpAny_pure ?_)
      simp only [↓reduceIte]
      refine txs_tail ?_ R.ob R.ex R.dt en1 nd1 mem1 sz1 bd1 hf1 hr1 hled ?_
      · intro b s₁ Q' q; cases b <;> first | exact wpAny_pure q | exact wpAny_rule q
      · intro h' sb r; dsimp only; exact wpAny_pure (hQ _ h' sb r)
theorem TxSet.at {h h' : Heap} (R : TxSet w h a l) (k : ∀ o, h.get? a = some o → h'.get? a = some o) : TxSet w h' a l := by
  obtain ⟨es, ep, t, o, ms, R⟩ := R
  exact ⟨es, ep, t, o, ms, { R with ob := k o R.ob }⟩
end
/-- the loop of set.update -/
theorem txs_loop {P : Program} {w : World} {A : Around} {R : Result → Shared → Prop} {I : Addr} {fp wr : List Addr} {G : Array GenState → Array GenState → Prop} {n : Nat} {Pv : Nat → Value → Prop} {St : Nat → Shared → Prop}
    (W : WalksS P w A.in1 I fp wr G n Pv St) (S : Addr) (hSf : S ∉ fp) (xs : List Str) (hsz : xs.length = n) (hn : n + 1 < scanBound) (hval : ∀ i v, Pv i v → ∃ t, v = .str (xs.getD i Str.empty) t) :
    ∀ (k i : Nat) (s : Shared), n - i = k → i ≤ n → St i s → TxSet w s.heap S (xs.take i) → (∀ s', Moved (S :: wr) G s s' → TxSet w s'.heap S xs → R (.ok (.ret .none)) s') →
      codeAny (model P w) A (.builtin "set.update.loop" ⟨[.ref S, .ref I], []⟩) R s := by
  have hSw : S ∉ wr := fun h => hSf (W.sub _ h)
  have hsub : ∀ b ∈ wr, b ∈ S :: wr := fun b hb => List.mem_cons_of_mem _ hb
  intro k
  induction k with
  | zero =>
    intro i s hk hi hst hS hR
    have hin : i = xs.length := by omega
    refine codeAny_builtin PyProof.Rows.F.entry_set_update_loop ?_
    rw [Around.under_plainId PyProof.Rows.F.plain_set_update_loop _]
    show wpAny _ A.in1 (pyNext (.ref I) >>= _) _ _ s
    have hst' : St n s := by rw [← hsz, ← hin]; exact hst
    refine wpAny_bind (W.done s _ _ hst' fun s' hm => ?_)
    show wpAny _ A.in1 (ret Value.none) _ _ s'
    rw [hin, List.take_length] at hS
    exact wpAny_pure (hR s' (hm.mono hsub) (hS.at fun o e => hm.heap S _ hSw e))
  | succ k ih =>
    intro i s hk hi hst hS hR
    have hlt : i < n := by omega
    refine codeAny_builtin PyProof.Rows.F.entry_set_update_loop ?_
    rw [Around.under_plainId PyProof.Rows.F.plain_set_update_loop _]
    show wpAny _ A.in1 (pyNext (.ref I) >>= _) _ _ s
    refine wpAny_bind (W.item i s _ _ hlt hst fun v s' hP hst' hm => ?_)
    obtain ⟨t, rfl⟩ := hval i v hP
    have hS' : TxSet w s'.heap S (xs.take i) := hS.at fun o e => hm.heap S _ hSw e
    obtain ⟨es, ep, tb, o, ms, RS⟩ := hS'
    show wpAny _ A.in1 (holding [Value.str (xs.getD i Str.empty) t] (setAdd S (.str (xs.getD i Str.empty) t)) >>= _) _ _ s'
    refine wpAny_bind (wpAny_holding ?_)
    unfold setAdd
    refine wpAny_holding ?_
    refine wpAny_bind ((PySem.strKind P w).pyHash (k := xs.getD i Str.empty) (strKind_is _ _ _ _) ?_)
    refine txs_add (s := { s' with toks := s'.toks + 1 }) RS (by rw [List.length_take]; omega) fun b h' hsb hS2 => ?_
    have hSi : TxSet w h' S (xs.take (i + 1)) := by
      have e : xs.take (i + 1) = xs.take i ++ [xs.getD i Str.empty] := by
        have hi' : i < xs.length := by omega
        rw [List.take_succ_eq_append_getElem hi', List.getD_eq_getElem?_getD, List.getElem?_eq_getElem hi'] <;> rfl
      rw [e]
      exact hS2
    refine wpAny_pure ⟨plainId_quiet PyProof.Rows.F.plain_set_update_loop _, ih (i + 1) _ (by omega) hlt (W.frame _ s' _ _ hst' (Nat.le_succ _) fun b hb o e => ?_) hSi fun s'' hm'' hS'' => ?_⟩
    · rw [hsb.2 b (fun h : b = S => hSf (by rw [← h]; exact hb))]; exact e
    · refine hR s'' (Moved.trans W.gtrans ((hm.mono hsub).then_heap (Nat.le_succ _) fun b o hb e => ?_) hm'') hS''
      rw [hsb.2 b (fun h : b = S => hb (by rw [h]; exact List.mem_cons_self))]; exact e
section
variable {P : Program} {w : World} {A : Around} {E : Value → Shared → Prop} {s : Shared}
theorem txs_fresh {h : Heap} {a : Addr} (ho : h.get? a = some { cls := .type "set", dict := none, data := .set #[] 0 (.fresh 0 0 (!w.params.followText "set-order")) }) : TxSet w h a [] :=
  ⟨#[], 0, _, _, [], ⟨ho, ⟨rfl, rfl, rfl⟩, rfl, .nil, .nil, fun _ => Iff.rfl, Nat.le_refl _, by decide, rfl, .nil, by
    show _ ∨ (!w.params.followText "set-order") = true
    cases w.params.followText "set-order"
    · exact .inr rfl
    · exact .inl rfl⟩⟩
abbrev emS (w : World) : Obj := { cls := .type "set", dict := none, data := .set #[] 0 (.fresh 0 0 (!w.params.followText "set-order")) }
theorem call_set_txt {l : Addr} {items : Array Value} {xs : List Str} {Q : Value → Shared → Prop} (hh : A.handled = none) (hl : s.heap.IsList l items) (hi : PyProof.Rows.StrsAre items.toList xs) (hn1 : xs.length + 1 < scanBound)
    (h : ∀ (h' : Heap) (tk : Nat), TxSet w h' s.heap.objs.size xs → (∀ b o, s.heap.get? b = some o → h'.get? b = some o) → Q (.ref s.heap.objs.size) { s with heap := h', toks := tk }) :
    wpAny (model P w) A (call (.type "set") [.ref l]) Q E s := by
  obtain ⟨c, tl, hmro⟩ := PySem.F.called_set.mro
  have hmade := PySem.F.called_set.made
  have hsub := PySem.F.called_set.sub
  refine wpAny_call (codeAny_of_tree ?_)
  show wpAny _ _ (callAny (.type "set") _) _ _ _
  refine wpAny_pure ⟨Code.quiet_builtin _ (by decide +kernel), codeAny_builtin PySem.F.entry_type_call ?_⟩
  rw [Around.under_plain (weight_type_call_type "set" [.ref l] []) rfl]
  have h1 := PySem.F.called_set.notType
  have h2 := PySem.F.called_set.canCreate
  have hct := PySem.F.typeCall_set_1 (.ref l)
  repeat (any_goals (first | assumption | wp_step))
  refine codeAny_mono (code_set_led1 (.ref l) (E := E) (Q₁ := fun obj s₁ => obj = .ref s.heap.objs.size ∧ s₁ = { s with heap := s.heap.push (emS w) }) ⟨rfl, rfl⟩) fun r s₁ hr => ?_
  cases r with
  | error e => exact hr
  | ok fl =>
    cases fl with
    | ret obj =>
      obtain ⟨rfl, rfl⟩ := hr
      have hS : (s.heap.push (emS w)).get? s.heap.objs.size = some (emS w) := Heap.get?_push_size _ rfl
      have hT : Shared.TypeIs { s with heap := s.heap.push (emS w) } (.ref s.heap.objs.size) "set" := ⟨_, hS, rfl⟩
      have hli := PySem.F.called_set.init.lookup
      have hbi := PySem.F.called_set.init.bind (.ref s.heap.objs.size)
      repeat (any_goals (first | assumption | wp_step))
      refine codeAny_mono (codeAny_call_builtin (R := wants (fun r s₂ => r = .none ∧ ∃ h' tk, s₂ = { s with heap := h', toks := tk } ∧ TxSet w h' s.heap.objs.size xs ∧ (∀ b o, s.heap.get? b = some o → h'.get? b = some o)) E) PySem.F.called_set.init.plain PySem.F.entry_set_init (check_set_init_1 hT ?_)) fun r₂ s₂ hr₂ => ?_
      · obtain ⟨ol, hol, hcl, nl, hdl⟩ := hl
        obtain ⟨ocls, odict, odata, oslots⟩ := ol
        simp only at hcl hdl
        subst hcl; subst hdl
        have hol' : (s.heap.push (emS w)).get? l = some { cls := .type "list", dict := odict, data := .seq items nl, slots := oslots } := Heap.get?_push_of_some _ hol
        have hsls := PySem.F.sub_list_set
        have hslf := PySem.F.sub_list_frozenset
        have hne : (Value.type "list" == Value.type "dict") = false := by decide
        have hl1 : (s.heap.push (emS w)).IsList l items := ⟨_, hol', rfl, nl, rfl⟩
        unfold Builtin.«set.__init__» noKeywords Builtin.Frozenset.updateFrom
        generalize hPI : pyIter = PI
        wp_walk
        subst hPI
        refine wpAny_pyIter_list hl1 ?_
        refine wpAny_bind (wpAny_runValue ?_)
        have hlS : l < s.heap.objs.size := Heap.lt_size hol
        have hh3 : A.in1.in1.in1.handled = none := by simp [hh]
        have hneI : l ≠ (s.heap.push (emS w)).objs.size := by rw [Heap.size_push]; exact Nat.ne_of_lt (Nat.lt_succ_of_lt hlS)
        have hSf : s.heap.objs.size ∉ [(s.heap.push (emS w)).objs.size, l] := by
          rw [Heap.size_push]; simp only [List.mem_cons, List.mem_singleton, List.not_mem_nil, or_false, not_or]
          exact ⟨Nat.ne_of_lt (Nat.lt_succ_self _), Nat.ne_of_gt hlS⟩
        have hsz : xs.length = items.size := by rw [← StrsAre.len_eq hi, Array.length_toList]
        have hval : ∀ (i : Nat) (v : Value), items[i]? = some v → ∃ t, v = .str (xs.getD i Str.empty) t := fun i v hv => SS.strs_at hi i v (by rw [Array.getElem?_toList]; exact hv)
        refine txs_loop ((Walks.list hh3 _ l hneI items).toS) s.heap.objs.size hSf xs hsz (by rw [← hsz]; exact hn1) hval (items.size - 0) 0 _ (by omega) (Nat.zero_le _)
          ⟨⟨_, Heap.get?_push_size _ rfl, rfl, rfl⟩, (hl1.push _)⟩ ?hS0 ?hR
        case hS0 => exact txs_fresh (Heap.get?_push_of_some _ hS)
        case hR =>
          intro s' hm hS'
          obtain ⟨h', g', d', tk', os'⟩ := s'
          have eg : g' = s.gens := hm.gens
          have ed : d' = s.drawn := hm.drawn
          have eo : os' = s.os := hm.os
          subst eg; subst ed; subst eo
          show wpAny _ _ _ _ _ _
          refine wpAny_pure ?_
          show wpAny _ _ (ret Value.none) _ _ _
          refine wpAny_pure ⟨rfl, h', tk', rfl, hS', fun b o e => ?_⟩
          have hb := Heap.lt_size e
          have hb1 : b ≠ s.heap.objs.size := Nat.ne_of_lt hb
          have hb2 : b ≠ (s.heap.push (emS w)).objs.size := by rw [Heap.size_push]; exact Nat.ne_of_lt (Nat.lt_succ_of_lt hb)
          exact hm.heap b o (by simp only [List.mem_cons, List.mem_singleton, List.not_mem_nil, or_false, not_or]; exact ⟨hb1, hb2⟩) (Heap.get?_push_of_some _ (Heap.get?_push_of_some _ e))
      · cases r₂ with
        | error e => exact hr₂
        | ok fl₂ =>
          cases fl₂ with
          | ret r =>
            obtain ⟨rfl, h', tk, rfl, hS', hk'⟩ := hr₂
            repeat (any_goals (first | assumption | wp_step))
            exact h _ _ hS' hk'
          | _ => exact hr₂.elim
    | _ => exact hr.elim
theorem strs_of : ∀ {es : List (Int × Value)} {ms : List Str}, Paired (EntS w) es ms → PyProof.Rows.StrsAre (es.map (·.2)) ms
  | _, _, .nil => .nil
  | _, _, .cons ⟨t, h, _⟩ r => by
    rw [List.map_cons, h]
    exact .cons _ t (strs_of r)
theorem strs_perm {us vs : List Value} (p : us.Perm vs) : ∀ {ms : List Str}, PyProof.Rows.StrsAre us ms → ∃ ms', ms.Perm ms' ∧ PyProof.Rows.StrsAre vs ms' := by
  induction p with
  | nil => intro m h; exact ⟨m, .refl _, h⟩
  | cons x _ ih =>
    intro m h
    cases h with
    | cons k t r =>
      obtain ⟨m', p', h'⟩ := ih r
      exact ⟨_, p'.cons _, .cons k t h'⟩
  | swap x y l =>
    intro m h
    cases h with
    | cons k t r =>
      cases r with
      | cons k2 t2 r2 => exact ⟨_, .swap _ _ _, .cons k2 t2 (.cons k t r2)⟩
  | trans _ _ i1 i2 =>
    intro m h
    obtain ⟨m1, p1, h1⟩ := i1 h
    obtain ⟨m2, p2, h2⟩ := i2 h1
    exact ⟨m2, p1.trans p2, h2⟩
theorem sorted_txt {a : Addr} {l : List Str} {Q : Value → Shared → Prop} (R : TxSet w s.heap a l) (hh : A.handled = none)
    (hQ : ∀ s' p (out : Array Value) (c : Nat) (ns : List Str), (∀ b o, s.heap.get? b = some o → s'.heap.get? b = some o) → s'.gens = s.gens → s'.os = s.os → s.heap.objs.size ≤ p →
      s'.heap.get? p = some (seqObj "list" out c) → PyProof.Rows.StrsAre out.toList ns → sortedS ns = true → ns.Nodup → (∀ k, k ∈ ns ↔ k ∈ l) → ns.length ≤ l.length → Q (.ref p) s') :
    wpAny (model P w) A (call (.builtin "sorted") [.ref a]) Q E s := by
  obtain ⟨es, ep, t, o, ms, R⟩ := R
  refine Calls.call_function_entry kind_sorted plain_sorted entry_sorted (args_sorted1 _) ?_
  unfold Builtin.«sorted»
  refine wpAny_bind (m := checkCount "sorted" 1 1 _) (wpAny_pure ?_)
  refine wpAny_bind (collect_set (A := A.in1) hh ⟨o, R.ob, R.ex.1, R.dt⟩ R.ft R.bnd R.ri R.ld fun s1 vs k1 hz g1 o1 pm => ?_)
  obtain ⟨m1, p1, hI⟩ := strs_perm pm.symm (strs_of R.en)
  have hvl : vs.length = ms.length := by rw [StrsAre.len_eq hI, p1.length_eq]
  have hms : ms.length ≤ sizeLine := by have := R.sz; have := R.bd; rw [sizeLine_eq]; unfold scanBound at this; omega
  refine wpAny_bind (wpAny_newList ?_ (by rw [hvl]; exact hms))
  have hoL : (s1.heap.push (seqObj "list" vs.toArray 0)).get? s1.heap.objs.size = some (seqObj "list" vs.toArray 0) := Heap.get?_push_size _ rfl
  refine wpAny_bind (wpAny_holding (wpAny_call_entry slot_list_sort ⟨_, hoL, rfl⟩ entry_list_sort (list_sort_treeKAny PyProof.Rows.strKind_oneLt hoL hI.keysOf (fun v₁ v₂ rest e => keyKind_strs (by rw [← e]; exact hI)) (by rw [hvl]; exact hms) fun st' a1 a2 => ⟨_, rfl, ?_⟩) (args_list_sort _)))
  obtain ⟨ns, b1, b2, b3⟩ := sorted_out_str hI a1 a2
  obtain ⟨c, hc⟩ := sortedHeap_at (vs := vs) (out := (arrOf st').map (·.2)) hoL
  have pn : ns.Perm ms := b2.trans p1.symm
  refine wpAny_pure ⟨_, rfl, hQ _ s1.heap.objs.size _ c ns (fun b u e => ?_) g1 o1 hz hc b1 b3 (pn.nodup_iff.mpr R.nd) (fun k => by rw [pn.mem_iff, ← R.mem k]) (by rw [pn.length_eq]; exact R.sz)⟩
  have q := k1 b u e
  have hlt := Heap.lt_size q
  show (sortedHeap (s1.heap.push (seqObj "list" vs.toArray 0)) s1.heap.objs.size vs _).get? b = some u
  rw [sortedHeap_old (Nat.ne_of_lt hlt) (by rw [size_push']; exact Nat.lt_succ_of_lt hlt)]
  exact Heap.get?_push_of_some _ q
end
end Fw
end

section
set_option Elab.async false
set_option linter.all false
set_option maxRecDepth 100000
set_option maxHeartbeats 4000000
set_option autoImplicit false
/-! # sorted texts, isinstance, str() -/
namespace Fw
open PySem PySem.Spec L2 PyProof.Rows Evl
/-! ### the order of texts -/
def leS (a b : Str) : Bool := !ltCps b.cps.toList a.cps.toList
theorem leS_iff {a b : Str} : leS a b = true ↔ a.cps.toList ≤ b.cps.toList := by
  unfold leS
  rw [ltCps_eq, Bool.not_eq_true', decide_eq_false_iff_not, List.not_lt]
theorem leS_anti {a b : Str} (h : leS a b = true) (k : leS b a = true) : a = b := by
  have e := List.le_antisymm (leS_iff.mp h) (leS_iff.mp k)
  cases a; cases b
  simp at e
  exact congrArg _ e
theorem leS_trans {a b c : Str} (h : leS a b = true) (k : leS b c = true) : leS a c = true := leS_iff.mpr (List.le_trans (leS_iff.mp h) (leS_iff.mp k))
theorem leS_total (a b : Str) : leS a b = true ∨ leS b a = true := by rw [leS_iff, leS_iff]; exact List.le_total _ _
def insS (a : Str) : List Str → List Str
  | [] => [a]
  | b :: r => if leS a b = true then a :: b :: r else b :: insS a r
def sortS : List Str → List Str
  | [] => []
  | a :: r => insS a (sortS r)
def dedS : List Str → List Str
  | [] => []
  | a :: r => if a ∈ r then dedS r else a :: dedS r
def ascS (xs : List Str) : List Str := sortS (dedS xs)
theorem insS_perm (a : Str) : ∀ l, (insS a l).Perm (a :: l)
  | [] => .refl _
  | b :: r => by
    unfold insS
    split
    · exact .refl _
    · exact ((insS_perm a r).cons b).trans (.swap _ _ _)
theorem sortS_perm : ∀ l, (sortS l).Perm l
  | [] => .refl _
  | a :: r => (insS_perm a _).trans ((sortS_perm r).cons a)
theorem insS_pw (a : Str) : ∀ l, l.Pairwise (fun x y => leS x y = true) → (insS a l).Pairwise (fun x y => leS x y = true)
  | [], _ => by simp [insS]
  | b :: r, h => by
    obtain ⟨h1, h2⟩ := List.pairwise_cons.mp h
    unfold insS
    split
    · rename_i hab
      refine List.pairwise_cons.mpr ⟨fun y hy => ?_, h⟩
      rcases List.mem_cons.mp hy with rfl | hy
      · exact hab
      · exact leS_trans hab (h1 y hy)
    · rename_i hab
      refine List.pairwise_cons.mpr ⟨fun y hy => ?_, insS_pw a r h2⟩
      rcases List.mem_cons.mp ((insS_perm a r).mem_iff.mp hy) with rfl | hy
      · exact (leS_total b y).resolve_right fun z => hab z
      · exact h1 y hy
theorem sortS_pw : ∀ l, (sortS l).Pairwise (fun x y => leS x y = true)
  | [] => .nil
  | a :: r => insS_pw a _ (sortS_pw r)
theorem risingS_pw : ∀ (r : List Str) (p : Str), risingS p r = true → (p :: r).Pairwise (fun x y => leS x y = true)
  | [], p, _ => by simp
  | x :: r, p, h => by
    unfold risingS at h
    obtain ⟨h1, h2⟩ := Bool.and_eq_true_iff.mp h
    have ih := risingS_pw r x h2
    have hx := (List.pairwise_cons.mp ih).1
    refine List.pairwise_cons.mpr ⟨fun y hy => ?_, ih⟩
    rcases List.mem_cons.mp hy with rfl | hy
    · exact h1
    · exact leS_trans (show leS p x = true from h1) (hx y hy)
theorem sortedS_pw {l : List Str} (h : sortedS l = true) : l.Pairwise (fun x y => leS x y = true) := by
  cases l with
  | nil => exact .nil
  | cons x r => exact risingS_pw r x h
theorem sortS_eq {l m : List Str} (h : l.Pairwise (fun x y => leS x y = true)) (p : l.Perm m) : l = sortS m :=
  List.Perm.eq_of_pairwise (fun a b _ _ x y => leS_anti x y) h (sortS_pw m) (p.trans (sortS_perm m).symm)
theorem mem_dedS {k : Str} : ∀ {l : List Str}, k ∈ dedS l ↔ k ∈ l
  | [] => Iff.rfl
  | a :: r => by
    unfold dedS
    split
    · rename_i h
      rw [mem_dedS, List.mem_cons]
      exact ⟨.inr, fun z => z.elim (fun e => e ▸ h) id⟩
    · rw [List.mem_cons, List.mem_cons, mem_dedS]
theorem nodup_dedS : ∀ l : List Str, (dedS l).Nodup
  | [] => .nil
  | a :: r => by
    unfold dedS
    split
    · exact nodup_dedS r
    · rename_i h
      exact List.nodup_cons.mpr ⟨fun z => h (mem_dedS.mp z), nodup_dedS r⟩
theorem ascS_eq {l xs : List Str} (h : l.Pairwise (fun x y => leS x y = true)) (nd : l.Nodup) (hm : ∀ k, k ∈ l ↔ k ∈ xs) : l = ascS xs :=
  sortS_eq h ((List.perm_ext_iff_of_nodup nd (nodup_dedS xs)).mpr fun k => (hm k).trans mem_dedS.symm)
/-! ### the calls -/
def TxO (w : World) (a : Addr) (l : List Str) : HO := .ext fun h => TxSet w h a l
theorem txO_new {w : World} {P : Program} {H : Hp} {h : Heap} {a : Addr} {l : List Str} (R : TxSet w h a l) : ObjOk P w H h a (TxO w a l) := by
  refine ⟨R, ?_, fun h1 h2 z k => z.at k⟩
  obtain ⟨es, ep, t, o, ms, R⟩ := R
  exact ⟨o, R.ob⟩
def rSetTx (K : PySem.W.Frag) (w : World) : List V → Hp → VK → Prop := fun vs H Q => ∃ (a : Addr) (xs : List Str), vs = [V.ref a] ∧ SqL K H a (xs.map V.str) ∧ xs.length + 1 < scanBound ∧ ∀ p, H p = none → Q (.ref p) (upd H p (TxO w p xs))
def rSortTx (w : World) : List V → Hp → VK → Prop := fun vs H Q => ∃ (a : Addr) (xs : List Str), vs = [V.ref a] ∧ H a = some (TxO w a xs) ∧ ∀ p, H p = none → Q (.ref p) (upd H p (.lst ((ascS xs).map V.str)))
def rSortL (K : PySem.W.Frag) : List V → Hp → VK → Prop := fun vs H Q => ∃ (a : Addr) (xs : List Str), vs = [V.ref a] ∧ SqL K H a (xs.map V.str) ∧ ∀ p, H p = none → Q (.ref p) (upd H p (.lst ((sortS xs).map V.str)))
section
variable {X : Cx}
theorem cr_setTx (hc : X.calm = true) : CallR X (.type "set") (rSetTx X.K X.w) := by
  intro pins s σ H vs us Q I r h
  obtain ⟨a, xs, rfl, hs, hb, q⟩ := h
  obtain ⟨its, rv, hl, _⟩ := I.list hs
  rw [Vals.ref1 r]
  refine call_set_txt (I.ok.hd hc) hl.isList (by simpa using rv.strs) hb fun h' tk R k => ?_
  have hn : H s.heap.objs.size = none := I.hok.fresh (Nat.le_refl _)
  exact ⟨.ref _, upd H s.heap.objs.size (TxO X.w s.heap.objs.size xs), I.laid (t' := tk) k (Nat.le_refl _) (txO_new R), rfl, q _ hn⟩
theorem cr_sortTx (hc : X.calm = true) : CallR X (.builtin "sorted") (rSortTx X.w) := by
  intro pins s σ H vs us Q I r h
  obtain ⟨a, xs, rfl, ha, q⟩ := h
  have R : TxSet X.w s.heap a xs := (show ObjOk X.prog X.w H s.heap a (.ext fun h => TxSet X.w h a xs) from I.hok a _ ha).1
  rw [Vals.ref1 r]
  refine sorted_txt R (I.ok.hd hc) fun s' p out c ns k g o hp hg hi hs hnd hm hl => ?_
  have e2 := ascS_eq (sortedS_pw hs) hnd hm
  subst e2
  have hz : (ascS xs).length ≤ sizeLine := by
    obtain ⟨es, ep, t, ob, ms, R⟩ := R
    have := R.bd
    unfold scanBound at this
    rw [sizeLine_eq]
    omega
  have hn : H p = none := I.hok.fresh hp
  have J : Inv X pins σ (upd H p (.lst ((ascS xs).map V.str))) { s with heap := s'.heap, gens := s'.gens, drawn := s'.drawn, toks := s'.toks } :=
    I.call (ch := []) (Un.laid k hp hn) (I.hok.laid k hp ⟨by rw [List.length_map]; exact hz, out.toList, c, vals_of_strs hi, hg⟩) (by rw [g]; exact I.bare) (fun _ z => nomatch z)
  have e : s' = { s with heap := s'.heap, gens := s'.gens, drawn := s'.drawn, toks := s'.toks } := by
    cases s'
    cases s
    cases o
    rfl
  rw [e]
  exact ⟨.ref p, _, J, rfl, q p hn⟩
theorem cr_sortL : CallR X (.builtin "sorted") (rSortL X.K) := by
  intro pins s σ H vs us Q I r h
  obtain ⟨a, xs, rfl, hs, q⟩ := h
  obtain ⟨its, rv, hl, hz⟩ := I.list hs
  rw [Vals.ref1 r]
  have hlen0 := rv.length
  rw [List.length_map] at hlen0
  have hzz : its.length ≤ sizeLine := by rw [← hlen0]; simpa using hz
  refine PyProof.Rows.sorted_strsAny hl.isList rv.strs hzz fun out ys h1 h2 h3 => ?_
  have e2 := sortS_eq (sortedS_pw h3) h2
  subst e2
  obtain ⟨ep, he'⟩ := PyProof.Rows.sortedAll_at s.heap its out
  have hlen : ((sortS xs).map V.str).length ≤ sizeLine := by rw [List.length_map, h2.length_eq, hlen0]; exact hzz
  exact ⟨.ref _, upd H (s.heap.objs.size + 1) (.lst ((sortS xs).map V.str)), I.laid (t' := s.toks) (fun _ _ => PyProof.Rows.sortedAll_old) (Nat.le_succ _) ⟨hlen, out.toList, ep, vals_of_strs h1, he'⟩, rfl, q _ (I.hok.fresh (Nat.le_succ _))⟩
end
/-! ### by data -/
theorem repL_strs {T : Tx} {G : Hp} : ∀ (xs : List Str), RepL T G (xs.map D.str) (xs.map V.str)
  | [] => rfl
  | x :: xs => ⟨_, _, rfl, rfl, repL_strs xs⟩
theorem strsD_map : ∀ (xs : List Str), strsD (xs.map D.str) = some xs
  | [] => rfl
  | x :: xs => by simp [strsD, strsD_map xs]
def ascD (d : D) : Res D := match d with
  | .lst ds => match strsD ds with
    | some xs => if xs.length < 4000 then .ok (.lst ((ascS xs).map .str)) else .bad
    | none => .bad
  | _ => .bad
def sortF : List D → Res D
  | [.lst ds] => match strsD ds with
    | some xs => .ok (.lst ((sortS xs).map .str))
    | none => .bad
  | _ => .bad
section
variable {T : Tx}
theorem p_sort : PrimA T (rSortL T.K) sortF := by
  intro G H xs as Q eg r h
  unfold sortF at h
  split at h
  · rename_i ds
    obtain ⟨v, rfl, a, ys, rfl, ha, rl⟩ := r.one
    split at h
    · rename_i zs hz
      have e := strsD_rep rl hz
      subst e
      exact ⟨a, zs, rfl, .inl (.inl (eg _ _ ha)), fun p hp => h.lst eg (repL_strs _) hp⟩
    · exact h.elim
  · exact h.elim
end
section
variable {X : Cx} {T : Tx} {W : WishX} {e : Expr} {m : MM D} {p p2 q pos : Pos}
/-- sorted(set(e)) -/
theorem me_asc (hK : X.K = T.K) (hc : X.calm = true) (hg : Gl X "sorted") (hm : X.mg "sorted" = none) (hg2 : Gl X "set") (hm2 : X.mg "set" = none) (he : ME X T W e m) (hs : starEach [e] X.env = [(false, eval e X.env)] := by rfl)
    (hs2 : starEach [.Call (.Name "set" p2) [e] [] q] X.env = [(false, eval (.Call (.Name "set" p2) [e] [] q) X.env)] := by rfl) :
    ME X T W (.Call (.Name "sorted" p) [.Call (.Name "set" p2) [e] [] q] [] pos) (unM ascD m) := by
  refine pe_imp (pe_callB (cr_sortTx hc) hg hm (by decide +kernel) (pa_cons (pe_callTy (cr_setTx hc) hg2 hm2 (by decide +kernel) (pa_cons he pa_nil hs) (he := hs) (hpl := rfl)) pa_nil hs2) (he := hs2) (hpl := rfl)) fun σ H Q ⟨A, F, G, β, s, p⟩ => ?_
  refine ⟨A, F, G, β, s, p.bindE fun d β1 v G1 H1 e1 s1 r1 p1 => ?_⟩
  have p2 := p1.prim s1
  cases d with
  | lst ds =>
    unfold ascD at p2
    dsimp only at p2
    split at p2
    · rename_i xs hx
      split at p2
      · rename_i hl
        obtain ⟨a, ys, rfl, ha, rl⟩ := r1
        have e := strsD_rep rl hx
        subst e
        refine ⟨a, xs, rfl, .inl (.inl (s1.gh _ _ ha)), by unfold scanBound; omega, fun t ht => ⟨t, xs, rfl, upd_same, fun l hl => ?_⟩⟩
        have nt : l ≠ t := fun z => by rw [z, upd_same] at hl; cases hl
        rw [upd_ne nt] at hl
        have g1 : G1 l = none := fresh_back s1.gh hl
        have gt : G1 t = none := fresh_back s1.gh ht
        have q1 : Grow T G1 H1 G1 (upd H1 t (TxO X.w t xs)) := Grow.side s1.gh (Evl.Ex.new ht)
        exact p2 _ (upd G1 l (.lst ((ascS xs).map V.str))) _ (q1.trans (Grow.new q1.gh (by rw [upd_ne nt]; exact hl))) ⟨l, _, rfl, upd_same, repL_strs _⟩
      · exact p2.elim
    · exact p2.elim
  | _ => exact p2.elim
end
/-! ### str() of an int, of a text -/
def strF : List D → Res D
  | [.int i] => if i.natAbs.log2 < 1920 then .ok (.str (Str.ofString (toString i))) else .bad
  | [.str x] => .ok (.str x)
  | _ => .bad
theorem call_strA {X : Cx} : CallR X (.type "str") (fun xs H Q => (∃ i, xs = [.int i] ∧ i.natAbs.log2 < 1920 ∧ Q (.str (toString i)) H) ∨ ∃ a, xs = [.str a] ∧ Q (.str a) H) :=
  fun pins s σ H xs us Q I r h => h.elim (fun h => call_str_int pins s σ H xs us Q I r h) (fun h => SkE.call_str_str pins s σ H xs us Q I r h)
theorem p_str {T : Tx} : PrimA T (fun xs H Q => (∃ i, xs = [.int i] ∧ i.natAbs.log2 < 1920 ∧ Q (.str (toString i)) H) ∨ ∃ a, xs = [.str a] ∧ Q (.str a) H) strF := by
  intro G H xs as Q eg r h
  unfold strF at h
  split at h
  · obtain ⟨v, rfl, rv⟩ := r.one
    split at h
    · rename_i i hi
      exact .inl ⟨_, by rw [show v = _ from rv], hi, h _ G H (Grow.refl eg) rfl⟩
    · exact h.elim
  · obtain ⟨v, rfl, rv⟩ := r.one
    exact .inr ⟨_, by rw [show v = _ from rv], h _ G H (Grow.refl eg) rfl⟩
  · exact h.elim
/-! ### isinstance -/
def tyOf : D → Option String
  | .non => some "NoneType" | .bl _ => some "bool" | .int _ => some "int" | .str _ => some "str" | .tup _ => some "tuple" | .lst _ => some "list" | .scr _ => some "list" |   .dic _ _ => some "dict" | .obj _ _ => none
/-- facts of the own classes -/
structure ClsOk (T : Tx) : Prop where
  cls : ∀ c C, T.cl c = some C → Cls T.K C ∧ PySem.W.findIn T.K (.ref C) "__class__" = some (some (.builtin "object.__class__")) ∧ PySem.W.mroIn T.K C (.type "object") = some true
  hn : PySem.W.specialIn T.K (.builtin "object.__class__") "__get__" = some (some (.builtin "getset_descriptor.__get__"))
  htk : PySem.W.takesIn T.K (.builtin "object.__class__") = some true
  kb : ∀ c C b, T.cl c = some C → b ∈ ["str", "int", "bool", "tuple", "list", "dict"] → PySem.W.kitOne T.K (.ref C) (.type b) = some false
  kt : ∀ c C b, T.cl c = some C → b ∈ ["NoneType", "bool", "int", "str", "tuple", "list", "dict"] → PySem.W.kitOne T.K (.type b) (.ref C) = some false
  kc : ∀ c C c' C', T.cl c = some C → T.cl c' = some C' → PySem.W.kitOne T.K (.ref C) (.ref C') = some (decide (c = c'))
def isiB (b : String) (d : D) : Bool := match tyOf d with
  | some t => t == b || (t == "bool" && b == "int")
  | none => false
def isiC (c : Str) (d : D) : Bool := match d with
  | .obj c' _ => decide (c' = c)
  | _ => false
section
variable {T : Tx}
theorem Rep.tyX (C : ClsOk T) {G H : Hp} (eg : Ex G H) : ∀ {d : D} {v : V}, Rep T G d v → (∃ t, tyOf d = some t ∧ TyX T.K H v (.type t)) ∨ ∃ c fs A, d = .obj c fs ∧ T.cl c = some A ∧ TyX T.K H v (.ref A)
  | .non, _, h => .inl ⟨_, rfl, by rw [show _ = _ from h]; exact .base .non⟩
  | .bl _, _, h => .inl ⟨_, rfl, by rw [show _ = _ from h]; exact .base (.bl _)⟩
  | .int _, _, h => .inl ⟨_, rfl, by rw [show _ = _ from h]; exact .base (.int _)⟩
  | .str _, _, h => .inl ⟨_, rfl, by rw [show _ = _ from h]; exact .base (.str _)⟩
  | .tup _, _, h => by
    obtain ⟨a, xs, rfl, st, _⟩ := h
    refine .inl ⟨_, rfl, ?_⟩
    rcases st with ⟨o, _, e⟩ | ⟨o, its, n, _, e, c, _⟩
    · exact .fTuple (eg _ _ e)
    · exact .kTuple e c
  | .lst _, _, h => by
    obtain ⟨a, xs, rfl, e, _⟩ := h
    exact .inl ⟨_, rfl, .base (.lst (eg _ _ e))⟩
  | .scr _, _, h => by
    obtain ⟨a, rfl, st⟩ := h
    refine .inl ⟨_, rfl, ?_⟩
    rcases st with (e | ⟨o, e⟩) | ⟨o, its, n, e, c, _⟩
    · exact .base (.lst (eg _ _ e))
    · exact .base (.frz (eg _ _ e))
    · exact .kList e c
  | .dic _ _, _, h => by
    obtain ⟨a, xs, rfl, e, _⟩ := h
    refine .inl ⟨_, rfl, ?_⟩
    rcases e.1 with e | ⟨o, e⟩
    · exact .base (.dK (eg _ _ e))
    · exact .fDict (eg _ _ e)
  | .obj c fs, _, h => by
    obtain ⟨a, A, dx, ys, rfl, hc, e, _⟩ := h
    obtain ⟨h1, h2, h3⟩ := C.cls c A hc
    exact .inr ⟨c, fs, A, rfl, hc, .base (.ins (eg _ _ e) h1 h2 C.hn C.htk h3)⟩
theorem kitB_six : ∀ t ∈ ["NoneType", "bool", "int", "str", "tuple", "list", "dict"], ∀ b ∈ ["str", "int", "bool", "tuple", "list", "dict"], kitB t b = some (t == b || (t == "bool" && b == "int")) := by decide +kernel
theorem tyOf_mem {d : D} {t : String} (h : tyOf d = some t) : t ∈ ["NoneType", "bool", "int", "str", "tuple", "list", "dict"] := by
  cases d <;> cases h <;> decide
end
section
variable {X : Cx} {T : Tx} {W : WishX} {e : Expr} {m : MM D} {p p2 pos : Pos}
def isiM (f : D → Bool) (m : MM D) : MM D := fun β => (m β).bind fun p => .ok (.bl (f p.1), p.2)
theorem me_isiB {x : Str} {b : String} (hK : X.K = T.K) (C : ClsOk T) (hb : b ∈ ["str", "int", "bool", "tuple", "list", "dict"]) (hg : Gl X "isinstance") (hm : X.mg "isinstance" = none) (hg2 : Gl X x) (hm2 : X.mg x = none) (hv : bootBuiltins x = some (.type b)) (he : ME X T W e m)
    (hn : x ≠ "__name__" := by decide) (hd : (x == ("__debug__" : Str)) = false := by decide) (hs : starEach [e, .Name x p2] X.env = [(false, eval e X.env), (false, eval (.Name x p2) X.env)] := by rfl) : ME X T W (.Call (.Name "isinstance" p) [e, .Name x p2] [] pos) (isiM (isiB b) m) := by
  refine pe_imp (pe_callB call_isi hg hm (by decide +kernel) (pa_cons he (pa_cons (pe_bltn (v := .ty b) hg2 hm2 hv rfl hn hd) pa_nil (by rfl)) hs) (he := hs) (hpl := rfl)) fun σ H Q ⟨A, F, G, β, s, p⟩ => ?_
  refine ⟨A, F, G, β, s, p.bindE fun d β1 v G1 H1 e1 s1 r1 p1 => ?_⟩
  have fin : ∀ k, k = isiB b d → Q (.bl k) H1 := fun k hk => by
    rw [hk]
    exact p1 _ G1 H1 (Ex.refl _) s1 rfl
  show rIsi X.K [v, .ty b] H1 Q
  rw [hK]
  rcases r1.tyX C s1.gh with ⟨t, ht, tx⟩ | ⟨c, fs, A', rfl, hc, tx⟩
  · exact ⟨v, _, _, _, _, rfl, .ty b, tx, kit_ty (kitB_six t (tyOf_mem ht) b hb), fin _ (by unfold isiB; rw [ht])⟩
  · exact ⟨v, _, _, _, _, rfl, .ty b, tx, C.kb c A' b hc hb, fin _ rfl⟩
theorem me_isiC {x : Str} {c : Str} {A' : Addr} (hK : X.K = T.K) (C : ClsOk T) (hc : T.cl c = some A') (hg : Gl X "isinstance") (hm : X.mg "isinstance" = none) (hg2 : Gl X x) (hm2 : X.mg x = some (.ref A')) (he : ME X T W e m)
    (hd : (x == ("__debug__" : Str)) = false := by decide) (hs : starEach [e, .Name x p2] X.env = [(false, eval e X.env), (false, eval (.Name x p2) X.env)] := by rfl) : ME X T W (.Call (.Name "isinstance" p) [e, .Name x p2] [] pos) (isiM (isiC c) m) := by
  refine pe_imp (pe_callB call_isi hg hm (by decide +kernel) (pa_cons he (pa_cons (pe_glob (v := .ref A') hg2 hm2 rfl hd) pa_nil (by rfl)) hs) (he := hs) (hpl := rfl)) fun σ H Q ⟨A, F, G, β, s, p⟩ => ?_
  refine ⟨A, F, G, β, s, p.bindE fun d β1 v G1 H1 e1 s1 r1 p1 => ?_⟩
  have fin : ∀ k, k = isiC c d → Q (.bl k) H1 := fun k hk => by
    rw [hk]
    exact p1 _ G1 H1 (Ex.refl _) s1 rfl
  show rIsi X.K [v, .ref A'] H1 Q
  rw [hK]
  rcases r1.tyX C s1.gh with ⟨t, ht, tx⟩ | ⟨c', fs, B', rfl, hc', tx⟩
  · exact ⟨v, _, _, _, _, rfl, .own A', tx, C.kt c A' t hc (tyOf_mem ht), fin _ (by unfold isiC; cases d <;> first | rfl | cases ht)⟩
  · exact ⟨v, _, _, _, _, rfl, .own A', tx, C.kc c' B' c A' hc' hc, fin _ rfl⟩
end
end Fw
end

section
set_option Elab.async false
set_option linter.all false
set_option maxRecDepth 100000
set_option maxHeartbeats 4000000
set_option autoImplicit false
/-! # star parameters, own classes -/
namespace Fw
open PySem PySem.Spec L2 Evl
open PyProof.Rows (envOfC)
theorem Rm.make {k : Nat} {A : Around} (r : Rm (k + 1) A) (C : Addr) (us : List Value) (kw : List (Str × Value)) : Rm k (A.under (.builtin "type.__call__" ⟨.ref C :: us, kw⟩)) := by
  refine ⟨r.r.make C us kw, ?_⟩
  have h := r.g
  show (Around.under _ _).guards = _
  first
    | exact h
    | (rw [← h]; rfl)
    | (unfold Around.under; simpa using h)
/-- what is left over is a new tuple -/
def starSp (n : Nat) (sp : Sp) : Sp := fun vs H Q E => ∃ ws rest, vs = ws ++ rest ∧ ws.length = n ∧ rest.length ≤ sizeLine ∧ ∀ p o, H p = none → o.dict = none → sp (ws ++ [V.ref p]) (upd H p (.frz o (.tup rest))) Q E
section
variable {P : Program} {w : World} {K : PySem.W.Frag} {mg : Str → Option Value} {base : Heap} {k : Nat} {f : Addr} {x qual pv : Str} {st : Stmt} {fd : FuncData} {N ps : List Str} {sp : Sp}
theorem fn_GS (F : Fun K x qual st f fd) (S : FnScope N (ps ++ [pv]) (defScope st))
    (hb : ∀ us rest : List Value, us.length = ps.length → bindArgs fd ⟨us ++ rest, []⟩ = (newTuple rest >>= fun t => pure (ps.zip us ++ [(pv, t)])))
    (body : ∀ (cdv : Value) (A : Around) (outer : List Env) (s : Shared) (H : Hp) (vs : List V) (Q : VK) (E : XK), Rm k (A.deeper (envOfC qual (defScope st) s.heap.objs.size f cdv)) → sp vs H Q E →
      ∃ t, PSs (cxOf (L2.CX P w) P w K mg base N qual (defScope st) f cdv A outer s H E) (defBody st) t ∧ t { nx := fun _ H' => Q .non H', rt := Q } (L2.start N vs) H) :
    FnG P w K mg base (k + 1) f [] (starSp ps.length sp) := by
  obtain ⟨oc, od, kV, doc, pm, an, cdv, ct, osl, rfl, lk, hcd⟩ := F.ex
  intro A outer s H us zw vs zs Q E hr e0 r rz hz hsp
  obtain rfl : zs = [] := List.eq_nil_of_length_eq_zero hz
  cases rz
  rw [List.append_nil] at hsp
  obtain ⟨ws, rest, ev, hl, hz, hq⟩ := hsp
  subst ev
  obtain ⟨u1, u2, eu, r1, r2⟩ := StX.vals_split r
  subst eu
  have hn : H s.heap.objs.size = Option.none := e0.hok.fresh (Nat.le_refl _)
  have hl1 : u1.length = ps.length := by rw [← r1.length]; exact hl
  have hl2 : u2.length ≤ sizeLine := by rw [← r2.length]; exact hz
  refine StX.run_bnd lk hcd S hr.r e0 (G := fun xs H2 => ∃ p o, H p = Option.none ∧ o.dict = Option.none ∧ xs = ws ++ [V.ref p] ∧ H2 = upd H p (.frz o (.tup rest))) (fun A' Ex Q' h => ?_) fun s2 H2 xs ⟨p, o, hp, ho, ex, eH⟩ hr' => ?_
  · have hb' := hb u1 u2 hl1
    show wpAny _ _ (bindArgs _ ⟨u1 ++ u2, []⟩) _ _ _
    rw [hb']
    refine wpAny_bind (wpAny_newTuple (wpAny_pure ?_) hl2)
    have new : ObjOk P w (upd H s.heap.objs.size (.frz ({ cls := .type "tuple", data := .seq u2.toArray } : Obj) (.tup rest))) (s.heap.push ({ cls := .type "tuple", data := .seq u2.toArray } : Obj)) s.heap.objs.size (.frz ({ cls := .type "tuple", data := .seq u2.toArray } : Obj) (.tup rest)) := ⟨Heap.get?_push_size _ rfl, hz, u2, r2, ⟨_, Heap.get?_push_size _ rfl, rfl, _, rfl⟩⟩
    have un := StX.un_laid (fs := frs outer) (s := s) (o := ({ cls := .type "tuple", data := .seq u2.toArray } : Obj)) (u := .frz ({ cls := .type "tuple", data := .seq u2.toArray } : Obj) (.tup rest)) hn
    have z := h _ _ (ws ++ [V.ref s.heap.objs.size]) (u1 ++ [Value.ref s.heap.objs.size]) (StX.env0_laid e0 new) un rfl (fun e s' => StX.cxUp outer s H _ _ E e s' un (fun b o q => Heap.get?_push_of_some _ q) rfl) (r1.append (.cons rfl .nil))
      (by rw [List.length_append, List.length_append, hl] <;> rfl) ⟨_, _, hn, rfl, rfl, rfl⟩
    rw [List.zip_append hl1.symm] at z
    exact z
  · subst ex eH
    exact body cdv A outer s2 _ _ Q E ⟨hr', hr.g⟩ (hq p o hp ho)
end
theorem FnG.imp {P : Program} {w : World} {K : PySem.W.Frag} {mg : Str → Option Value} {base : Heap} {k : Nat} {f : Addr} {ks : List Str} {sp sp' : Sp} (F : FnG P w K mg base k f ks sp) (h : ∀ vs H Q E, sp' vs H Q E → sp vs H Q E) : FnG P w K mg base k f ks sp' :=
  fun A outer s H us ws vs zs Q E r e rv rz hz q => F A outer s H us ws vs zs Q E r e rv rz hz (h _ _ _ _ q)
/-- self and any number of data -/
def spMS (T : Tx) (fm : B → List D → Res (D × B)) : Sp := fun vs H Q E => ∃ G p ws b ds, vs = .ref p :: ws ∧ Gh T G H ∧ G p = none ∧ b.own = true ∧ ORep T G H p b ∧ RepL T G ds ws ∧ ds.length ≤ 1000000 ∧ PostM T p G H (fm b [.tup ds]) Q E
theorem GrowB.new {T : Tx} {p q : Addr} {o : HO} {G H G' H' : Hp} (eg : Ex G H) (hq : H q = none) (g : GrowB T p (upd G q o) (upd H q o) G' H') : GrowB T p G H G' H' := by
  have gq : G q = none := fresh_back eg hq
  have n := Grow.new (T := T) (o := o) eg hq
  refine ⟨(Ex.new gq).trans g.gg, g.gh, ⟨fun a u ha h n => g.hh.at' a u ha (by rw [upd_ne (ne_of_none h hq)]; exact h) n, fun a u ha h => g.hh.tt a u ha (by rw [upd_ne (ne_of_none h hq)]; exact h)⟩, fun a h1 h2 => ?_, fun h => g.tb (n.tb h)⟩
  have z : a ≠ q := fun e => h1 (by rw [e]; exact hq)
  exact g.ap a (by rw [upd_ne z]; exact h1) (by rw [upd_ne z]; exact h2)
theorem GrowX.new {T : Tx} {p q : Addr} {o : HO} {G H G' H' : Hp} (eg : Ex G H) (hq : H q = none) (g : GrowX T p (upd G q o) (upd H q o) G' H') : GrowX T p G H G' H' := by
  have gq : G q = none := fresh_back eg hq
  have n := Grow.new (T := T) (o := o) eg hq
  refine ⟨(Ex.new gq).trans g.gg, g.gh, ⟨fun a u ha h n => g.hh.at' a u ha (by rw [upd_ne (ne_of_none h hq)]; exact h) n, fun a u ha h => g.hh.tt a u ha (by rw [upd_ne (ne_of_none h hq)]; exact h)⟩, fun h => g.tb (n.tb h), fun a h0 h1 h2 => ?_⟩
  have z : a ≠ q := fun e => h1 (by rw [e]; exact hq)
  exact g.ap a h0 (by rw [upd_ne z]; exact h1) (by rw [upd_ne z]; exact h2)
theorem Gh.grow {T : Tx} {G H G' H' : Hp} (g : Gh T G H) (h : Grow T G H G' H') : Gh T G' H' := ⟨h.gh, h.tb g.tb⟩
theorem tabs_freeze {G H : Hp} {L : List (Addr × Str)} {p : Addr} {o : HO} (t : LamX.Tabs L (off G H)) (hp : H p = some o) (n : ¬ TC o) : LamX.Tabs L (off (upd G p o) H) := tabs_keep t fun a u ha hu => by
    have h1 := off_subE a u ha
    have h2 := off_dj a (by rw [ha]; exact fun z => nomatch z)
    have x : a ≠ p := fun z => by subst z; rw [hp] at h1; cases h1; exact n hu
    rw [off_at (by rw [upd_ne x]; exact h2)]
    exact h1
theorem PostM.new {T : Tx} {p q : Addr} {o : HO} {G H : Hp} {r : Res (D × B)} {Q : VK} {E : XK} (eg : Ex G H) (hq : H q = none) (h : PostM T p G H r Q E) : PostM T p (upd G q o) (upd H q o) r Q E := by
  match r, h with
  | .ok (d, b), h => exact fun v G' H' g => h v G' H' (g.new eg hq)
  | .exc c fs, h => exact fun C dx ys G' H' hc g => h C dx ys G' H' hc (g.new eg hq)
  | .bad, h => exact h
theorem fn_MS {P : Program} {w : World} {K : PySem.W.Frag} {mg : Str → Option Value} {base : Heap} {k : Nat} {f : Addr} {T : Tx} {fm : B → List D → Res (D × B)} (F : FnG P w K mg base k f [] (starSp 1 (spM T 2 fm))) : FnG P w K mg base k f [] (spMS T fm) := by
  refine F.imp fun vs H Q E ⟨G, p, ws, b, ds, ev, eg, g0, ho, ro, r, hl, po⟩ => ?_
  refine ⟨[.ref p], ws, ev, rfl, by rw [r.length]; exact sz_ok hl, fun q o hq ho' => ⟨rfl, upd G q (.frz o (.tup ws)), p, [.ref q], b, [.tup ds], rfl, eg.grow (Grow.new eg.gh hq), ?_, ho, ?_, ?_, po.new eg.gh hq⟩⟩
  · have z : p ≠ q := fun e => ro.there (by rw [e]; exact hq)
    rw [upd_ne z]; exact g0
  · have z : p ≠ q := fun e => ro.there (by rw [e]; exact hq)
    exact ro.mono (Ex.new (fresh_back eg.gh hq)) fun o h _ => by rw [upd_ne z]; exact h
  · exact ⟨_, _, rfl, rep_tup ho' (Ex.new (fresh_back eg.gh hq)) r, rfl⟩
/-! ### an instance made -/
def makeM (c : Str) (fm : B → List D → Res (D × B)) (m : MM (List D)) : MM D := fun β => (m β).bind fun p => (fm (.oi false c []) p.1).bind fun q => match q.1, q.2 with
  | .non, .oi _ c' fs => if c' = c then .ok (.obj c fs, p.2) else .bad
  | _, _ => .bad
section
variable {X : Cx} {T : Tx} {W : WishX} {k : Nat} {f C : Addr} {c x : Str} {p pos : Pos} {e : Expr} {es : List Expr} {m : MM (List D)} {fm : B → List D → Res (D × B)} {sp : Sp}
theorem run_makeG {pins : List (Addr × Obj)} {σ : L2.St} {H : Hp} {s : Shared} {Q : VK} {us : List Value} {vs : List V} (M : Mk X.K C f) (F : FnG X.prog X.w X.K X.mg X.base k f [] sp) (hr : Rm (k + 1) X.A) (tk : Takes X W) (I : Inv X pins σ H s) (r : Vals vs us)
    (h : ∀ x dx, H x = Option.none → H dx = Option.none → dx ≠ x → sp (V.ref x :: vs) (upd (upd H dx (.own x)) x (.ins C dx [])) (fun v H2 => v = .non ∧ Q (.ref x) H2) (WE W σ)) :
    wpAny (model X.prog X.w) X.A (call (.ref C) us) (EP X pins σ Q) X.xe s := by
  have hq := h (s.heap.objs.size + 1) s.heap.objs.size (I.hok.fresh (Nat.le_succ _)) (I.hok.fresh (Nat.le_refl _)) (Nat.ne_of_lt (Nat.lt_succ_self _))
  have I2 := Inv.made (C := C) I
  have r2 : Vals (V.ref (s.heap.objs.size + 1) :: vs) (Value.ref (s.heap.objs.size + 1) :: us) := .cons rfl r
  refine wpAny_call (make_map (f := f) I.kIn M.makes M.init (beq_iff_eq.mp M.fn) (codeAny_mono (F _ X.stack _ _ (Value.ref (s.heap.objs.size + 1) :: us) [] _ [] _ (WE W σ) (hr.make C us []) (I2.env0.make C us []) r2 .nil rfl (by rw [List.append_nil]; exact hq)) fun r s' hq' => ?_))
  cases r with
  | error e => exact passAt tk σ pins _ _ e s' I2 hq'
  | ok fl =>
    cases fl with
    | ret u =>
      obtain ⟨v, H', I3, rv, ev, q3⟩ := I2.after hq'
      subst ev
      exact ⟨rv, ⟨V.ref (s.heap.objs.size + 1), H', I3, rfl, q3⟩⟩
    | next => exact False.elim hq'
    | brk => exact False.elim hq'
    | cont => exact False.elim hq'
/-- what making leaves -/
theorem make_post {A : Nat → Option Addr} {F G H : Hp} {σ : St} {β : En} {Q : VK} {r : Res (D × B)} {a dx : Addr} (hc : T.cl c = some C) (s : SI T A F G H σ β)
    (h : PostE T A W F G σ (r.bind fun q => match q.1, q.2 with
      | .non, .oi _ c' fs => if c' = c then .ok (.obj c fs, β) else .bad
      | _, _ => .bad) Q) (ha : H a = none) (hd : H dx = none) (ne : dx ≠ a) :
    PostM T a G (upd (upd H dx (.own a)) a (.ins C dx [])) r (fun v H2 => v = .non ∧ Q (.ref a) H2) (WE W σ) := by
  have up : ∀ b u, H b = some u → (upd (upd H dx (.own a)) a (.ins C dx [])) b = some u := fun b u h => by rw [upd_ne (ne_of_none h ha), upd_ne (ne_of_none h hd)]; exact h
  have un : ∀ b, H b ≠ none → (upd (upd H dx (.own a)) a (.ins C dx [])) b ≠ none := fun b h z => by
    cases q : H b with
    | none => exact h q
    | some o => rw [up b o q] at z; cases z
  have upT : LamX.Tabs T.tabs (off G H) → LamX.Tabs T.tabs (off G (upd (upd H dx (.own a)) a (.ins C dx []))) := fun t => (Grow.side s.gh up).tb t
  match r, h with
  | .ok (.non, .oi pp c' fs), h =>
    intro v G' H' g ro rv
    refine ⟨rv, ?_⟩
    dsimp only [Res.bind_ok] at h
    split at h
    · rename_i ec
      subst ec
      obtain ⟨C', dx', ys, hC, hx, rf⟩ := ro
      have ga : G a = none := fresh_back s.gh ha
      have g'a : G' a = none := g.ap a (by rw [upd_same]; exact fun z => nomatch z) ga
      have gr : Grow T G H (upd G' a (.ins C' dx' ys)) H' := by
        refine ⟨g.gg.trans (Ex.new g'a), g.gh.put hx, ⟨fun b u hb n => g.hh.at' b u (ne_of_none hb ha) (up b u hb) n, fun b u hb => g.hh.tt b u (ne_of_none hb ha) (up b _ hb)⟩, fun b h1 h2 => ?_, fun t => tabs_freeze (g.tb (upT t)) hx (by (intro z; rcases z with ⟨_, z⟩ | ⟨_, _, z⟩ <;> first | (cases z; done) | (unfold LamX.CodeO at z; cases z)))⟩
        have z : b ≠ a := fun e => h1 (by rw [e]; exact ha)
        rw [upd_ne z]
        exact g.ap b (un b h1) h2
      exact h _ _ _ gr.gg (s.grow gr) ⟨a, C', dx', ys, rfl, hC, upd_same, rf.mono (Ex.new g'a)⟩
    · exact h.elim
  | .ok (.non, .im _), h => exact h.elim
  | .ok (.non, .ol _ _), h => exact h.elim
  | .ok (.non, .od _ _), h => exact h.elim
  | .ok (.bl _, _), h => exact h.elim
  | .ok (.int _, _), h => exact h.elim
  | .ok (.str _, _), h => exact h.elim
  | .ok (.tup _, _), h => exact h.elim
  | .ok (.lst _, _), h => exact h.elim
  | .ok (.scr _, _), h => exact h.elim
  | .ok (.dic _ _, _), h => exact h.elim
  | .ok (.obj _ _, _), h => exact h.elim
  | .exc c2 fs, h =>
    intro C2 dx2 ys G' H' hc2 g hx rf
    refine h C2 dx2 ys G' H' hc2 g.gg g.gh ((s.fh.trans (.of up)).thenB g.hh (fresh_back s.fh ha)) ⟨fun b hb => ?_, fun t => g.tb (upT (s.dj.tb t))⟩ hx rf
    have h1 := ne_none s.fh hb
    exact g.ap b (fun e => h1 (by rw [e]; exact ha)) (un b h1) (s.dj b hb)
  | .bad, h => exact h.elim
theorem orep_made {G H : Hp} {a dx : Addr} (hc : T.cl c = some C) : ORep T G (upd (upd H dx (.own a)) a (.ins C dx [])) a (.oi false c []) := ⟨C, dx, [], hc, upd_same, rfl⟩
theorem ex_made {G H : Hp} {a dx : Addr} (eg : Gh T G H) (ha : H a = none) (hd : H dx = none) : Gh T G (upd (upd H dx (.own a)) a (.ins C dx [])) := eg.grow (Grow.side eg.gh fun b u h1 => by
  rw [upd_ne (ne_of_none h1 ha), upd_ne (ne_of_none h1 hd)]; exact h1)
/-- C(e, ..), __init__ with a star parameter -/
def makeS (c : Str) (fm : B → List D → Res (D × B)) (m : MM (List D)) : MM D := makeM c (fun b ds => if ds.length ≤ 1000000 then fm b [.tup ds] else .bad) m
theorem me_makeS (M : Mk X.K C f) (F : FnG X.prog X.w X.K X.mg X.base k f [] (spMS T fm)) (hr : Rm (k + 1) X.A) (hc : T.cl c = some C) (hg : Gl X x) (hm : X.mg x = some (.ref C)) (tk : Takes X W) (ha : MA X T W (e :: es) m) (hdb : (x == ("__debug__" : Str)) = false := by decide)
    (he : starEach (e :: es) X.env = (false, eval e X.env) :: starEach es X.env := by rfl) (hpl : (backTo pos (starEach es X.env)).any (·.1) = false := by rfl) : ME X T W (.Call (.Name x p) (e :: es) [] pos) (makeS c fm m) := by
  refine ⟨fun pins s σ H Q I ⟨A, F0, G, β, si, po⟩ => ?_⟩
  refine wpAny_Call_Name_kw (ld_glob I hg hm ?_ hdb)
  refine PySem.W.callWith_K (h₀ := X.base) I.ok.mod.kin M.kp (thn (ha.run pos pins s σ H (fun vs H1 => ∀ x dx, H1 x = Option.none → H1 dx = Option.none → dx ≠ x → spMS T fm (V.ref x :: vs) (upd (upd H1 dx (.own x)) x (.ins C dx [])) (fun v H2 => v = .non ∧ Q (.ref x) H2) (WE W σ)) I ⟨A, F0, G, β, si, ?_⟩) fun us s1 ⟨vs, H1, I1, r, q⟩ => ⟨I1.kIn, run_makeG M F hr tk I1 r q⟩) he hpl
  refine PostE.bindA po fun ds β1 vs G1 H1 e1 s1 r1 p1 a dx ha hd ne => ?_
  dsimp only at p1
  split at p1
  · rename_i hl
    exact ⟨G1, a, vs, _, ds, rfl, ex_made s1.gg ha hd, fresh_back s1.gh ha, rfl, orep_made hc, r1, hl, make_post hc s1 p1 ha hd ne⟩
  · exact p1.elim
theorem me_makeS0 (M : Mk X.K C f) (F : FnG X.prog X.w X.K X.mg X.base k f [] (spMS T fm)) (hr : Rm (k + 1) X.A) (hc : T.cl c = some C) (hg : Gl X x) (hm : X.mg x = some (.ref C)) (tk : Takes X W) (hdb : (x == ("__debug__" : Str)) = false := by decide) : ME X T W (.Call (.Name x p) [] [] pos) (makeS c fm nilM) := by
  refine ⟨fun pins s σ H Q I ⟨A, F0, G, β, si, po⟩ => ?_⟩
  refine wpAny_Call_Name_kw (ld_glob I hg hm ?_ hdb)
  refine PySem.W.callWith_K0 I.kIn M.kp (run_makeG (us := []) M F hr tk I .nil fun a dx ha hd ne => ?_)
  exact ⟨G, a, [], _, [], rfl, ex_made si.gg ha hd, fresh_back si.gh ha, rfl, orep_made hc, rfl, by decide, make_post hc si po ha hd ne⟩
/-- C(*e) -/
def starM (m : MM D) : MM (List D) := fun β => (m β).bind fun p => match p.1 with
  | .tup ds => .ok (ds, p.2)
  | .lst ds => .ok (ds, p.2)
  | _ => .bad
theorem me_makeSt {sp_ : Pos} {m1 : MM D} (hK : X.K = T.K) (M : Mk X.K C f) (F : FnG X.prog X.w X.K X.mg X.base k f [] (spMS T fm)) (hr : Rm (k + 1) X.A) (hc : T.cl c = some C) (hg : Gl X x) (hm : X.mg x = some (.ref C)) (tk : Takes X W) (he : ME X T W e m1) (hdb : (x == ("__debug__" : Str)) = false := by decide)
    (hst : starEach [.Starred e sp_] X.env = [(true, eval e X.env)] := by rfl) : ME X T W (.Call (.Name x p) [.Starred e sp_] [] pos) (makeS c fm (starM m1)) := by
  refine ⟨fun pins s σ H Q I ⟨A, F0, G, β, si, po⟩ => ?_⟩
  refine wpAny_Call_Name_kw (ld_glob I hg hm ?_ hdb)
  refine PySem.W.callWith_S (h₀ := X.base) I.ok.mod.kin M.kp (thn (he.run pins s σ H (fun y H1 => ∃ a xs, y = V.ref a ∧ (SqT X.K H1 a xs ∨ SqL X.K H1 a xs) ∧ ∀ x dx, H1 x = Option.none → H1 dx = Option.none → dx ≠ x → spMS T fm (V.ref x :: xs) (upd (upd H1 dx (.own x)) x (.ins C dx [])) (fun v H2 => v = .non ∧ Q (.ref x) H2) (WE W σ)) I ⟨A, F0, G, β, si, ?_⟩) fun v s1 ⟨y, H1, I1, ry, a, xs, ey, hxs, q⟩ => ?_) hst
  · unfold makeS makeM starM at po
    rw [hK]
    cases h1 : m1 β with
    | ok q =>
      obtain ⟨d, β1⟩ := q
      rw [h1] at po
      intro v G1 H1 e1 s1 r1
      have p1 := PostE.mono e1 po
      have fin : ∀ (ds : List D) (a : Addr) (xs : List V), v = .ref a → (SqT T.K H1 a xs ∨ SqL T.K H1 a xs) → RepL T G1 ds xs → PostE T A W F0 G1 σ (((if ds.length ≤ 1000000 then fm (.oi false c []) [.tup ds] else .bad) : Res (D × B)).bind fun q => match q.1, q.2 with
          | .non, .oi _ c' fs => if c' = c then .ok (.obj c fs, β1) else .bad
          | _, _ => .bad) Q → ∃ a xs, v = V.ref a ∧ (SqT T.K H1 a xs ∨ SqL T.K H1 a xs) ∧ ∀ x dx, H1 x = Option.none → H1 dx = Option.none → dx ≠ x → spMS T fm (V.ref x :: xs) (upd (upd H1 dx (.own x)) x (.ins C dx [])) (fun v H2 => v = .non ∧ Q (.ref x) H2) (WE W σ) := by
        intro ds a xs ev hs rl pp
        refine ⟨a, xs, ev, hs, fun y dx ha hd ne => ?_⟩
        split at pp
        · rename_i hl
          exact ⟨G1, y, xs, _, ds, rfl, ex_made s1.gg ha hd, fresh_back s1.gh ha, rfl, orep_made hc, rl, hl, make_post hc s1 pp ha hd ne⟩
        · exact pp.elim
      cases d with
      | tup ds => obtain ⟨a, xs, ev, st, rl⟩ := r1; exact fin ds a xs ev (.inl (ex_t s1.gh st.sq)) rl p1
      | lst ds => obtain ⟨a, xs, ev, st, rl⟩ := r1; exact fin ds a xs ev (.inr (.inl (.inl (s1.gh _ _ st)))) rl p1
      | _ => exact p1.elim
    | exc c2 fs => rw [h1] at po; exact po
    | bad => rw [h1] at po; exact po.elim
  · subst ey
    obtain rfl : v = Value.ref a := ry
    exact StX.star_any I1 hxs fun us s2 I2 rv => ⟨I2.kIn, run_makeG M F hr tk I2 rv q⟩
end
end Fw
end

section
set_option Elab.async false
set_option linter.all false
set_option maxRecDepth 100000
set_option maxHeartbeats 4000000
set_option autoImplicit false
/-! # fields, static methods, methods -/
namespace Fw
open PySem PySem.Spec L2 Evl
theorem RepF.look {T : Tx} {G : Hp} {f : Str} {d : D} : ∀ {fs : List (Str × D)} {ys : List (Str × V)}, RepF T G fs ys → fs.lookup f = some d → ∃ v, ys.lookup f = some v ∧ Rep T G d v
  | [], _, _, h => by simp at h
  | (g, d0) :: fs, _, r, h => by
    obtain ⟨v, t, rfl, r1, r2⟩ := r
    by_cases e : f = g
    · subst e
      simp at h
      subst h
      exact ⟨v, by simp, r1⟩
    · have e' : (f == g) = false := by simpa using e
      simp only [List.lookup, e'] at h ⊢
      exact RepF.look r2 h
theorem RepF.lookN {T : Tx} {G : Hp} {f : Str} : ∀ {fs : List (Str × D)} {ys : List (Str × V)}, RepF T G fs ys → fs.lookup f = none → ys.lookup f = none
  | [], _, r, _ => by rw [show _ = _ from r]; rfl
  | (g, d0) :: fs, _, r, h => by
    obtain ⟨v, t, rfl, r1, r2⟩ := r
    by_cases e : f = g
    · subst e
      simp at h
    · have e' : (f == g) = false := by simpa using e
      simp only [List.lookup, e'] at h ⊢
      exact RepF.lookN r2 h
theorem RepF.length {T : Tx} {G : Hp} : ∀ {fs : List (Str × D)} {ys : List (Str × V)}, RepF T G fs ys → ys.length = fs.length
  | [], _, r => by rw [show _ = _ from r]; rfl
  | (g, d0) :: fs, _, r => by
    obtain ⟨v, t, rfl, r1, r2⟩ := r
    simp [RepF.length r2]
def putFD (f : Str) (v : D) : List (Str × D) → List (Str × D)
  | [] => [(f, v)]
  | (g, x) :: r => if g = f then (g, v) :: r else (g, x) :: putFD f v r
theorem RepF.put {T : Tx} {G : Hp} {f : Str} {d : D} {v : V} (rd : Rep T G d v) : ∀ {fs : List (Str × D)} {ys : List (Str × V)}, RepF T G fs ys → RepF T G (putFD f d fs) (putF f v ys)
  | [], _, r => by rw [show _ = _ from r]; exact ⟨v, [], rfl, rd, rfl⟩
  | (g, d0) :: fs, _, r => by
    obtain ⟨w, t, rfl, r1, r2⟩ := r
    unfold putFD putF
    split
    · exact ⟨v, t, rfl, rd, r2⟩
    · exact ⟨w, _, rfl, r1, RepF.put rd r2⟩
/-- the fields that are no attributes of the classes -/
structure FldOk (T : Tx) (fl : Str → List Str) : Prop where
  na : ∀ c C f, T.cl c = some C → f ∈ fl c → NoAttr T.K C f
def fldM (fl : Str → List Str) (f : Str) (m : MM D) : MM D := fun β => (m β).bind fun p => match p.1 with
  | .obj c fs => if f ∈ fl c then match fs.lookup f with
    | some d => .ok (d, p.2)
    | none => .bad else .bad
  | _ => .bad
/-- a field of one's own instance -/
def oFldM (fl : Str → List Str) (i : Nat) (f : Str) : MM D := fun β => match β[i]? with
  | some (some (.oi _ c fs)) => if f ∈ fl c then match fs.lookup f with
    | some d => .ok (d, β)
    | none => .bad else .bad
  | _ => .bad
/-- self.f = e -/
def oSetM (fl : Str → List Str) (i : Nat) (f : Str) (m : MM D) : MM Fl := fun β => (m β).bind fun p => match p.2[i]? with
  | some (some (.oi q c fs)) => if f ∈ fl c ∧ fs.length < 900 then .ok (.nx, p.2.set i (some (.oi q c (putFD f p.1 fs)))) else .bad
  | _ => .bad
section
variable {X : Cx} {T : Tx} {W : WishX} {fl : Str → List Str} {e : Expr} {m : MM D} {f : Str} {pos pos' : Pos} {i : Nat} {y : Str} {py : Pos}
theorem me_fld (hK : X.K = T.K) (C : ClsOk T) (L : FldOk T fl) (he : ME X T W e m) (hb : attributeBase e f X.env (eval e X.env) = eval e X.env := by rfl) : ME X T W (.Attribute e f pos) (fldM fl f m) := by
  refine pe_imp (pe_fld he hb) fun σ H Q ⟨A, F, G, β, s, p⟩ => ?_
  refine ⟨A, F, G, β, s, p.bindE fun d β1 v G1 H1 e1 s1 r1 p1 => ?_⟩
  cases d with
  | obj c fs =>
    dsimp only at p1
    split at p1
    · rename_i hf
      obtain ⟨a, A', dx, ys, ev, hc, ha, rf⟩ := r1
      cases hl : fs.lookup f with
      | none => rw [hl] at p1; exact p1.elim
      | some d =>
        rw [hl] at p1
        obtain ⟨u, hu, ru⟩ := rf.look hl
        rw [hK]
        exact ⟨a, A', dx, ys, u, ev, s1.gh _ _ ha, (C.cls c A' hc).1, L.na c A' f hc hf, hu, p1 u G1 H1 (Ex.refl _) s1 ru⟩
    · exact p1.elim
  | _ => exact p1.elim
theorem me_ofld (hK : X.K = T.K) (C : ClsOk T) (L : FldOk T fl) (hN : X.N[i]? = some y) (hv : Vis X.env.scope y) (hd : (y == ("__debug__" : Str)) = false := by decide) (hcd : (y == ("__classdict__" : Str)) = false := by decide)
    (hb : attributeBase (.Name y py) f X.env (eval (.Name y py) X.env) = eval (.Name y py) X.env := by rfl) : ME X T W (.Attribute (.Name y py) f pos) (oFldM fl i f) := by
  refine pe_imp (pe_fld (pe_var hN hv hd hcd) hb) fun σ H Q ⟨A, F, G, β, s, p⟩ => ?_
  unfold oFldM at p
  split at p
  · rename_i q c fs hi
    split at p
    · rename_i hf
      obtain ⟨a, ha, g0, f0, A', dx, ys, hc, hx, rf⟩ := s.ownAt hi rfl
      split at p
      · rename_i d hl
        obtain ⟨u, hu, ru⟩ := rf.look hl
        refine ⟨_, ha, ?_⟩
        rw [hK]
        exact ⟨a, A', dx, ys, u, rfl, hx, (C.cls c A' hc).1, L.na c A' f hc hf, hu, p u G H (Ex.refl _) s ru⟩
      · exact p.elim
    · exact p.elim
  · exact p.elim
theorem ms_oset (hK : X.K = T.K) (C : ClsOk T) (L : FldOk T fl) (hN : X.N[i]? = some y) (hv : Vis X.env.scope y) (he : ME X T W e m) (hd : (y == ("__debug__" : Str)) = false := by decide) (hcd : (y == ("__classdict__" : Str)) = false := by decide)
    (hs : swapsWith e (some (.Attribute (.Name y py) f pos')) pos.line X.env = pure false := by rfl) : MS X T W (.Assign [.Attribute (.Name y py) f pos'] e pos) (oSetM fl i f m) := by
  refine ps_imp (ps_fld (pe_var hN hv hd hcd) he hs) fun D σ H ⟨A, F, G, β, s, p⟩ => ?_
  refine ⟨A, F, G, β, s, p.bindE fun d β1 v G1 H1 e1 s1 r1 p1 => ?_⟩
  dsimp only at p1
  split at p1
  · rename_i q c fs hi
    split at p1
    · rename_i hf
      obtain ⟨a, ha, g0, f0, A', dx, ys, hc, hx, rf⟩ := s1.ownAt hi rfl
      refine ⟨_, ha, ?_⟩
      rw [hK]
      refine ⟨a, A', dx, ys, rfl, hx, (C.cls c A' hc).1, L.na c A' f hc hf.1, by rw [rf.length]; omega, ?_⟩
      exact p1 σ G1 _ (Ex.refl _) (s1.put hi rfl ha g0 rfl rfl ⟨A', dx, _, hc, upd_same, rf.put r1⟩)
    · exact p1.elim
  · exact p1.elim
end
/-! ### static methods -/
structure SMet (K : PySem.W.Frag) (C : Addr) (m : Str) (g : Addr) : Prop where
  rd : PySem.W.readsIn K C (.type "type") = true
  ga : PySem.W.specialIn K (.ref C) "__getattribute__" = some (some (.builtin "type.__getattribute__"))
  at_ : ∃ p, PySem.W.findCls K (.ref C) (.type "type") m = some (.get (.builtin "staticmethod.__get__") (.ref p) .none (.ref C)) ∧ ∃ rest, PySem.W.recIn K p "staticmethod" = some (.ref g :: rest)
  kp : PySem.W.keepIn K (.ref g) = true
section
variable {X : Cx} {T : Tx} {W : WishX} {k n : Nat} {C g : Addr} {x mn : Str} {fm : List D → Res D} {m : MM (List D)} {e : Expr} {es : List Expr} {p0 apos pos : Pos} {ks : List Str} {kws : List Keyword} {mk : MM (List D)}
theorem smeth_ok {pins : List (Addr × Obj)} {σ : L2.St} {H : Hp} {s : Shared} {A : Around} {E : Value → Shared → Prop} {pl : Sem Bool} {Q : Value × List Value → Shared → Prop} (I : Inv X pins σ H s) (M : SMet X.K C mn g) (h : ∀ s', Inv X pins σ H s' → Q (.ref g, []) s') :
    wpAny (model X.prog X.w) A (getMethod (.ref C) mn pl) Q E s := by
  obtain ⟨p, h1, rest, h2⟩ := M.at_
  refine PySem.W.method_cls I.kIn M.ga (PySem.W.cls_bind I.kIn M.rd h1 ?_)
  exact wpAny_call (PySem.W.sm_get (s := { s with toks := s.toks + 1 }) I.kIn h2 (PySem.W.handed_on rfl (h _ (I.tok _))))
theorem call_post {A : Nat → Option Addr} {F G : Hp} {σ : St} {β : En} {Q : VK} (hn : ∀ β ds β', m β = .ok (ds, β') → ds.length = n) (p : PostE T A W F G σ (callM fm m β) Q) :
    PostA T A W F G σ (m β) (fun vs H1 => spF T n fm vs H1 Q (WE W σ)) := by
  unfold callM at p
  cases hm : m β with
  | ok q =>
    obtain ⟨ds, β'⟩ := q
    rw [hm] at p
    intro vs G1 H1 e1 s1 r1
    exact ⟨by rw [r1.length]; exact hn _ _ _ hm, G1, ds, s1.gg, r1, PostFn.of s1 (PostE.mono e1 p)⟩
  | exc c fs => rw [hm] at p; exact p
  | bad => rw [hm] at p; exact p
/-- C.m(e, ..), m a static method -/
theorem me_static {pl : Sem Bool} (M : SMet X.K C mn g) (F : FnG X.prog X.w X.K X.mg X.base k g [] (spF T n fm)) (hr : Rm k X.A) (hg : Gl X x) (hm : X.mg x = some (.ref C)) (tk : Takes X W) (ha : MA X T W (e :: es) m) (hn : ∀ β ds β', m β = .ok (ds, β') → ds.length = n)
    (hdb : (x == ("__debug__" : Str)) = false := by decide) (he : starEach (e :: es) X.env = (false, eval e X.env) :: starEach es X.env := by rfl) (hpl : (backTo pos (starEach es X.env)).any (·.1) = false := by rfl)
    (ht : eval (.Call (.Attribute (.Name x p0) mn apos) (e :: es) [] pos) X.env = (do
      let ov ← eval (.Name x p0) X.env
      standAt apos.atName
      let (f, first) ← holding [ov] (getMethod ov mn pl)
      callWith pos f first (backTo pos (starEach (e :: es) X.env)) (backToKw pos (keywordEach [] X.env))) := by rfl) :
    ME X T W (.Call (.Attribute (.Name x p0) mn apos) (e :: es) [] pos) (callM fm m) := by
  refine ⟨fun pins s σ H Q I ⟨A, F0, G, β, si, po⟩ => ?_⟩
  refine PySem.W.methodCall_KW (pl := pl) (ld_glob I hg hm ?_ hdb) ht
  refine smeth_ok I M fun s1 I1 => ?_
  refine PySem.W.callWith_K (h₀ := X.base) (first := []) I1.ok.mod.kin M.kp (thn (ha.run pos pins s1 σ H _ I1 ⟨A, F0, G, β, si, call_post hn po⟩) fun us s2 ⟨vs, H2, I2, r, q⟩ => ⟨I2.kIn, ?_⟩) he hpl
  exact run_G0 F hr tk I2 r q
end
/-! ### keywords -/
abbrev MK (X : Cx) (T : Tx) (W : WishX) (e : List Keyword) (m : MM (List D)) : Prop := PK X e (tA T W m)
section
variable {X : Cx} {T : Tx} {W : WishX} {k n : Nat} {C g f : Addr} {x mn nm : Str} {fm : List D → Res D} {m : MM (List D)} {m1 : MM D} {e : Expr} {es : List Expr} {p0 p apos pos kpos : Pos} {ks : List Str} {kws : List Keyword} {mk : MM (List D)}
theorem pk_imp {t t' : TA} (h : PK X kws t) (q : ∀ σ H Q, t' σ H Q → t σ H Q) : PK X kws t' := ⟨fun pos pins s σ H Q I z => h.run pos pins s σ H Q I (q σ H Q z)⟩
theorem mk_nil : MK X T W [] nilM := pk_imp pk_nil fun σ H Q ⟨A, F, G, β, s, p⟩ => p [] G H (Ex.refl _) s rfl
theorem mk_cons (ha : ME X T W e m1) (hr : MK X T W kws mk) : MK X T W (⟨nm, e, kpos⟩ :: kws) (consM m1 mk) := by
  refine pk_imp (pk_cons ha hr) fun σ H Q ⟨A, F, G, β, s, p⟩ => ?_
  exact ⟨A, F, G, β, s, p.bindE fun d β1 v G1 H1 e1 s1 r1 p1 => ⟨A, F, G1, β1, s1, p1.bindA fun d2 β2 v2 G2 H2 e2 s2 r2 p2 => p2 _ G2 H2 (Ex.refl _) s2 ⟨v, v2, rfl, r1.mono e2, r2⟩⟩⟩
/-- positional data, then the keywords' -/
def appMM (m1 m2 : MM (List D)) : MM (List D) := fun β => (m1 β).bind fun p => (m2 p.2).bind fun q => .ok (p.1 ++ q.1, q.2)
/-- by keywords: sp of the parameters in their order; pf says how the values given come to stand -/
def spK (T : Tx) (n : Nat) (pf : List D → List D) (fm : List D → Res D) : Sp := fun vs H Q E => vs.length = n ∧ ∃ G ds, Gh T G H ∧ RepL T G ds vs ∧ PostFn T G H (fm (pf ds)) Q E
theorem kw_post {A : Nat → Option Addr} {F G : Hp} {σ : St} {β : En} {Q : VK} {k1 k2 : Nat} {pf : List D → List D} (h1 : ∀ β ds β', m β = .ok (ds, β') → ds.length = k1) (h2 : ∀ β ds β', mk β = .ok (ds, β') → ds.length = k2) (hn : k1 + k2 = n)
    (p : PostE T A W F G σ (callM (fun ds => fm (pf ds)) (appMM m mk) β) Q) :
    PostA T A W F G σ (m β) (fun vs H1 => tA T W mk σ H1 fun zs H2 => zs.length = k2 ∧ spK T n pf fm (vs ++ zs) H2 Q (WE W σ)) := by
  unfold callM appMM at p
  cases hm : m β with
  | ok q =>
    obtain ⟨ds, β'⟩ := q
    rw [hm] at p
    intro vs G1 H1 e1 s1 r1
    have p1 := PostE.mono e1 p
    refine ⟨A, F, G1, β', s1, ?_⟩
    dsimp only [Res.bind_ok] at p1
    cases hk : mk β' with
    | ok q2 =>
      obtain ⟨ds2, β2⟩ := q2
      rw [hk] at p1
      intro zs G2 H2 e2 s2 r2
      have l1 : vs.length = k1 := by rw [r1.length]; exact h1 _ _ _ hm
      have l2 : zs.length = k2 := by rw [r2.length]; exact h2 _ _ _ hk
      exact ⟨l2, by rw [List.length_append, l1, l2, hn], G2, ds ++ ds2, s2.gg, (r1.mono e2).append r2, PostFn.of s2 (PostE.mono e2 p1)⟩
    | exc c fs => rw [hk] at p1; exact p1
    | bad => rw [hk] at p1; exact p1
  | exc c fs => rw [hm] at p; exact p
  | bad => rw [hm] at p; exact p
/-- f(k = v, ..): no positional ones -/
theorem me_callK0 {pf : List D → List D} (F : FnG X.prog X.w X.K X.mg X.base k f ks (spK T n pf fm)) (hr : Rm k X.A) (hg : Gl X x) (hm : X.mg x = some (.ref f)) (hk : PySem.W.keepIn X.K (.ref f) = true) (tk : Takes X W) (hkw : MK X T W kws mk) (hn : ∀ β ds β', mk β = .ok (ds, β') → ds.length = n) (hkn : n = ks.length)
    (hall : (backToKw pos (keywordEach kws X.env)).all (·.1.isSome) = true := by rfl) (hks : (backToKw pos (keywordEach kws X.env)).filterMap (·.1) = ks := by rfl) (hdb : (x == ("__debug__" : Str)) = false := by decide)
    (hpl : ((backTo pos (starEach ([] : List Expr) X.env)).any (·.1) || (backToKw pos (keywordEach kws X.env)).any (·.1.isNone)) = false := by rfl) :
    ME X T W (.Call (.Name x p) [] kws pos) (callM (fun ds => fm (pf ds)) (appMM nilM mk)) := by
  refine ⟨fun pins s σ H Q I ⟨A, F0, G, β, si, po⟩ => ?_⟩
  refine wpAny_Call_Name_kw (ld_glob I hg hm ?_ hdb)
  have pp := kw_post nilM_len hn (Nat.zero_add n) po [] G H (Ex.refl _) si rfl
  refine PySem.W.callWith_KW0 (h₀ := X.base) (first := []) I.ok.mod.kin hk hall (thn (hkw.run pos pins s σ H _ I pp) fun ws s2 ⟨zs, H2, I2, rz, l2, q2⟩ => ⟨I2.kIn, ?_⟩) hpl
  rw [hks]
  exact wpAny_call (run_G (us := []) (vs := []) F hr tk I2 .nil rz (l2.trans hkn) q2)
/-- f(e, .., k = v, ..) -/
theorem me_callK {pf : List D → List D} {k1 : Nat} (F : FnG X.prog X.w X.K X.mg X.base k f ks (spK T n pf fm)) (hr : Rm k X.A) (hg : Gl X x) (hm : X.mg x = some (.ref f)) (hk : PySem.W.keepIn X.K (.ref f) = true) (tk : Takes X W) (ha : MA X T W (e :: es) m) (hkw : MK X T W kws mk)
    (h1 : ∀ β ds β', m β = .ok (ds, β') → ds.length = k1) (hn : ∀ β ds β', mk β = .ok (ds, β') → ds.length = ks.length) (hkn : k1 + ks.length = n)
    (hall : (backToKw pos (keywordEach kws X.env)).all (·.1.isSome) = true := by rfl) (hks : (backToKw pos (keywordEach kws X.env)).filterMap (·.1) = ks := by rfl) (hdb : (x == ("__debug__" : Str)) = false := by decide) (he : starEach (e :: es) X.env = (false, eval e X.env) :: starEach es X.env := by rfl)
    (hpl : ((backTo pos (starEach (e :: es) X.env)).any (·.1) || (backToKw pos (keywordEach kws X.env)).any (·.1.isNone)) = false := by rfl) :
    ME X T W (.Call (.Name x p) (e :: es) kws pos) (callM (fun ds => fm (pf ds)) (appMM m mk)) := by
  refine ⟨fun pins s σ H Q I ⟨A, F0, G, β, si, po⟩ => ?_⟩
  refine wpAny_Call_Name_kw (ld_glob I hg hm ?_ hdb)
  refine PySem.W.callWith_KW (h₀ := X.base) I.ok.mod.kin hk hall (thn (ha.run pos pins s σ H _ I ⟨A, F0, G, β, si, kw_post h1 hn hkn po⟩) fun us s1 ⟨vs, H1, I1, r, q⟩ => ?_) hpl he
  refine thn (hkw.run pos pins s1 σ H1 _ I1 q) fun ws s2 ⟨zs, H2, I2, rz, l2, q2⟩ => ⟨I2.kIn, ?_⟩
  rw [hks]
  exact wpAny_call (run_G F hr tk I2 r rz l2 q2)
/-- C.m(k = v, ..), static -/
theorem me_staticK0 {pl : Sem Bool} {pf : List D → List D} (M : SMet X.K C mn g) (F : FnG X.prog X.w X.K X.mg X.base k g ks (spK T n pf fm)) (hr : Rm k X.A) (hg : Gl X x) (hm : X.mg x = some (.ref C)) (tk : Takes X W) (hkw : MK X T W kws mk) (hn : ∀ β ds β', mk β = .ok (ds, β') → ds.length = n) (hkn : n = ks.length)
    (hall : (backToKw pos (keywordEach kws X.env)).all (·.1.isSome) = true := by rfl) (hks : (backToKw pos (keywordEach kws X.env)).filterMap (·.1) = ks := by rfl) (hdb : (x == ("__debug__" : Str)) = false := by decide)
    (hpl : ((backTo pos (starEach ([] : List Expr) X.env)).any (·.1) || (backToKw pos (keywordEach kws X.env)).any (·.1.isNone)) = false := by rfl)
    (ht : eval (.Call (.Attribute (.Name x p0) mn apos) [] kws pos) X.env = (do
      let ov ← eval (.Name x p0) X.env
      standAt apos.atName
      let (f, first) ← holding [ov] (getMethod ov mn pl)
      callWith pos f first (backTo pos (starEach [] X.env)) (backToKw pos (keywordEach kws X.env))) := by rfl) :
    ME X T W (.Call (.Attribute (.Name x p0) mn apos) [] kws pos) (callM (fun ds => fm (pf ds)) (appMM nilM mk)) := by
  refine ⟨fun pins s σ H Q I ⟨A, F0, G, β, si, po⟩ => ?_⟩
  refine PySem.W.methodCall_KW (pl := pl) (ld_glob I hg hm ?_ hdb) ht
  refine smeth_ok I M fun s1 I1 => ?_
  have pp := kw_post nilM_len hn (Nat.zero_add n) po [] G H (Ex.refl _) si rfl
  refine PySem.W.callWith_KW0 (h₀ := X.base) (first := []) I1.ok.mod.kin M.kp hall (thn (hkw.run pos pins s1 σ H _ I1 pp) fun ws s2 ⟨zs, H2, I2, rz, l2, q2⟩ => ⟨I2.kIn, ?_⟩) hpl
  rw [hks]
  exact wpAny_call (run_G (us := []) (vs := []) F hr tk I2 .nil rz (l2.trans hkn) q2)
end
/-- the values given, put in the parameters' order -/
def perm {α : Type} (ix : List Nat) (l : List α) : List α := ix.filterMap fun i => l[i]?
theorem perm_rep {T : Tx} {G : Hp} {ds : List D} {vs : List V} (r : RepL T G ds vs) : ∀ ix : List Nat, RepL T G (perm ix ds) (perm ix vs)
  | [] => rfl
  | i :: ix => by
    have ih := perm_rep r ix
    unfold perm at ih ⊢
    cases h : ds[i]? with
    | none =>
      have h2 : vs[i]? = none := by
        have := r.length
        rw [List.getElem?_eq_none_iff] at h ⊢
        omega
      simp [h, h2]
      exact ih
    | some d =>
      obtain ⟨v, hv, rv⟩ := r.get h
      simp [h, hv]
      exact ⟨v, _, rfl, rv, ih⟩
theorem perm_vals {vs : List V} {us : List Value} (r : Vals vs us) : ∀ ix : List Nat, Vals (perm ix vs) (perm ix us)
  | [] => .nil
  | i :: ix => by
    have ih := perm_vals r ix
    unfold perm at ih ⊢
    cases h : vs[i]? with
    | none =>
      have h2 : us[i]? = none := by
        have := r.length
        rw [List.getElem?_eq_none_iff] at h ⊢
        omega
      simp [h, h2]
      exact ih
    | some d =>
      obtain ⟨v, hv, rv⟩ := r.get h
      simp [h, hv]
      exact .cons rv ih
section
open PyProof.Rows (envOfC)
variable {P : Program} {w : World} {K : PySem.W.Frag} {mg : Str → Option Value} {base : Heap} {x qual : Str} {st : Stmt} {f : Addr} {fd : FuncData} {N ps ks : List Str} {k : Nat} {T : Tx} {m : MM Fl}
/-- a def of the text called with keywords: ix the places of the values given -/
theorem fn_FK (ix : List Nat) (n1 : Nat) (F : Fun K x qual st f fd) (S : FnScope N ps (defScope st)) (hbd : ∀ us ws : List Value, us.length = n1 → ws.length = ks.length → bindArgs fd ⟨us, ks.zip ws⟩ = pure (ps.zip (perm ix (us ++ ws)))) (hix : ix.all (fun i => decide (i < n1 + ks.length)) = true) (hil : ix.length = ps.length)
    (hb : ∀ (cdv : Value) (A : Around) (outer : List Env) (s : Shared) (H : Hp) (E : XK), Rm k (A.deeper (envOfC qual (defScope st) s.heap.objs.size f cdv)) →
      MSs (cxOf (L2.CX P w) P w K mg base N qual (defScope st) f cdv A outer s H E) T (wE E) (defBody st) m) : FnG P w K mg base (k + 1) f ks (spK T (n1 + ks.length) (perm ix) (runF m N.length)) := by
  have plen : ∀ {α : Type} (l : List α), l.length = n1 + ks.length → (perm ix l).length = ps.length := by
    intro α l hl
    rw [← hil]
    unfold perm
    clear hil hbd
    induction ix with
    | nil => rfl
    | cons i ix ih =>
      simp only [List.all_cons, Bool.and_eq_true, decide_eq_true_eq] at hix
      have hi : i < l.length := by omega
      rw [List.filterMap_cons_some (List.getElem?_eq_getElem hi), List.length_cons, List.length_cons, ih hix.2]
  refine fn_G F S (fun vs => vs.length = n1 + ks.length) (fun us ws => perm ix (us ++ ws)) (perm ix) (fun vs zs us ws ho r rz hz => ?_) (fun vs H Q E h => h.1) (fun cdv A outer s H vs Q E hr h => ⟨_, hb cdv A outer s H E hr, ?_⟩)
  · have l2 : ws.length = ks.length := by rw [← rz.length]; exact hz
    have l1 : us.length = n1 := by
      have := r.length
      rw [List.length_append] at ho
      omega
    exact ⟨hbd us ws l1 l2, perm_vals (r.append rz) ix, plen _ ho⟩
  · obtain ⟨hl, G, ds, eg, r, p⟩ := h
    refine ⟨fun _ => none, off G H, G, env0 N.length (perm ix ds), si_start eg (perm_rep r ix), ?_⟩
    unfold runF at p
    match m (env0 N.length (perm ix ds)), p with
    | .ok (.nx, β'), p => exact fun σ' G' H' e s' => p _ G' H' (off_grow eg.gh e s'.gh s'.fh s'.dj) rfl
    | .ok (.bk, β'), p => exact p.elim
    | .ok (.ct, β'), p => exact p.elim
    | .ok (.rt d, β'), p => exact fun v σ' G' H' e s' rv => p v G' H' (off_grow eg.gh e s'.gh s'.fh s'.dj) rv
    | .ok (.rf d, β'), p => exact p.elim
    | .exc c fs, p => exact fun σ' C dx ys G' H' hc e gh fh dj hx rf => p C dx ys G' H' hc (off_grow eg.gh e gh fh dj) hx rf
    | .bad, p => exact p
end
/-! ### methods of instances -/
/-- o.m(e, ..): o data of the class c; self is the first datum -/
def methM (c mn : Str) (fm : List D → Res D) (mo : MM D) (m : MM (List D)) : MM D := fun β => (mo β).bind fun p => match p.1 with
  | .obj c' fs => if c' = c ∧ fs.lookup mn = none then (m p.2).bind fun q => (fm (.obj c' fs :: q.1)).bind fun d => .ok (d, q.2) else .bad
  | _ => .bad
section
variable {X : Cx} {T : Tx} {W : WishX} {k n : Nat} {C g : Addr} {c mn : Str} {fm : List D → Res D} {mo : MM D} {m : MM (List D)} {o e : Expr} {es : List Expr} {apos pos : Pos}
theorem me_meth {pl : Sem Bool} (hK : X.K = T.K) (CO : ClsOk T) (hc : T.cl c = some C) (M : Meth X.K C mn g) (F : FnG X.prog X.w X.K X.mg X.base k g [] (spF T (n + 1) fm)) (hr : Rm k X.A) (tk : Takes X W) (ho : ME X T W o mo) (ha : MA X T W (e :: es) m) (hn : ∀ β ds β', m β = .ok (ds, β') → ds.length = n)
    (he : starEach (e :: es) X.env = (false, eval e X.env) :: starEach es X.env := by rfl) (hpl : (backTo pos (starEach es X.env)).any (·.1) = false := by rfl)
    (ht : eval (.Call (.Attribute o mn apos) (e :: es) [] pos) X.env = (do
      let ov ← eval o X.env
      standAt apos.atName
      let (f, first) ← holding [ov] (getMethod ov mn pl)
      callWith pos f first (backTo pos (starEach (e :: es) X.env)) (backToKw pos (keywordEach [] X.env))) := by rfl) :
    ME X T W (.Call (.Attribute o mn apos) (e :: es) [] pos) (methM c mn fm mo m) := by
  refine ⟨fun pins s σ H Q I ⟨A, F0, G, β, si, po⟩ => ?_⟩
  refine PySem.W.methodCall_KW (pl := pl) (thn (ho.run pins s σ H (fun x H1 => ∃ a dx fs, x = .ref a ∧ H1 a = some (.ins C dx fs) ∧ fs.lookup mn = none ∧ tA T W m σ H1 fun vs H2 => spF T (n + 1) fm (.ref a :: vs) H2 Q (WE W σ)) I ⟨A, F0, G, β, si, ?_⟩) fun u s1 ⟨x, H1, I1, rx, a, dx, fs, ex, ea, l, q⟩ => ?_) ht
  · refine PostE.bindE po fun d β1 v G1 H1 e1 s1 r1 p1 => ?_
    cases d with
    | obj c' fs =>
      dsimp only at p1
      split at p1
      · rename_i h
        have r0 := r1
        obtain ⟨a, A', dx, ys, ev, hc', ha', rf⟩ := r1
        rw [h.1, hc] at hc'
        cases hc'
        subst ev
        refine ⟨a, dx, ys, rfl, s1.gh _ _ ha', rf.lookN h.2, A, F0, G1, β1, s1, ?_⟩
        cases hm : m β1 with
        | ok q =>
          obtain ⟨ds, β2⟩ := q
          rw [hm] at p1
          intro vs G2 H2 e2 s2 r2
          exact ⟨by simp [r2.length, hn _ _ _ hm], G2, .obj c' fs :: ds, s2.gg, ⟨_, _, rfl, r0.mono e2, r2⟩, PostFn.of s2 (PostE.mono e2 p1)⟩
        | exc c2 fs2 => rw [hm] at p1; exact p1
        | bad => rw [hm] at p1; exact p1
      · exact p1.elim
    | _ => exact p1.elim
  · subst ex
    obtain rfl : u = Value.ref a := rx
    have cc : Cls X.K C := by rw [hK]; exact (CO.cls c C hc).1
    refine getmeth_ok I1 ea cc M l ?_
    exact PySem.W.callWith_K (h₀ := X.base) (first := [.ref a]) I1.ok.mod.kin M.kp (thn (ha.run pos pins s1 σ H1 _ I1 q) fun us s2 ⟨vs, H2, I2, r, q⟩ => ⟨I2.kIn, run_G0 (us := .ref a :: us) (vs := .ref a :: vs) F hr tk I2 (.cons rfl r) q⟩) he hpl
theorem me_meth0 {pl : Sem Bool} (hK : X.K = T.K) (CO : ClsOk T) (hc : T.cl c = some C) (M : Meth X.K C mn g) (F : FnG X.prog X.w X.K X.mg X.base k g [] (spF T 1 fm)) (hr : Rm k X.A) (tk : Takes X W) (ho : ME X T W o mo)
    (ht : eval (.Call (.Attribute o mn apos) [] [] pos) X.env = (do
      let ov ← eval o X.env
      standAt apos.atName
      let (f, first) ← holding [ov] (getMethod ov mn pl)
      callWith pos f first (backTo pos (starEach [] X.env)) (backToKw pos (keywordEach [] X.env))) := by rfl) :
    ME X T W (.Call (.Attribute o mn apos) [] [] pos) (methM c mn fm mo nilM) := by
  refine ⟨fun pins s σ H Q I ⟨A, F0, G, β, si, po⟩ => ?_⟩
  refine PySem.W.methodCall_KW (pl := pl) (thn (ho.run pins s σ H (fun x H1 => ∃ a dx fs, x = .ref a ∧ H1 a = some (.ins C dx fs) ∧ fs.lookup mn = none ∧ spF T 1 fm [.ref a] H1 Q (WE W σ)) I ⟨A, F0, G, β, si, ?_⟩) fun u s1 ⟨x, H1, I1, rx, a, dx, fs, ex, ea, l, q⟩ => ?_) ht
  · refine PostE.bindE po fun d β1 v G1 H1 e1 s1 r1 p1 => ?_
    cases d with
    | obj c' fs =>
      dsimp only at p1
      split at p1
      · rename_i h
        have r0 := r1
        obtain ⟨a, A', dx, ys, ev, hc', ha', rf⟩ := r1
        rw [h.1, hc] at hc'
        cases hc'
        subst ev
        exact ⟨a, dx, ys, rfl, s1.gh _ _ ha', rf.lookN h.2, rfl, G1, [.obj c' fs], s1.gg, ⟨_, _, rfl, r0, rfl⟩, PostFn.of s1 p1⟩
      · exact p1.elim
    | _ => exact p1.elim
  · subst ex
    obtain rfl : u = Value.ref a := rx
    have cc : Cls X.K C := by rw [hK]; exact (CO.cls c C hc).1
    refine getmeth_ok I1 ea cc M l ?_
    exact PySem.W.callWith_K0 (first := [.ref a]) I1.kIn M.kp (run_G0 (us := [.ref a]) (vs := [.ref a]) F hr tk I1 (.cons rfl .nil) q)
end
end Fw
end

section
set_option Elab.async false
set_option linter.all false
set_option maxRecDepth 100000
set_option maxHeartbeats 4000000
set_option autoImplicit false
/-! # raise C(e), C's __init__ one store -/
namespace Fw
open PySem PySem.Spec L2 Evl
open PyProof.Rows (envOfC)
/-- what an __init__ of one store leaves -/
def spX1 (K : PySem.W.Frag) (f : Str) : Sp := fun vs H Q E => ∃ a C v, vs = [.ref a, v] ∧ OexC K C ∧ PySem.W.findIn K (.ref C) f = some none ∧ H a = some (exo a C none) ∧ ∀ dx, H dx = none → dx ≠ a → Q .non (upd (upd H dx (exd dx [(f, v)])) a (exo a C (some dx)))
section
variable {P : Program} {w : World} {K : PySem.W.Frag} {mg : Str → Option Value} {base : Heap} {x qual f s1 s2 : Str} {st : Stmt} {g : Addr} {fd : FuncData} {k : Nat} {p1 p2 p3 p4 : Pos}
theorem fn_X1 (F : Fun K x qual st g fd) (S : FnScope [s1, s2] [s1, s2] (defScope st)) (hbd : ∀ us : List Value, us.length = 2 → bindArgs fd ⟨us, []⟩ = pure ([s1, s2].zip us)) (hbody : defBody st = [.Assign [.Attribute (.Name s1 p1) f p2] (.Name s2 p3) p4])
    (v1 : Vis (defScope st) s1) (v2 : Vis (defScope st) s2) (d1 : (s1 == ("__debug__" : Str)) = false) (d2 : (s1 == ("__classdict__" : Str)) = false) (d3 : (s2 == ("__debug__" : Str)) = false) (d4 : (s2 == ("__classdict__" : Str)) = false) : FnG P w K mg base (k + 1) g [] (spX1 K f) := by
  refine fn_P (ps := [s1, s2]) F S hbd (fun vs H Q E ⟨a, C, v, e, _⟩ => by rw [e] <;> rfl) (fun cdv A outer s H vs Q E hr h => ?_)
  rw [hbody]
  refine ⟨_, pss_one (ps_ost (pe_var (i := 0) rfl v1 d1 d2) (pe_var (i := 1) rfl v2 d3 d4) (by rfl)), ?_⟩
  obtain ⟨a, C, v, rfl, T, hno, ha, q⟩ := h
  exact ⟨v, rfl, .ref a, rfl, a, C, rfl, T, hno, .inl ⟨ha, q⟩⟩
end
def raiseM (c f : Str) (m : MM D) : MM Fl := fun β => (m β).bind fun p => .exc c [(f, p.1)]
section
variable {X : Cx} {T : Tx} {W : WishX} {x c f : Str} {C fI : Addr} {k : Nat} {e : Expr} {m : MM D} {p pos rpos : Pos}
theorem pmk_X1 (O : OexC X.K C) (iC : PySem.W.findIn X.K (.ref C) "__init__" = some (some (.ref fI))) (tI : PySem.W.typeIn X.K (.ref fI) = some (.type "function")) (hno : PySem.W.findIn X.K (.ref C) f = some none)
    (F1 : FnG X.prog X.w X.K X.mg X.base k fI [] (spX1 X.K f)) (hr : Rm (k + 1) X.A) (tk0 : Takes X (fun _ _ _ _ => False)) (hg : Gl X x) (hm : X.mg x = some (.ref C)) {te : TE} (he : PE X e te)
    (hdb : (x == ("__debug__" : Str)) = false := by decide) (hs : starEach [e] X.env = [(false, eval e X.env)] := by rfl) :
    PMk X (.Call (.Name x p) [e] [] pos) (fun σ H Q => te σ H fun v H1 => ∀ a d, H1 a = none → H1 d = none → d ≠ a → Q (.ref C) (some d) (upd H1 d (.xd [(f, v)]))) := by
  intro pins s σ H Q I h
  obtain ⟨nm, q, N, bs, bm, sn, sub, ab, col, dd, k0, k1, k2, k3, k5, hC, hbm⟩ := O.cls
  refine wpAny_Call_Name_kw (ld_glob I hg hm ?_ hdb)
  refine PySem.W.callWith_K (h₀ := X.base) I.ok.mod.kin O.kC (thn ((pa_cons he pa_nil hs).run pos pins s σ H (fun vs H1 => match vs with
    | [v] => ∀ a d, H1 a = none → H1 d = none → d ≠ a → Q (.ref C) (some d) (upd H1 d (.xd [(f, v)]))
    | _ => False) I h) fun us s1 ⟨vs, H1, I1, r1, q1'⟩ => ⟨I1.kIn, ?_⟩) hs rfl
  obtain ⟨v, ev, q1⟩ : ∃ v, vs = [v] ∧ ∀ a d, H1 a = none → H1 d = none → d ≠ a → Q (.ref C) (some d) (upd H1 d (.xd [(f, v)])) := by
    match vs, q1' with
    | [v], q => exact ⟨v, rfl, q⟩
  subst ev
  show wpAny _ _ (call (.ref C) us) _ _ _
  obtain ⟨hp, g, dr, tk, os⟩ := s1
  have hsz : hp.objs.size ≤ hp.objs.size + 1 := Nat.le_succ _
  have hn : H1 (hp.objs.size + 1) = none := I1.hok.fresh hsz
  have kk : ∀ b o, hp.get? b = some o → ((hp.push (PySem.W.kdv_tup us)).push (PySem.HandSPX.excO C hp.objs.size)).get? b = some o := fun b o e => Heap.get?_push_of_some _ (Heap.get?_push_of_some _ e)
  have hget : ((hp.push (PySem.W.kdv_tup us)).push (PySem.HandSPX.excO C hp.objs.size)).get? (hp.objs.size + 1) = some (PySem.HandSPX.excO C hp.objs.size) := by heap_get
  have I2 : Inv X pins σ (upd H1 (hp.objs.size + 1) (exo (hp.objs.size + 1) C none)) ⟨(hp.push (PySem.W.kdv_tup us)).push (PySem.HandSPX.excO C hp.objs.size), g, dr, tk, os⟩ :=
    I1.laid (t' := tk) (a := hp.objs.size + 1) (o := exo (hp.objs.size + 1) C none) (h' := (hp.push (PySem.W.kdv_tup us)).push (PySem.HandSPX.excO C hp.objs.size)) kk hsz (exo_ok hget)
  have r2 : Vals [V.ref (hp.objs.size + 1), v] (Value.ref (hp.objs.size + 1) :: us) := .cons rfl r1
  have hus : us.length ≤ sizeLine := by
    rw [← Paired.length r1, sizeLine_eq]
    simp
  have hsp : spX1 X.K f ([V.ref (hp.objs.size + 1), v] ++ []) (upd H1 (hp.objs.size + 1) (exo (hp.objs.size + 1) C none))
      (fun u H2 => u = .non ∧ ∃ (d : Addr) (fs : List (Str × V)), H2 (hp.objs.size + 1) = some (exo (hp.objs.size + 1) C (some d)) ∧ H2 d = some (exd d fs) ∧ H1 d = none ∧ Q (.ref C) (some d) (upd (del H2 (hp.objs.size + 1)) d (.xd fs))) (fun _ _ _ => False) := by
    refine ⟨hp.objs.size + 1, C, v, rfl, O, hno, upd_same, fun dx h1 h2 => ⟨rfl, dx, [(f, v)], upd_same, ?_, ?_, ?_⟩⟩
    · rw [upd_ne h2, upd_same]
    · rw [upd_ne h2] at h1; exact h1
    · rw [upd_ne h2] at h1
      have e : upd (del (upd (upd (upd H1 (hp.objs.size + 1) (exo (hp.objs.size + 1) C none)) dx (exd dx [(f, v)])) (hp.objs.size + 1) (exo (hp.objs.size + 1) C (some dx))) (hp.objs.size + 1)) dx (.xd [(f, v)]) = upd H1 dx (.xd [(f, v)]) := by
        funext b
        by_cases z : b = dx
        · subst z; rw [upd_same, upd_same]
        · rw [upd_ne z, upd_ne z]
          by_cases z2 : b = hp.objs.size + 1
          · subst z2; rw [del_same, hn]
          · rw [del_ne z2, upd_ne z2, upd_ne z, upd_ne z2]
      rw [e]
      exact q1 _ dx hn h1 h2
  refine wpAny_call (PySem.HandSPX.call_own F.excBase_ValueError (fun Y => PySem.HandSPX.refsVE_contains Y bm hbm) (I1.kIn _ _ hC) (PySem.W.looks_findIn I1.kIn iC) (fun self => PySem.W.bind_fn I1.kIn self tI) hus
    (codeAny_mono (F1 _ X.stack _ _ (Value.ref (hp.objs.size + 1) :: us) [] _ [] _ (fun _ _ _ => False) (hr.make C us []) (I2.env0.make C us []) r2 .nil rfl hsp) fun r s' hq' => ?_))
  cases r with
  | error er => exact passAt tk0 σ pins _ _ er s' I2 hq'
  | ok fl =>
    cases fl with
    | ret u =>
      obtain ⟨v', H2, os2, bare2, un2, hok2, rv, ev, d, fs, ea, ed, hd1, q2⟩ := hq'
      subst ev
      obtain ⟨h2, g2, d2, t2, os'⟩ := s'
      exact ⟨rv, mk_end (raises_own O.exC O.tyC) I1 hsz kk un2 hok2 os2 bare2 ea ed hd1 q2⟩
    | next => exact False.elim hq'
    | brk => exact False.elim hq'
    | cont => exact False.elim hq'
theorem ms_raise1 (O : OexC X.K C) (iC : PySem.W.findIn X.K (.ref C) "__init__" = some (some (.ref fI))) (tI : PySem.W.typeIn X.K (.ref fI) = some (.type "function")) (hno : PySem.W.findIn X.K (.ref C) f = some none)
    (F1 : FnG X.prog X.w X.K X.mg X.base k fI [] (spX1 X.K f)) (hr : Rm (k + 1) X.A) (hcalm : X.calm = true) (tk0 : Takes X (fun _ _ _ _ => False)) (tk : Takes X W) (hc : T.xc c = some C) (hg : Gl X x) (hm : X.mg x = some (.ref C)) (he : ME X T W e m)
    (hdb : (x == ("__debug__" : Str)) = false := by decide) (hs : starEach [e] X.env = [(false, eval e X.env)] := by rfl) : MS X T W (.Raise (some (.Call (.Name x p) [e] [] pos)) none rpos) (raiseM c f m) := by
  refine ps_imp (ps_raise hcalm tk (pmk_X1 O iC tI hno F1 hr tk0 hg hm he hdb hs)) fun D σ H ⟨A, F, G, β, s, p⟩ => ?_
  refine ⟨A, F, G, β, s, p.bindE fun d β1 v G1 H1 e1 s1 r1 p1 a dx ha hd ne => ?_⟩
  have gd : G1 dx = none := fresh_back s1.gh hd
  exact p1 σ C dx [(f, v)] G1 _ hc (Ex.refl _) (s1.gh.trans (Ex.new hd)) (s1.fh.trans (Ex.new hd)) (s1.dj.grow s1.fh (Grow.side s1.gh (Evl.Ex.new hd))) upd_same ⟨v, [], rfl, r1, rfl⟩
end
end Fw
end

section
set_option Elab.async false
set_option linter.all false
set_option maxRecDepth 100000
set_option maxHeartbeats 4000000
set_option autoImplicit false
/-! # try: body / except x [as n]: suite / ... -/
namespace Fw
open PySem PySem.Spec L2 Evl PyProof.Rows
abbrev Hd := Value × Option Nat × (Addr → Value → Option Addr → TS)
/-- the ends of a suite: the name is gone behind it -/
def gone (D : Ends) : Option Nat → Ends
  | none => D
  | some i => { nx := fun σ' H' => D.nx (σ'.set i none) H', rt := D.rt, bk := fun σ' H' => D.bk (σ'.set i none) H', ct := fun σ' H' => D.ct (σ'.set i none) H' }
def named (σ : L2.St) (a : Addr) : Option Nat → L2.St
  | none => σ
  | some i => σ.set i (some (.ref a))
def wHd (K : PySem.W.Frag) (Wout : WX) (D : Ends) : List Hd → WX
  | [] => Wout
  | (c, n, ts) :: r => fun cls d σ H => ∃ b, PySem.W.exmOne K cls c = some b ∧ (b = true → ∀ a, H a = none → ts a cls d (gone D n) (named σ a n) H) ∧ (b = false → wHd K Wout D r cls d σ H)
/-- the name of a clause and its slot -/
def NmOk (X : Cx) : Option Str → Option Nat → Prop
  | none, none => True
  | some n, some i => X.N[i]? = some n ∧ X.env.kindOf n = some .local
  | _, _ => False
inductive HdsN (X : Cx) : List ExceptHandler → List Hd → Prop
  | nil : HdsN X [] []
  | cons {x : Str} {c : Value} {n : Option Str} {i : Option Nat} {ts : Addr → Value → Option Addr → TS} {b₀ : Stmt} {suite : List Stmt} {np pos' : Pos} {hds : List ExceptHandler} {l : List Hd} (hc : Names X x c) (hn : NmOk X n i)
      (hsu : ∀ (a : Addr) (oe : Obj) (cls : Value) (d : Option Addr) (pn : List (Addr × Obj)), Zc cls d oe → (∃ vs, oe.data = .fields vs) → PSs (X.suite a ((a, oe) :: pn)) (b₀ :: suite) (ts a cls d)) (r : HdsN X hds l) :
      HdsN X (.ExceptHandler (some (.Name x np)) n (b₀ :: suite) pos' :: hds) ((c, i, ts) :: l)
section
variable {X : Cx} {body : List Stmt} {h₀ : ExceptHandler} {hds : List ExceptHandler} {l : List Hd} {pos : Pos} {tb : WX → TS} {Wout : WX}
theorem ps_try_hd (hs : X.stack = X.env :: X.outer) (hf : X.env.frame = some X.env.locals) (hN : X.N.Nodup) (tk : Takes X Wout)
    (hb : ∀ (W : WX) (pn : List (Addr × Obj)) (xe : Value → Shared → Prop), Takes (X.tr pn xe) W → PassesOwn (model X.prog X.w) X.A X.env xe → PSs (X.tr pn xe) body (tb W))
    (hh : HdsN X (h₀ :: hds) l) : PS X (.Try body (h₀ :: hds) [] [] pos) (fun D σ H => tb (wHd X.K Wout D l) D σ H) := by
  refine ⟨fun pins s σ H D I h => ?_⟩
  have ok := I.ok
  have hfr : X.A.frames = some (X.env :: X.outer) := by rw [ok.frames, hs]
  refine wpAny_Try_except ?_
  refine wpAny_mono ((hb (wHd X.K Wout D l) (X.pn ++ pins) (fun e s₁ => wpAny (model X.prog X.w) X.A (noteFrame e X.env) (fun _ s₂ => wpAny (model X.prog X.w) X.A (setFlight e none) (fun _ s₃ =>
    wpAny (model X.prog X.w) X.A (handleBy e X.env (h₀ :: hds)) (SP X pins D) X.xe s₃) X.xe s₂) X.xe s₁) (fun u s' xx => ?_) PassesOwn.looking).run [] s σ H D (I.toTry _) h) (fun f s1 hsp => ?_) (fun e s1 he => he)
  · obtain ⟨a, B, sI, pins', σ', H', cls, d, rfl, J', nb, up, sky, na, os, ag, w⟩ := xx
    have J : Inv X pins σ' H' sI := J'.ofTry ok
    have sky' : Sky B (X.env :: X.outer) a (Zc cls d) X.env.locals s'.heap := by rw [← hs]; exact sky
    show wpAny (model X.prog X.w) X.A (noteFrame (.ref a) X.env) _ _ _
    refine Sky.land Zc.steady hfr hf sky' fun h3 fl3 up3 => ?_
    have J3 : Inv X pins σ' H' { s' with heap := h3 } := J.landed nb fl3.1 (up.trans up3) os ag
    obtain ⟨oe3, vs3, he3, hz3, hd3⟩ := fl3.there
    have notFr : ∀ {h : Heap} {o : Obj} {vs : Array Value}, h.FunFrames B (X.env :: X.outer) → h.get? a = some o → o.data = .fields vs → a ∉ frs (X.env :: X.outer) := fun {h o vs} ff e dd hm => by
      obtain ⟨_, o', e', hnf⟩ := ff.mem hm
      rw [e] at e'; cases e'
      exact hnf _ dd
    have nfr := notFr fl3.2.2.1 he3 hd3
    have nL : a ≠ X.env.locals := fun z => nfr (List.mem_filterMap.mpr ⟨X.env, List.mem_cons_self, by rw [hf, z]⟩)
    have nF : a ∉ X.fs := fun hm => by
      obtain ⟨e, he, q⟩ := List.mem_filterMap.mp hm
      exact nfr (List.mem_filterMap.mpr ⟨e, List.mem_cons_of_mem _ he, q⟩)
    have S3 := J3.suite he3 hd3 na nL nF
    have go : ∀ {hds' : List ExceptHandler} {l' : List Hd}, HdsN X hds' l' → wHd X.K Wout D l' cls d σ' H' →
        wpAny (model X.prog X.w) X.A (handleBy (.ref a) X.env hds') (SP X pins D) X.xe { s' with heap := h3 } := by
      intro hds' l' hk
      induction hk with
      | nil =>
        intro w
        refine wpAny_handleBy_nil ?_
        obtain ⟨k1, k2, k3, oe, vs, T, oT, ts', he, hz, hd, h1, hr⟩ := id fl3
        unfold PySem.passOn
        refine wpAny_bind (wpAny_field he hd h1 ?_)
        rw [if_neg (show ¬ ((Value.ref T == Value.none) = true) from by simp)]
        have fin : wpAny (model X.prog X.w) X.A (setFlight (.ref a) X.env.frame) (fun _ s4 => wpAny (model X.prog X.w) X.A (throw (.ref a) : Sem Flow) (SP X pins D) X.xe s4) X.xe { s' with heap := h3 } := by
          rw [hf]
          refine HandSPX.setFlight_upZ fl3 fun h4 hh4 up4 => wpAny_throw (tk _ _ ?_)
          exact ⟨a, B, sI, pins, σ', H', cls, d, rfl, J, nb, (up.trans up3).trans up4, .inr (.inr (by rw [hs]; exact hh4)), na, os, ag, w⟩
        first
          | exact wpAny_bind (wpAny_pure (wpAny_bind fin))
          | exact wpAny_bind fin
      | @cons x c n i ts b₀ suite np pos' hds2 l2 hc hnm hsu r ih =>
        intro w
        obtain ⟨b, hb1, hyes, hno⟩ := w
        refine wpAny_handleBy_cons (codeAny_handlers_test ?_) (by intro q; cases q)
        have LT : PySem.W.Looks (model X.prog X.w) h3 (typeOf (.ref a)) cls := fun A Q E s k q => wpAny_typeOf_ref (k _ _ he3) (by rw [hz3.1]; exact q)
        have LM := PySem.W.exm_one (M := model X.prog X.w) (J3.kIn) LT hb1
        have test : ∀ {Q : Value → Shared → Prop} {E : Value → Shared → Prop}, Q c { s' with heap := h3 } → wpAny (model X.prog X.w) (X.A.mark (some (.ref a))) (eval (.Name x np) X.env) Q E { s' with heap := h3 } := fun {Q E} q => by
          obtain ⟨hg, hdbg, hm | ⟨hm, hv, hnn⟩⟩ := hc
          · exact ld_glob (X := X.suite a ((a, oe3) :: (X.pn ++ pins))) S3 hg hm q hdbg
          · exact ld_blt (X := X.suite a ((a, oe3) :: (X.pn ++ pins))) S3 hg hm hv q hnn hdbg
        refine test (LM.here ?_)
        cases b with
        | true =>
          match n, i, hnm with
          | none, none, _ =>
            refine codeAny_handlers_suite ?_
            refine HandSPX.lands_againZ fl3 fun h4 fl4 up4 => ?_
            have J4 : Inv X pins σ' H' { s' with heap := h4 } := J.landed nb fl4.1 ((up.trans up3).trans up4) os ag
            obtain ⟨oe4, vs4, he4, hz4, hd4⟩ := fl4.there
            have S4 := J4.suite he4 hd4 na nL nF
            refine wpAny_mono ((hsu a oe4 cls d (X.pn ++ pins) hz4 ⟨_, hd4⟩).run [] _ _ H' _ S4 (hyes rfl a na)) (fun f s6 hsp => ?_) (fun _ _ z => False.elim z)
            cases f with
            | next =>
              obtain ⟨σ6, H6, S6, q6⟩ := hsp
              exact ⟨_, _, S6.unsuite ok, q6⟩
            | brk =>
              obtain ⟨σ6, H6, S6, q6⟩ := hsp
              exact ⟨_, _, S6.unsuite ok, q6⟩
            | cont =>
              obtain ⟨σ6, H6, S6, q6⟩ := hsp
              exact ⟨_, _, S6.unsuite ok, q6⟩
            | ret u =>
              obtain ⟨v6, σ6, H6, S6, r6, q6⟩ := hsp
              exact ⟨_, _, _, S6.unsuite ok, r6, q6⟩
          | some n, some i, hnm =>
            obtain ⟨hi, hln⟩ := hnm
            have hloc : Loc X.env.scope n := .inl hln
            refine codeAny_handlers_suite_as ?_
            refine HandSPX.lands_againZ fl3 fun h4 fl4 up4 => ?_
            have J4 : Inv X pins σ' H' { s' with heap := h4 } := J.landed nb fl4.1 ((up.trans up3).trans up4) os ag
            obtain ⟨oe4, vs4, he4, hz4, hd4⟩ := fl4.there
            have S4 := J4.suite he4 hd4 na nL nF
            refine store_ok (X := X.suite a ((a, oe4) :: (X.pn ++ pins))) (v := .ref a) S4 hN hi hloc rfl (fun s5 S5 => ?_) (.inr hln)
            refine wpAny_mono ((hsu a oe4 cls d (X.pn ++ pins) hz4 ⟨_, hd4⟩).run [] s5 _ H' _ S5 (hyes rfl a na)) (fun f s6 hsp => ?_) (fun _ _ z => False.elim z)
            have end_ : ∀ {σ6 : L2.St} {H6 : Hp} {Q : Shared → Prop}, Inv (X.suite a ((a, oe4) :: (X.pn ++ pins))) [] σ6 H6 s6 → (∀ s7, Inv X pins (σ6.set i none) H6 s7 → Q s7) →
                wpAny (model X.prog X.w) X.A (do bindName X.env n .none; unbindBehindTheSuite X.env n pos') (fun _ s7 => Q s7) X.xe s6 := fun {σ6 H6 Q} S6 hq => gone_ok (S6.unsuite ok) hN hi hln hq
            cases f with
            | next =>
              obtain ⟨σ6, H6, S6, q6⟩ := hsp
              exact end_ S6 fun s7 J7 => ⟨_, _, J7, q6⟩
            | brk =>
              obtain ⟨σ6, H6, S6, q6⟩ := hsp
              exact end_ S6 fun s7 J7 => ⟨_, _, J7, q6⟩
            | cont =>
              obtain ⟨σ6, H6, S6, q6⟩ := hsp
              exact end_ S6 fun s7 J7 => ⟨_, _, J7, q6⟩
            | ret u =>
              obtain ⟨v6, σ6, H6, S6, r6, q6⟩ := hsp
              exact end_ S6 fun s7 J7 => ⟨_, _, _, J7, r6, q6⟩
        | false =>
          show wpAny _ X.A (handleBy (.ref a) X.env hds2) _ _ _
          exact ih (hno rfl)
    exact go hh w
  · cases f with
    | next =>
      obtain ⟨σ', H', J', q⟩ := hsp
      exact wpAny_execs_nil ⟨σ', H', J'.ofTry ok, q⟩
    | brk =>
      obtain ⟨σ', H', J', q⟩ := hsp
      exact ⟨σ', H', J'.ofTry ok, q⟩
    | cont =>
      obtain ⟨σ', H', J', q⟩ := hsp
      exact ⟨σ', H', J'.ofTry ok, q⟩
    | ret u =>
      obtain ⟨v, σ', H', J', r, q⟩ := hsp
      exact ⟨v, σ', H', J'.ofTry ok, r, q⟩
end
end Fw
end

section
set_option Elab.async false
set_option linter.all false
set_option maxRecDepth 100000
set_option maxHeartbeats 4000000
set_option autoImplicit false
/-! # except suites that return, by the exception's class and fields -/
namespace Fw
open PySem PySem.Spec L2 Evl
abbrev XH := Str → List (Str × D) → Res D
/-- facts of the exception classes: xf their fields -/
structure XcOk (T : Tx) (xf : Str → List Str) : Prop where
  ec : ∀ c C, T.xc c = some C → ExcC T.K C
  na : ∀ c C f, T.xc c = some C → f ∈ xf c → PySem.W.findIn T.K (.ref C) f = some none
theorem excC_xf {K : PySem.W.Frag} {C : Addr} (h : ExcC K C) : XfC K C := ⟨h.hg, h.hk, h.hs, h.hd⟩
/-- in a suite: a the exception, held in slot i -/
def tXs (T : Tx) (i : Option Nat) (a : Addr) (cls : Value) (d : Option Addr) (h : XH) : TE := fun σ H Q => ∃ c C dd fs G ys, cls = .ref C ∧ d = some dd ∧ T.xc c = some C ∧ Gh T G H ∧ (∀ j, i = some j → j < σ.length → σ[j]? = some (some (.ref a))) ∧
  H dd = some (.xd ys) ∧ RepF T G fs ys ∧ PostP T G H (h c fs) Q
/-- .. a list of expressions -/
def tXa (T : Tx) (i : Option Nat) (a : Addr) (cls : Value) (d : Option Addr) (h : Str → List (Str × D) → Res (List D)) : TA := fun σ H Q => ∃ c C dd fs G ys, cls = .ref C ∧ d = some dd ∧ T.xc c = some C ∧ Gh T G H ∧ (∀ j, i = some j → j < σ.length → σ[j]? = some (some (.ref a))) ∧
  H dd = some (.xd ys) ∧ RepF T G fs ys ∧ match h c fs with
    | .ok ds => ∀ vs G' H', Grow T G H G' H' → RepL T G' ds vs → Q vs H'
    | _ => False
structure Su (X : Cx) where
  a : Addr
  oe : Obj
  cls : Value
  d : Option Addr
  pn : List (Addr × Obj)
  hz : Zc cls d oe
  hf : ∃ vs, oe.data = .fields vs
abbrev Su.X {X : Cx} (u : Su X) : Cx := X.suite u.a ((u.a, u.oe) :: u.pn)
abbrev SE {X : Cx} (u : Su X) (T : Tx) (i : Option Nat) (e : Expr) (h : XH) : Prop := PE u.X e (tXs T i u.a u.cls u.d h)
abbrev SA {X : Cx} (u : Su X) (T : Tx) (i : Option Nat) (es : List Expr) (h : Str → List (Str × D) → Res (List D)) : Prop := PA u.X es (tXa T i u.a u.cls u.d h)
section
variable {X : Cx} {u : Su X} {T : Tx} {i : Option Nat} {e : Expr} {es : List Expr} {h h1 h2 : XH} {hs : Str → List (Str × D) → Res (List D)} {pos : Pos} {xf : Str → List Str}
theorem se_const {v : V} {d : D} (he : PE u.X e (tC v)) (r : ∀ G, Rep T G d v) : SE u T i e (fun _ _ => .ok d) :=
  pe_imp he fun σ H Q ⟨c, C, dd, fs, G, ys, e1, e2, e3, eg, sl, hd, rf, p⟩ => p v G H (Grow.refl eg.gh) (r G)
theorem se_me {m : MM D} (he : ME u.X T (fun _ _ _ _ => False) e m) : SE u T i e (fun _ _ => match m [] with | .ok (d, _) => .ok d | _ => .bad) := by
  refine pe_imp he fun σ H Q ⟨c, C, dd, fs, G, ys, e1, e2, e3, eg, sl, hd, rf, p⟩ => ?_
  refine ⟨fun _ => none, off G H, G, [], ⟨off_sub, eg.gh, ⟨off_dj, fun h => h⟩, Nat.zero_le _, fun i b hb => (by simp at hb), fun i j b c p hb => (by simp at hb), fun i b hb => (by simp at hb), eg.tb⟩, ?_⟩
  cases hm : m [] with
  | ok q =>
    obtain ⟨d, β⟩ := q
    dsimp only at p
    rw [hm] at p
    exact fun v G' H' e s rv => p v G' H' (off_grow eg.gh e s.gh s.fh s.dj) rv
  | exc c fs => dsimp only at p; rw [hm] at p; exact p.elim
  | bad => dsimp only at p; rw [hm] at p; exact p.elim
theorem PostP.ok_of {G H : Hp} {r : Res D} {Q : VK} (h : PostP T G H r Q) : ∃ d, r = .ok d := by
  cases r with
  | ok d => exact ⟨d, rfl⟩
  | exc _ _ => exact h.elim
  | bad => exact h.elim
/-- e.f -/
def xfldH (xf : Str → List Str) (f : Str) : XH := fun c fs => if f ∈ xf c then match fs.lookup f with | some d => .ok d | none => .bad else .bad
theorem se_fld {j : Nat} {n f : Str} {np : Pos} (hK : X.K = T.K) (XO : XcOk T xf) (hi : i = some j) (hN : X.N[j]? = some n) (hv : Vis X.env.scope n) (hd : (n == ("__debug__" : Str)) = false := by decide) (hcd : (n == ("__classdict__" : Str)) = false := by decide)
    (hb : attributeBase (.Name n np) f X.env (eval (.Name n np) X.env) = eval (.Name n np) X.env := by rfl) : SE u T i (.Attribute (.Name n np) f pos) (xfldH xf f) := by
  refine ⟨fun pins s σ H Q I ⟨c, C, dd, fs, G, ys, e1, e2, e3, eg, sl, hdd, rf, p⟩ => ?_⟩
  unfold xfldH at p
  split at p
  · rename_i hf
    cases hl : fs.lookup f with
    | none => rw [hl] at p; exact p.elim
    | some d0 =>
      rw [hl] at p
      obtain ⟨v, hv', rv⟩ := rf.look hl
      have lj : j < σ.length := by rw [I.len]; exact (List.getElem?_eq_some_iff.mp hN).1
      have hx : XfC X.K C := by rw [hK]; exact excC_xf (XO.ec c C e3)
      have hno : PySem.W.findIn X.K (.ref C) f = some none := by rw [hK]; exact XO.na c C f e3 hf
      have hz := u.hz
      rw [e1, e2] at hz
      refine (pe_xf (X := X) (a := u.a) (oe := u.oe) (pn := u.pn) hx hno hz u.hf (pe_var (X := u.X) (i := j) hN hv hd hcd) hb).run pins s σ H Q I ?_
      exact ⟨_, sl j hi lj, rfl, rfl, dd, ys, v, rfl, hdd, hv', p v G H (Grow.refl eg.gh) rv⟩
  · exact p.elim
/-- isinstance(e, x) -/
theorem se_isi {j : Nat} {n x : Str} {np p2 p3 : Pos} {cv : Value} {vv : V} {isx : Str → Bool} (hK : X.K = T.K) (XO : XcOk T xf) (hi : i = some j) (hN : X.N[j]? = some n) (hv : Vis X.env.scope n) (hcv : ∀ w, RelV vv w → w = cv) (hx : PE u.X (.Name x p2) (tC vv)) (hk : ∀ c C, T.xc c = some C → PySem.W.kitOne T.K (.ref C) cv = some (isx c))
    (hg : Gl X "isinstance") (hm : X.mg "isinstance" = none) (hd : (n == ("__debug__" : Str)) = false := by decide) (hcd : (n == ("__classdict__" : Str)) = false := by decide)
    (hs : starEach [.Name n np, .Name x p2] X.env = [(false, eval (.Name n np) X.env), (false, eval (.Name x p2) X.env)] := by rfl) : SE u T i (.Call (.Name "isinstance" p3) [.Name n np, .Name x p2] [] pos) (fun c _ => .ok (.bl (isx c))) := by
  refine ⟨fun pins s σ H Q I ⟨c, C, dd, fs, G, ys, e1, e2, e3, eg, sl, hdd, rf, p⟩ => ?_⟩
  have lj : j < σ.length := by rw [I.len]; exact (List.getElem?_eq_some_iff.mp hN).1
  have cr : CallR u.X (.builtin "isinstance") (fun xs H Q => (∃ ys, H dd = some (.xd ys)) ∧ rIsE X.K C u.a xs H Q) := by
    intro pins s σ H xs us Q I r h
    obtain ⟨⟨ys', hdd'⟩, c', cv', b, rfl, hcv', e, q⟩ := h
    cases r with
    | cons rx rr =>
      cases rr with
      | cons rt rr =>
        cases rr
        cases rx
        have ec := hcv' _ rt
        subst ec
        obtain ⟨hget, _⟩ := I.pin (u.a, u.oe) (List.mem_append.mpr (.inl List.mem_cons_self))
        obtain ⟨vs, hvd⟩ := u.hf
        have EC : ExcC X.K C := by rw [hK]; exact XO.ec c C e3
        obtain ⟨cd, hcd', _⟩ := PySem.W.any_some EC.hd
        have J : ∃ od, PySem.W.InstAt s.heap u.a u.oe C od := by
          have hz := u.hz
          rw [e1] at hz
          have hx : ObjOk u.X.prog u.X.w H s.heap dd (.xd ys') := I.hok dd _ hdd'
          obtain ⟨mA, hns, hr⟩ := hx
          obtain ⟨od, ho, hl⟩ := lookIn_ns hns
          exact ⟨some od, hget, hz.1, by unfold PySem.W.notCls; rw [hvd] <;> rfl, by rw [hz.2, e2]; exact ho⟩
        obtain ⟨od, J⟩ := J
        exact PySem.W.kia_one (PySem.W.kitx_exc (by rw [hcd']; rfl) EC.hg EC.hk EC.hs EC.ha EC.hn EC.ht EC.hm) I.kIn J e (fun z => nomatch z) fun tk => ⟨.bl b, H, I.kept (t' := tk) fun _ _ z => z, rfl, q⟩
  refine (pe_callB cr (X := u.X) hg hm (by decide +kernel) (pa_cons (pe_var (X := u.X) (i := j) hN hv hd hcd) (pa_cons hx pa_nil (by rfl)) hs) (he := hs) (hpl := rfl)).run pins s σ H Q I ?_
  refine ⟨_, sl j hi lj, ?_⟩
  refine ⟨⟨ys, hdd⟩, vv, cv, isx c, rfl, hcv, by rw [hK]; exact hk c C e3, p _ G H (Grow.refl eg.gh) rfl⟩
theorem PostP.mono {G H G' H' : Hp} {r : Res D} {Q : VK} (g : Grow T G H G' H') (h : PostP T G H r Q) : PostP T G' H' r Q := by
  match r, h with
  | .ok d, h => exact fun v G2 H2 g2 => h v G2 H2 (g.trans g2)
/-- a and b, truth values -/
def andH (h1 h2 : XH) : XH := fun c fs => match h1 c fs with
  | .ok (.bl true) => h2 c fs
  | .ok (.bl false) => .ok (.bl false)
  | _ => .bad
theorem se_one {op : BoolOp} (ha : SE u T i e h) : SE u T i (.BoolOp op [e] pos) h := pe_one ha
theorem se_and {b : Expr} {rest : List Expr} (ha : SE u T i e h1) (hb : SE u T i (.BoolOp .And (b :: rest) pos) h2) : SE u T i (.BoolOp .And (e :: b :: rest) pos) (andH h1 h2) := by
  refine pe_imp (pe_and ha hb) fun σ H Q ⟨c, C, dd, fs, G, ys, e1, e2, e3, eg, sl, hdd, rf, p⟩ => ?_
  refine ⟨c, C, dd, fs, G, ys, e1, e2, e3, eg, sl, hdd, rf, ?_⟩
  unfold andH at p
  cases hh : h1 c fs with
  | ok d0 =>
    rw [hh] at p
    intro v G1 H1 g1 r1
    cases d0 with
    | bl k =>
      refine ⟨k, r1, ?_⟩
      cases k with
      | true => exact iteT ⟨c, C, dd, fs, G1, ys, e1, e2, e3, eg.grow g1, sl, g1.hh _ _ hdd, rf.mono g1.gg, p.mono g1⟩
      | false => exact iteF (p _ G1 H1 g1 rfl)
    | _ => exact p.elim
  | exc _ _ => rw [hh] at p; exact p.elim
  | bad => rw [hh] at p; exact p.elim
theorem sa_nil : SA u T i [] (fun _ _ => .ok []) :=
  pa_imp pa_nil fun σ H Q ⟨c, C, dd, fs, G, ys, e1, e2, e3, eg, sl, hdd, rf, p⟩ => p [] G H (Grow.refl eg.gh) rfl
def consH (h1 : XH) (h2 : Str → List (Str × D) → Res (List D)) : Str → List (Str × D) → Res (List D) := fun c fs => match h1 c fs, h2 c fs with
  | .ok d, .ok ds => .ok (d :: ds)
  | _, _ => .bad
theorem sa_cons (ha : SE u T i e h1) (hb : SA u T i es hs) (hst : starEach (e :: es) u.X.env = (false, eval e u.X.env) :: starEach es u.X.env := by rfl) : SA u T i (e :: es) (consH h1 hs) := by
  refine pa_imp (pa_cons ha hb hst) fun σ H Q ⟨c, C, dd, fs, G, ys, e1, e2, e3, eg, sl, hdd, rf, p⟩ => ?_
  refine ⟨c, C, dd, fs, G, ys, e1, e2, e3, eg, sl, hdd, rf, ?_⟩
  unfold consH at p
  cases hh : h1 c fs with
  | ok d0 =>
    cases hk : hs c fs with
    | ok ds =>
      rw [hh, hk] at p
      intro v G1 H1 g1 r1
      refine ⟨c, C, dd, fs, G1, ys, e1, e2, e3, eg.grow g1, sl, g1.hh _ _ hdd, rf.mono g1.gg, ?_⟩
      rw [hk]
      exact fun vs G2 H2 g2 r2 => p _ G2 H2 (g1.trans g2) ⟨v, vs, rfl, r1.mono g2.gg, r2⟩
    | exc _ _ => rw [hh, hk] at p; exact p.elim
    | bad => rw [hh, hk] at p; exact p.elim
  | exc _ _ => rw [hh] at p; exact p.elim
  | bad => rw [hh] at p; exact p.elim
def lstH (hs : Str → List (Str × D) → Res (List D)) : XH := fun c fs => match hs c fs with
  | .ok ds => lstF ds
  | _ => .bad
def tupH (hs : Str → List (Str × D) → Res (List D)) : XH := fun c fs => match hs c fs with
  | .ok ds => tupF ds
  | _ => .bad
theorem se_lst (ha : SA u T i es hs) : SE u T i (.List es pos) (lstH hs) := by
  refine pe_imp (pe_lst ha) fun σ H Q ⟨c, C, dd, fs, G, ys, e1, e2, e3, eg, sl, hdd, rf, p⟩ => ?_
  refine ⟨c, C, dd, fs, G, ys, e1, e2, e3, eg, sl, hdd, rf, ?_⟩
  unfold lstH at p
  cases hk : hs c fs with
  | ok ds =>
    rw [hk] at p
    obtain ⟨z, q⟩ := sz_get p
    exact fun vs G1 H1 g1 r1 => ⟨by rw [r1.length]; exact sz_ok z, fun l hl => (q.mono g1).lst g1.gh r1 hl⟩
  | exc _ _ => rw [hk] at p; exact p.elim
  | bad => rw [hk] at p; exact p.elim
theorem se_tup {x1 : Nat} (ha : SA u T i es hs) : SE u T i (.Tuple es x1 pos) (tupH hs) := by
  refine pe_imp (pe_tupP ha) fun σ H Q ⟨c, C, dd, fs, G, ys, e1, e2, e3, eg, sl, hdd, rf, p⟩ => ?_
  refine ⟨c, C, dd, fs, G, ys, e1, e2, e3, eg, sl, hdd, rf, ?_⟩
  unfold tupH at p
  cases hk : hs c fs with
  | ok ds =>
    rw [hk] at p
    obtain ⟨z, q⟩ := sz_get p
    exact fun vs G1 H1 g1 r1 => ⟨by rw [r1.length]; exact sz_ok z, fun l o hl ho => (q.mono g1).tup ho g1.gh r1 hl⟩
  | exc _ _ => rw [hk] at p; exact p.elim
  | bad => rw [hk] at p; exact p.elim
end
/-- a suite that returns -/
def tXr (T : Tx) (i : Option Nat) (a : Addr) (cls : Value) (d : Option Addr) (h : XH) : TS := fun D σ H => tXs T i a cls d h σ H D.rt
theorem ss_ret {X : Cx} {u : Su X} {T : Tx} {i : Option Nat} {e : Expr} {h : XH} {pos : Pos} (he : SE u T i e h) : PSs u.X [.Return (some e) pos] (tXr T i u.a u.cls u.d h) :=
  pss_imp (pss_one (ps_ret he)) fun D σ H q => q
/-! ### the whole statement -/
def handle : List ((Str → Bool) × XH) → Str → List (Str × D) → Res (Fl × En)
  | [], c, fs => .exc c fs
  | (p, h) :: r, c, fs => if p c = true then match h c fs with
    | .ok d => .ok (.rt d, [])
    | _ => .bad else handle r c fs
def tryM (mb : MM Fl) (hs : List ((Str → Bool) × XH)) : MM Fl := fun β => match mb β with
  | .ok r => .ok r
  | .exc c fs => handle hs c fs
  | .bad => .bad
inductive HT (X : Cx) (T : Tx) : List ExceptHandler → List ((Str → Bool) × XH) → Prop
  | nil : HT X T [] []
  | cons {x : Str} {cv : Value} {n : Option Str} {i : Option Nat} {p : Str → Bool} {h : XH} {b₀ : Stmt} {suite : List Stmt} {np pos' : Pos} {hds : List ExceptHandler} {l : List ((Str → Bool) × XH)} (hc : Names X x cv) (hn : NmOk X n i)
      (hp : ∀ c C, T.xc c = some C → PySem.W.exmOne X.K (.ref C) cv = some (p c)) (hsu : ∀ u : Su X, PSs u.X (b₀ :: suite) (tXr T i u.a u.cls u.d h)) (r : HT X T hds l) :
      HT X T (.ExceptHandler (some (.Name x np)) n (b₀ :: suite) pos' :: hds) ((p, h) :: l)
theorem ms_try {X : Cx} {T : Tx} {W : WishX} {body : List Stmt} {h₀ : ExceptHandler} {hds : List ExceptHandler} {l : List ((Str → Bool) × XH)} {pos : Pos} {mb : MM Fl} (hs : X.stack = X.env :: X.outer) (hf : X.env.frame = some X.env.locals) (hN : X.N.Nodup) (tk : Takes X W)
    (hb : ∀ (W' : WishX) (pn : List (Addr × Obj)) (xe : Value → Shared → Prop), Takes (X.tr pn xe) W' → PassesOwn (model X.prog X.w) X.A X.env xe → MSs (X.tr pn xe) T W' body mb) (hh : HT X T (h₀ :: hds) l) :
    MS X T W (.Try body (h₀ :: hds) [] [] pos) (tryM mb l) := by
  have key : ∀ {hd : List ExceptHandler} {l : List ((Str → Bool) × XH)}, HT X T hd l → ∃ L : List Hd, HdsN X hd L ∧ ∀ (E : Ends) (A : Nat → Option Addr) (F G : Hp) (c : Str) (fs : List (Str × D)), LamX.Tabs T.tabs F → PostS T A W F G (handle l c fs) E → ∀ σ', PostX T (wHd X.K W E L) F G σ' c fs := by
    intro hd l k
    induction k with
    | nil => exact ⟨[], .nil, fun E A F G c fs _ h => h⟩
    | @cons x cv n i p h b₀ suite np pos' hds' l' hc hn hp hsu r ih =>
      obtain ⟨L, hL, kL⟩ := ih
      refine ⟨(cv, i, fun a cls d => tXr T i a cls d h) :: L, .cons hc hn (fun a oe cls d pn hz hf => hsu ⟨a, oe, cls, d, pn, hz, hf⟩) hL, fun E A F G c fs tF q σ' C dx ys G' H' hC e gh fh dj hx rf => ?_⟩
      unfold handle at q
      refine ⟨p c, hp c C hC, fun hb a na => ?_, fun hb => ?_⟩
      · rw [hb, if_pos rfl] at q
        have slot : ∀ j, i = some j → j < (named σ' a i).length → (named σ' a i)[j]? = some (some (.ref a)) := by
          intro j hj hl
          subst hj
          unfold named at hl ⊢
          exact List.getElem?_set_self (by simpa using hl)
        have hrt : (gone E i).rt = E.rt := by cases i <;> rfl
        show tXs T i a (.ref C) (some dx) h (named σ' a i) H' (gone E i).rt
        rw [hrt]
        refine ⟨c, C, dx, fs, G', ys, rfl, rfl, hC, ⟨gh, dj.tb tF⟩, slot, hx, rf, ?_⟩
        cases hh : h c fs with
        | ok d =>
          rw [hh] at q
          intro v G2 H2 g2 r2
          exact q v [] G2 H2 (e.trans g2.gg) ⟨fh.trans g2.hh, g2.gh, dj.grow fh g2, Nat.zero_le _, fun i b hb => (by simp at hb), fun i j b c p hb => (by simp at hb), fun i b hb => (by simp at hb), tF⟩ r2
        | exc _ _ => rw [hh] at q; exact q.elim
        | bad => rw [hh] at q; exact q.elim
      · rw [hb, if_neg Bool.false_ne_true] at q
        exact kL E A F G c fs tF q σ' C dx ys G' H' hC e gh fh dj hx rf
  obtain ⟨L, hL, kL⟩ := key hh
  refine ps_imp (ps_try_hd hs hf hN tk hb hL) fun E σ H ⟨A, F, G, β, s, p⟩ => ⟨A, F, G, β, s, ?_⟩
  unfold tryM at p
  cases hm : mb β with
  | ok r =>
    rw [hm] at p
    obtain ⟨fl, β'⟩ := r
    cases fl <;> exact p
  | exc c fs =>
    rw [hm] at p
    exact kL E A F G c fs s.tb p
  | bad => rw [hm] at p; exact p
end Fw
end

section
set_option Elab.async false
set_option linter.all false
set_option maxRecDepth 100000
set_option maxHeartbeats 4000000
set_option autoImplicit false
/-! # enumerate of a tuple -/
namespace Fw
open PySem PySem.Spec L2 Evl PyProof.Rows
open AutoSeq1 (wpAny_loadPart')
theorem draws_tuple {prog : Program} {w : World} {A : Around} (hh : A.handled = none) (it t : Addr) (hne : t ≠ it) (items : Array Value) :
    Draws prog w A it [it, t] items.size (fun i v => items[i]? = some v) (fun i h => IsTupIter h it t i ∧ IsTup h t items) where
  live := fun _ _ st => let ⟨o, ho, _⟩ := st.1; ⟨o, ho⟩
  frame := fun _ _ _ st hk => ⟨let ⟨o, ho, r⟩ := st.1; ⟨o, hk it (by simp) o ho, r⟩, let ⟨o, ho, r⟩ := st.2; ⟨o, hk t (by simp) o ho, r⟩⟩
  item := fun i s Q E hi st hQ => by
    unfold Builtin.SmallTypes.nextOf
    refine wpAny_bind (special_tup_item st.1 st.2 (x := items[i]) (by simp [hi]) fun h' hit' hs' => wpAny_pure ?_)
    exact hQ _ h' s.toks (by simp [hi]) ⟨hit', let ⟨o, ho, r⟩ := st.2; ⟨o, (hs'.2 t hne).trans ho, r⟩⟩ hs'
  done := fun s Q E st hE => by
    unfold Builtin.SmallTypes.nextOf
    refine wpAny_bind (special_tup_end hh st.1 st.2 (by simp) fun e h' hx eb => ?_)
    obtain ⟨a, o, vs, rfl, ho, hc, _⟩ := hx
    exact hE h' a eb ⟨o, ho, hc⟩
theorem meets_enumerate_newT (l : Addr) (items : Array Value) (n : Nat) (dct : Option Addr) (sl : Array (Option Value)) :
    Meets (Builtin.«enumerate.__new__» ⟨[.type "enumerate", .ref l], []⟩) (fun _ R s => s.heap.get? l = some { cls := .type "tuple", dict := dct, data := .seq items n, slots := sl } ∧
      R (.ok (.ret (.ref (s.heap.push { cls := .type "tuple_iterator", data := .fields #[.ref l, .int 0 0] }).objs.size)))
        { s with heap := (s.heap.push { cls := .type "tuple_iterator", data := .fields #[.ref l, .int 0 0] }).push { cls := .type "enumerate", data := .fields #[.none, .bool false, .ref s.heap.objs.size, rawInt 0, .none, .none] } }) :=
  .of_wp fun prog w A R s h => by
    obtain ⟨hp, g, d, tk, os⟩ := s; obtain ⟨hl, h⟩ := h
    have hsub := sub_enumerate
    have hL : Heap.IsTuple (Shared.heap ⟨hp, g, d, tk, os⟩) l items := ⟨_, hl, rfl, n, rfl⟩
    wp_walk using wpAny_loadPart' hl
    refine wpAny_stack_any fun st => wpAny_pure ?_
    split
    · rename_i c _ _ _ _ _
      cases (c == Value.type "enumerate")
      · wp_walk using wpAny_loadPart' hl, wpAny_pyIter_tuple hL
        exact ⟨_, rfl, h⟩
      · wp_walk using wpAny_loadPart' hl, wpAny_pyIter_tuple hL
        exact ⟨_, rfl, h⟩
    · wp_walk using wpAny_loadPart' hl, wpAny_pyIter_tuple hL
      exact ⟨_, rfl, h⟩
theorem call_enumerate_tup {prog : Program} {w : World} {A : Around} {E : Value → Shared → Prop} {s : Shared} {l : Addr} {items : Array Value} {Q : Value → Shared → Prop} (hL : IsTup s.heap l items)
    (h : ∀ h', IsEnum h' (s.heap.objs.size + 1) s.heap.objs.size 0 .none → IsTupIter h' s.heap.objs.size l 0 → h'.objs.size = s.heap.objs.size + 2 →
      (∀ b o, s.heap.get? b = some o → h'.get? b = some o) → Q (.ref (s.heap.objs.size + 1)) { s with heap := h' }) :
    wpAny (model prog w) A (call (.type "enumerate") [.ref l]) Q E s := by
  obtain ⟨⟨c, dct, dt, sl⟩, hl, hc, n, hd⟩ := hL
  replace hc : c = .type "tuple" := hc
  replace hd : dt = .seq items n := hd
  subst hc hd
  refine callType_new F.called_enumerate (by decide) (F.typeCall_enumerate_1 _) (F.newCall_enumerate_1 _) (fun obj => F.args_object_init_2 obj _) F.entry_enumerate_new
    (meets_enumerate_newT l items n dct sl) ⟨hl, ?_⟩
  have hz : (s.heap.push { cls := .type "tuple_iterator", data := .fields #[.ref l, .int 0 0] }).objs.size = s.heap.objs.size + 1 := Heap.size_push ..
  show _ ∧ _
  rw [hz]
  have he : IsEnum ((s.heap.push { cls := .type "tuple_iterator", data := .fields #[.ref l, .int 0 0] }).push
      { cls := .type "enumerate", data := .fields #[.none, .bool false, .ref s.heap.objs.size, rawInt 0, .none, .none] }) (s.heap.objs.size + 1) s.heap.objs.size 0 .none := by
    have := Heap.get?_push_size (s.heap.push { cls := .type "tuple_iterator", data := .fields #[.ref l, .int 0 0] })
      (o := { cls := .type "enumerate", data := .fields #[.none, .bool false, .ref s.heap.objs.size, rawInt 0, .none, .none] }) rfl
    rw [hz] at this; exact this
  refine ⟨⟨_, he, rfl⟩, h _ he ⟨_, Heap.get?_push_of_some _ (Heap.get?_push_size _ rfl), rfl, rfl⟩ (by rw [Heap.size_push, hz]) fun b o x => Heap.get?_push_of_some _ (Heap.get?_push_of_some _ x)⟩
/-- the tuple at a, each item in a new pair -/
def IteT (K : PySem.W.Frag) (a : Addr) : It :=
  ⟨fun i H => ∃ (xs : List V) (x : V), SqT K H a xs ∧ xs[i]? = some x, fun i H v H' => ∃ T x, v = .ref T ∧ H T = none ∧ (∃ o : Obj, o.dict = none ∧ H' = upd H T (.frz o (.tup [.int (i : Nat), x]))) ∧ ∀ xs, SqT K H a xs → xs[i]? = some x, fun i H => ∃ xs : List V, SqT K H a xs ∧ xs.length ≤ i⟩
theorem turn_enumT {P : Program} {w : World} {K : PySem.W.Frag} {elts : List Expr} {kk : Nat} {tpos : Pos} (a e it : Addr) (hai : a ≠ it) (hae : a ≠ e) :
    Turn P w K (.Tuple elts kk tpos) (IteT K a) [e, it] e (fun i h => (∃ old, IsEnum h e it ((i : Nat) : Int) old) ∧ IsTupIter h it a i ∧ e ≠ it) where
  mem := by simp
  obj := fun i h st b hb => by
    obtain ⟨⟨old, he⟩, ⟨o, ho, hc, hd⟩, _⟩ := st
    have e' : b = e ∨ b = it := by simpa using hb
    rcases e' with z | z
    · rw [z]; exact ⟨_, he, fun v q => nomatch q⟩
    · rw [z]; exact ⟨o, ho, fun v q => by rw [hd] at q; cases q⟩
  keep := fun i h h' st k => let ⟨⟨old, he⟩, ⟨o, ho, r⟩, hne⟩ := st; ⟨⟨old, k e (by simp) _ he⟩, ⟨o, k it (by simp) o ho, r⟩, hne⟩
  item := by
    intro X hP hw hK hc i pins s σ H E I hf st hg
    subst hP hw hK
    obtain ⟨⟨old, he⟩, hit, hne⟩ := st
    obtain ⟨xs, x, hq, hx⟩ := hg
    obtain ⟨its, rv, p, hz⟩ := I.tuple hq
    obtain ⟨u, hu, ru⟩ := rv.get hx
    have hel : e < s.heap.objs.size := Heap.lt_size he
    have hil : it < s.heap.objs.size := by obtain ⟨_, q, _⟩ := hit; exact Heap.lt_size q
    have hil2 : i < its.toArray.size := by simpa using (List.getElem?_eq_some_iff.mp hu).1
    have hh : X.A.in1.handled = none := I.ok.hd hc
    refine wpAny_pyNext_enum_itemD (draws_tuple hh it a hai its.toArray) he ⟨hit, p⟩ hil2 hne (by simp [hne, Ne.symm hae]) fun y h' tk hy ho hst hT hsz hk => ?_
    have ey : y = u := by
      have h1 : its.toArray[i]? = some u := by simpa using hu
      rw [h1] at hy
      exact (Option.some.inj hy).symm
    subst ey
    refine ⟨_, rfl, wpAny_letOwnedTupleGo_enum (s := { s with heap := h', toks := tk + 1 }) ho fun h'' he' sb => ?_⟩
    have hT2 : h''.get? s.heap.objs.size = some { cls := .type "tuple", data := .seq #[.int i tk, y] } := (sb.2 _ (Nat.ne_of_gt hel)).trans hT
    have new : ObjOk X.prog X.w (upd H s.heap.objs.size (.frz ({ cls := .type "tuple", data := .seq #[.int i tk, y] } : Obj) (.tup [.int (i : Nat), x]))) h'' s.heap.objs.size (.frz ({ cls := .type "tuple", data := .seq #[.int i tk, y] } : Obj) (.tup [.int (i : Nat), x])) :=
      ⟨hT2, by show 2 ≤ sizeLine; decide, [.int i tk, y], .cons ⟨_, rfl⟩ (.cons ru .nil), ⟨_, hT2, rfl, _, rfl⟩⟩
    have I1 : Inv X pins σ (upd H s.heap.objs.size (.frz ({ cls := .type "tuple", data := .seq #[.int i tk, y] } : Obj) (.tup [.int (i : Nat), x]))) { s with heap := h'', toks := tk + 1 } :=
      I.turnedNew (ch := [e, it]) (fun b ob hb q => (sb.2 b (fun z => hb (by simp [z]))).trans (hk b ob (fun z => hb (by simp [z])) (fun z => hb (by simp [z])) q)) hf (Nat.le_refl _) new
    obtain ⟨oi, hoi, ri⟩ := hst.1
    refine ⟨.ref s.heap.objs.size, _, I1, rfl, ⟨_, x, rfl, I.hok.fresh (Nat.le_refl _), ⟨_, rfl, rfl⟩, fun ys hy => by rw [I.tuple_inj hy hq]; exact hx⟩, ⟨⟨y, ?_⟩, ⟨oi, (sb.2 it (Ne.symm hne)).trans hoi, ri⟩, hne⟩, fun b hb => ?_⟩
    · have e1 : ((i + 1 : Nat) : Int) = (i : Int) + 1 := by omega
      rw [e1]; exact he'
    · have hb' : b < s.heap.objs.size := by
        have e' : b = e ∨ b = it := by simpa using hb
        rcases e' with z | z
        · rw [z]; exact hel
        · rw [z]; exact hil
      rw [upd_ne (Nat.ne_of_lt hb')]
      exact (hf b hb).1
  done := by
    intro X hP hw hK hc i pins s σ H E I hf st hg
    subst hP hw hK
    obtain ⟨⟨old, he⟩, hit, hne⟩ := st
    obtain ⟨xs, hq, hx⟩ := hg
    obtain ⟨its, rv, p, hz⟩ := I.tuple hq
    obtain ⟨f0, f1, f2, f3, f4, f5⟩ := hf it (by simp)
    have hl := rv.length
    have hh : X.A.in1.handled = none := I.ok.hd hc
    have hT : s.TypeIs (.ref e) "enumerate" := ⟨_, he, rfl⟩
    unfold pyNext
    refine wpAny_bind (wpAny_attempt (wpAny_callSpecial?_slot (name := Str.ofString "__next__") hT F.slot_enumerate_next
      (wpAny_call_entry F.slot_enumerate_next hT F.entry_enumerate_next ?_ (F.args_enumerate_next_1 _))))
    show wpAny _ _ (field (.ref e) 2 >>= _) _ _ _
    refine wpAny_bind (wpAny_field he rfl (x := .ref it) rfl ?_)
    refine wpAny_bind ?_
    unfold Builtin.SmallTypes.nextOf
    refine wpAny_bind (special_tup_end hh hit p (by simp; omega) fun e' h' hx eb => ?_)
    obtain ⟨x, o, vs, rfl, ho, hc', _⟩ := hx
    refine wpAny_bind (wpAny_isInstance (T := "StopIteration") (b := true) ⟨o, ho, hc'⟩ isSubtype_stop ?_)
    exact wpAny_pure ⟨rfl, I.turned (t' := s.toks) (fun b o hb q => eb b o hb q) f0 f1 f3 f4 f5⟩
  self := fun A i s Q E st h => let ⟨⟨_, he⟩, _⟩ := st; wpAny_pyIter_enum he h
def iEnumT (K : PySem.W.Frag) (te : TE) : TI := fun σ H R => te σ H fun v H1 => ∃ a xs, v = .ref a ∧ SqT K H1 a xs ∧ R (IteT K a) H1
theorem pi_enumT {X : Cx} {e : Expr} {te : TE} {p pos tpos : Pos} {elts : List Expr} {kk : Nat} (hg : Gl X "enumerate") (hm : X.mg "enumerate" = none) (he : PE X e te) (hs : starEach [e] X.env = [(false, eval e X.env)] := by rfl) :
    PI X (.Tuple elts kk tpos) (.Call (.Name "enumerate" p) [e] [] pos) (iEnumT X.K te) := by
  refine ⟨fun pins s σ H R I h => ?_⟩
  refine Call_ (ld_blt I hg hm boot_enumerate (PyProof.Rows.callWith_type1 (thn ((pa_cons he pa_nil hs).run pos pins s σ H (fun vs H1 => match vs with
    | [v] => ∃ a xs, v = .ref a ∧ SqT X.K H1 a xs ∧ R (IteT X.K a) H1
    | _ => False) I h) fun us s1 ⟨vs, H1, I1, r1, q1⟩ => ?_) hs rfl))
  match vs, r1, q1 with
  | [v], .cons r .nil, q1' =>
    obtain ⟨a, xs, ev, hq, q⟩ := q1'
    subst ev
    cases r
    obtain ⟨its, rv, p', hz⟩ := I1.tuple hq
    have hal : a < s1.heap.objs.size := by obtain ⟨o, ho, _⟩ := p'; exact Heap.lt_size ho
    refine call_enumerate_tup p' fun h' he hit hsz hk => wpAny_pyIter_enum he ?_
    have I2 : Inv X pins σ H1 { s1 with heap := h' } := I1.kept (t' := s1.toks) hk
    refine ⟨s1.heap.objs.size + 1, [s1.heap.objs.size + 1, s1.heap.objs.size], _, _, H1, rfl, I2, turn_enumT a (s1.heap.objs.size + 1) s1.heap.objs.size (Nat.ne_of_lt hal) (Nat.ne_of_lt (Nat.lt_succ_of_lt hal)), ⟨⟨.none, he⟩, hit, Nat.succ_ne_self _⟩, fun b hb => ?_, q⟩
    have e' : b = s1.heap.objs.size + 1 ∨ b = s1.heap.objs.size := by simpa using hb
    have hle : s1.heap.objs.size ≤ b := by
      rcases e' with z | z
      · rw [z]; exact Nat.le_add_right _ _
      · rw [z]; exact Nat.le_refl _
    exact I1.fpOk hle (I1.hok.fresh hle)
/-- the list at a, each item in a new pair -/
def IteL (K : PySem.W.Frag) (a : Addr) : It :=
  ⟨fun i H => ∃ (xs : List V) (x : V), SqL K H a xs ∧ xs[i]? = some x, fun i H v H' => ∃ T x, v = .ref T ∧ H T = none ∧ (∃ o : Obj, o.dict = none ∧ H' = upd H T (.frz o (.tup [.int (i : Nat), x]))) ∧ ∀ xs, SqL K H a xs → xs[i]? = some x, fun i H => ∃ xs : List V, SqL K H a xs ∧ xs.length ≤ i⟩
theorem turn_enumL {P : Program} {w : World} {K : PySem.W.Frag} {elts : List Expr} {kk : Nat} {tpos : Pos} (a e it : Addr) (hai : a ≠ it) (hae : a ≠ e) :
    Turn P w K (.Tuple elts kk tpos) (IteL K a) [e, it] e (fun i h => (∃ old, IsEnum h e it ((i : Nat) : Int) old) ∧ h.IsListIter it a i ∧ e ≠ it) where
  mem := by simp
  obj := fun i h st b hb => by
    obtain ⟨⟨old, he⟩, ⟨o, ho, hc, hd⟩, _⟩ := st
    have e' : b = e ∨ b = it := by simpa using hb
    rcases e' with z | z
    · rw [z]; exact ⟨_, he, fun v q => nomatch q⟩
    · rw [z]; exact ⟨o, ho, fun v q => by rw [hd] at q; cases q⟩
  keep := fun i h h' st k => let ⟨⟨old, he⟩, ⟨o, ho, r⟩, hne⟩ := st; ⟨⟨old, k e (by simp) _ he⟩, ⟨o, k it (by simp) o ho, r⟩, hne⟩
  item := by
    intro X hP hw hK hc i pins s σ H E I hf st hg
    subst hP hw hK
    obtain ⟨⟨old, he⟩, hit, hne⟩ := st
    obtain ⟨xs, x, hq, hx⟩ := hg
    obtain ⟨its, rv, p, hz⟩ := I.list hq
    obtain ⟨u, hu, ru⟩ := rv.get hx
    have hel : e < s.heap.objs.size := Heap.lt_size he
    have hil : it < s.heap.objs.size := by obtain ⟨_, q, _⟩ := hit; exact Heap.lt_size q
    have hil2 : i < its.toArray.size := by simpa using (List.getElem?_eq_some_iff.mp hu).1
    have hh : X.A.in1.handled = none := I.ok.hd hc
    refine wpAny_pyNext_enum_itemD (Draws.list hh it a hai its.toArray) he ⟨hit, p.isList⟩ hil2 hne (by simp [hne, Ne.symm hae]) fun y h' tk hy ho hst hT hsz hk => ?_
    have ey : y = u := by
      have h1 : its.toArray[i]? = some u := by simpa using hu
      rw [h1] at hy
      exact (Option.some.inj hy).symm
    subst ey
    refine ⟨_, rfl, wpAny_letOwnedTupleGo_enum (s := { s with heap := h', toks := tk + 1 }) ho fun h'' he' sb => ?_⟩
    have hT2 : h''.get? s.heap.objs.size = some { cls := .type "tuple", data := .seq #[.int i tk, y] } := (sb.2 _ (Nat.ne_of_gt hel)).trans hT
    have new : ObjOk X.prog X.w (upd H s.heap.objs.size (.frz ({ cls := .type "tuple", data := .seq #[.int i tk, y] } : Obj) (.tup [.int (i : Nat), x]))) h'' s.heap.objs.size (.frz ({ cls := .type "tuple", data := .seq #[.int i tk, y] } : Obj) (.tup [.int (i : Nat), x])) :=
      ⟨hT2, by show 2 ≤ sizeLine; decide, [.int i tk, y], .cons ⟨_, rfl⟩ (.cons ru .nil), ⟨_, hT2, rfl, _, rfl⟩⟩
    have I1 : Inv X pins σ (upd H s.heap.objs.size (.frz ({ cls := .type "tuple", data := .seq #[.int i tk, y] } : Obj) (.tup [.int (i : Nat), x]))) { s with heap := h'', toks := tk + 1 } :=
      I.turnedNew (ch := [e, it]) (fun b ob hb q => (sb.2 b (fun z => hb (by simp [z]))).trans (hk b ob (fun z => hb (by simp [z])) (fun z => hb (by simp [z])) q)) hf (Nat.le_refl _) new
    obtain ⟨oi, hoi, ri⟩ := hst.1
    refine ⟨.ref s.heap.objs.size, _, I1, rfl, ⟨_, x, rfl, I.hok.fresh (Nat.le_refl _), ⟨_, rfl, rfl⟩, fun ys hy => by rw [I.list_inj hy hq]; exact hx⟩, ⟨⟨y, ?_⟩, ⟨oi, (sb.2 it (Ne.symm hne)).trans hoi, ri⟩, hne⟩, fun b hb => ?_⟩
    · have e1 : ((i + 1 : Nat) : Int) = (i : Int) + 1 := by omega
      rw [e1]; exact he'
    · have hb' : b < s.heap.objs.size := by
        have e' : b = e ∨ b = it := by simpa using hb
        rcases e' with z | z
        · rw [z]; exact hel
        · rw [z]; exact hil
      rw [upd_ne (Nat.ne_of_lt hb')]
      exact (hf b hb).1
  done := by
    intro X hP hw hK hc i pins s σ H E I hf st hg
    subst hP hw hK
    obtain ⟨⟨old, he⟩, hit, hne⟩ := st
    obtain ⟨xs, hq, hx⟩ := hg
    obtain ⟨its, rv, p, hz⟩ := I.list hq
    obtain ⟨f0, f1, f2, f3, f4, f5⟩ := hf it (by simp)
    have hl := rv.length
    have hh : X.A.in1.handled = none := I.ok.hd hc
    have hT : s.TypeIs (.ref e) "enumerate" := ⟨_, he, rfl⟩
    unfold pyNext
    refine wpAny_bind (wpAny_attempt (wpAny_callSpecial?_slot (name := Str.ofString "__next__") hT F.slot_enumerate_next
      (wpAny_call_entry F.slot_enumerate_next hT F.entry_enumerate_next ?_ (F.args_enumerate_next_1 _))))
    show wpAny _ _ (field (.ref e) 2 >>= _) _ _ _
    refine wpAny_bind (wpAny_field he rfl (x := .ref it) rfl ?_)
    refine wpAny_bind ?_
    refine wpAny_nextOf_list_end hh hit p.isList (by simp; omega) fun h' x eb ⟨o, ho, hc'⟩ => ?_
    refine wpAny_bind (wpAny_isInstance (T := "StopIteration") (b := true) ⟨o, ho, hc'⟩ isSubtype_stop ?_)
    exact wpAny_pure ⟨rfl, I.turned (t' := s.toks) (fun b o hb q => eb b o hb q) f0 f1 f3 f4 f5⟩
  self := fun A i s Q E st h => let ⟨⟨_, he⟩, _⟩ := st; wpAny_pyIter_enum he h
def iEnumL (K : PySem.W.Frag) (te : TE) : TI := fun σ H R => te σ H fun v H1 => ∃ a xs, v = .ref a ∧ SqL K H1 a xs ∧ R (IteL K a) H1
theorem pi_enumL {X : Cx} {e : Expr} {te : TE} {p pos tpos : Pos} {elts : List Expr} {kk : Nat} (hg : Gl X "enumerate") (hm : X.mg "enumerate" = none) (he : PE X e te) (hs : starEach [e] X.env = [(false, eval e X.env)] := by rfl) :
    PI X (.Tuple elts kk tpos) (.Call (.Name "enumerate" p) [e] [] pos) (iEnumL X.K te) := by
  refine ⟨fun pins s σ H R I h => ?_⟩
  refine Call_ (ld_blt I hg hm boot_enumerate (PyProof.Rows.callWith_type1 (thn ((pa_cons he pa_nil hs).run pos pins s σ H (fun vs H1 => match vs with
    | [v] => ∃ a xs, v = .ref a ∧ SqL X.K H1 a xs ∧ R (IteL X.K a) H1
    | _ => False) I h) fun us s1 ⟨vs, H1, I1, r1, q1⟩ => ?_) hs rfl))
  match vs, r1, q1 with
  | [v], .cons r .nil, q1' =>
    obtain ⟨a, xs, ev, hq, q⟩ := q1'
    subst ev
    cases r
    obtain ⟨its, rv, p', hz⟩ := I1.list hq
    have hal : a < s1.heap.objs.size := by obtain ⟨o, ho, _⟩ := p'.isList; exact Heap.lt_size ho
    refine call_enumerate_list p'.isList fun h' he hit hsz hk => wpAny_pyIter_enum he ?_
    have I2 : Inv X pins σ H1 { s1 with heap := h' } := I1.kept (t' := s1.toks) hk
    refine ⟨s1.heap.objs.size + 1, [s1.heap.objs.size + 1, s1.heap.objs.size], _, _, H1, rfl, I2, turn_enumL a (s1.heap.objs.size + 1) s1.heap.objs.size (Nat.ne_of_lt hal) (Nat.ne_of_lt (Nat.lt_succ_of_lt hal)), ⟨⟨.none, he⟩, hit, Nat.succ_ne_self _⟩, fun b hb => ?_, q⟩
    have e' : b = s1.heap.objs.size + 1 ∨ b = s1.heap.objs.size := by simpa using hb
    have hle : s1.heap.objs.size ≤ b := by
      rcases e' with z | z
      · rw [z]; exact Nat.le_add_right _ _
      · rw [z]; exact Nat.le_refl _
    exact I1.fpOk hle (I1.hok.fresh hle)
/-! ### by data -/
def enumD (i : Nat) : List D → List D
  | [] => []
  | d :: r => .tup [.int (i : Nat), d] :: enumD (i + 1) r
theorem enumD_len : ∀ (ds : List D) (i : Nat), (enumD i ds).length = ds.length
  | [], _ => rfl
  | d :: r, i => by simp [enumD, enumD_len r]
theorem enumD_get : ∀ (ds : List D) (i j : Nat), (enumD i ds)[j]? = ds[j]?.map fun d => D.tup [.int ((i + j : Nat) : Int), d]
  | [], _, _ => by simp [enumD]
  | d :: r, i, 0 => by simp [enumD]
  | d :: r, i, j + 1 => by
    simp only [enumD, List.getElem?_cons_succ]
    rw [enumD_get r (i + 1) j]
    have : i + 1 + j = i + (j + 1) := by omega
    rw [this]
def enumM (m : MM D) : MM (List D) := fun β => (m β).bind fun p => match p.1 with
  | .tup ds => .ok (enumD 0 ds, p.2)
  | .lst ds => .ok (enumD 0 ds, p.2)
  | _ => .bad
section
variable {T : Tx} {G : Hp}
theorem pair_rep {G1 H : Hp} {i : Nat} {d : D} {x : V} {t : Addr} {o : Obj} (ho : o.dict = none) (e : Ex G1 H) (ht : H t = none) (r : Rep T G1 d x) : ∃ G2, Grow T G1 H G2 (upd H t (.frz o (.tup [.int (i : Nat), x]))) ∧ Rep T G2 (.tup [.int ((0 + i : Nat) : Int), d]) (.ref t) := by
  have g1 : G1 t = none := fresh_back e ht
  refine ⟨upd G1 t (.frz o (.tup [.int (i : Nat), x])), Grow.new e ht, rep_tup ho (Ex.new g1) ⟨_, _, rfl, ?_, _, _, rfl, r, rfl⟩⟩
  show V.int (i : Nat) = V.int ((0 + i : Nat) : Int)
  rw [Nat.zero_add]
theorem yields_enumT {a : Addr} {xs : List V} {ds : List D} (hs : SqT T.K G a xs) (r : RepL T G ds xs) : Yields T G (IteT T.K a) (enumD 0 ds) := by
  refine ⟨fun i H e hi => ?_, fun i d G1 H x H' e1 e2 hd hy => ?_, fun i H e hi => ?_⟩
  · have hi' : i < xs.length := by rw [r.length, ← enumD_len ds 0]; exact hi
    exact ⟨xs, xs[i], ex_t e hs, by simp [hi']⟩
  · obtain ⟨t, y, rfl, ht, ⟨o, ho, rfl⟩, h⟩ := hy
    rw [enumD_get] at hd
    cases hq : ds[i]? with
    | none => rw [hq] at hd; cases hd
    | some d0 =>
      rw [hq] at hd
      cases hd
      obtain ⟨v, h1, h2⟩ := r.get hq
      have q := h xs (ex_t (e1.trans e2) hs)
      rw [h1] at q
      cases q
      exact pair_rep ho e2 ht (h2.mono e1)
  · exact ⟨xs, ex_t e hs, by rw [r.length, ← enumD_len ds 0]; exact hi⟩
theorem yields_enumL {a : Addr} {xs : List V} {ds : List D} (hs : SqL T.K G a xs) (r : RepL T G ds xs) : Yields T G (IteL T.K a) (enumD 0 ds) := by
  refine ⟨fun i H e hi => ?_, fun i d G1 H x H' e1 e2 hd hy => ?_, fun i H e hi => ?_⟩
  · have hi' : i < xs.length := by rw [r.length, ← enumD_len ds 0]; exact hi
    exact ⟨xs, xs[i], ex_l e hs, by simp [hi']⟩
  · obtain ⟨t, y, rfl, ht, ⟨o, ho, rfl⟩, h⟩ := hy
    rw [enumD_get] at hd
    cases hq : ds[i]? with
    | none => rw [hq] at hd; cases hd
    | some d0 =>
      rw [hq] at hd
      cases hd
      obtain ⟨v, h1, h2⟩ := r.get hq
      have q := h xs (ex_l (e1.trans e2) hs)
      rw [h1] at q
      cases q
      exact pair_rep ho e2 ht (h2.mono e1)
  · exact ⟨xs, ex_l e hs, by rw [r.length, ← enumD_len ds 0]; exact hi⟩
end
section
variable {X : Cx} {T : Tx} {W : WishX} {tg e : Expr} {m : MM D} {p pos tpos : Pos} {elts : List Expr} {kk : Nat}
theorem mi_by {ml : MM (List D)} (h : ∀ β, ∃ t, PI X tg e t ∧ ∀ A F G σ H R, SI T A F G H σ β → PostI T A W F G σ (ml β) R → t σ H R) : MI X T W tg e ml :=
  ⟨fun pins s σ H R I ⟨A, F, G, β, si, po⟩ => let ⟨t, ht, k⟩ := h β; ht.run pins s σ H R I (k A F G σ H R si po)⟩
theorem mi_enum (hK : X.K = T.K) (hg : Gl X "enumerate") (hm : X.mg "enumerate" = none) (he : ME X T W e m) (hs : starEach [e] X.env = [(false, eval e X.env)] := by rfl) : MI X T W (.Tuple elts kk tpos) (.Call (.Name "enumerate" p) [e] [] pos) (enumM m) := by
  refine mi_by fun β => ?_
  cases h1 : m β with
  | ok q =>
    obtain ⟨d, β1⟩ := q
    cases d with
    | lst ds =>
      refine ⟨_, pi_enumL hg hm he hs, fun A F G σ H R si po => ⟨A, F, G, β, si, ?_⟩⟩
      unfold enumM at po
      rw [h1] at po ⊢
      intro v G1 H1 e1 s1 r1
      obtain ⟨a, xs, rfl, ha, rl⟩ := r1
      rw [hK]
      exact ⟨a, xs, rfl, .inl (.inl (s1.gh _ _ ha)), po _ G1 H1 e1 s1 (yields_enumL (.inl (.inl ha)) rl)⟩
    | tup ds =>
      refine ⟨_, pi_enumT hg hm he hs, fun A F G σ H R si po => ⟨A, F, G, β, si, ?_⟩⟩
      unfold enumM at po
      rw [h1] at po ⊢
      intro v G1 H1 e1 s1 r1
      obtain ⟨a, xs, rfl, ha, rl⟩ := r1
      rw [hK]
      exact ⟨a, xs, rfl, ex_t s1.gh ha.sq, po _ G1 H1 e1 s1 (yields_enumT ha.sq rl)⟩
    | _ => exact ⟨_, pi_enumT hg hm he hs, fun A F G σ H R si po => by unfold enumM at po; rw [h1] at po; exact po.elim⟩
  | exc c fs =>
    refine ⟨_, pi_enumT hg hm he hs, fun A F G σ H R si po => ⟨A, F, G, β, si, ?_⟩⟩
    unfold enumM at po
    rw [h1] at po ⊢
    exact po
  | bad => exact ⟨_, pi_enumT hg hm he hs, fun A F G σ H R si po => by unfold enumM at po; rw [h1] at po; exact po.elim⟩
/-! ### over anything, dicts by their keys -/
def keyAs : Key → D
  | .inl i => .int i
  | .inr x => .str x
theorem keyAs_rep {G : Hp} (k : Key) : Rep T G (keyAs k) (kV k) := by cases k <;> rfl
def iterK (m : MM D) : MM (List D) := fun β => (m β).bind fun p => match p.1 with
  | .dic true kvs => .ok (kvs.map fun kv => keyAs kv.1, p.2)
  | .lst ds => .ok (ds, p.2)
  | .tup ds => .ok (ds, p.2)
  | .str x => .ok (signs x, p.2)
  | .scr ns => .ok (ns.map D.int, p.2)
  | _ => .bad
theorem repK_get {G : Hp} : ∀ {ds : List (Key × D)} {vs : List (Key × V)} {i : Nat}, RepK T G ds vs → ∀ {k v}, vs[i]? = some (k, v) → ∃ d, ds[i]? = some (k, d) ∧ Rep T G d v
  | [], _, i, r, k, v, h => by rw [show _ = _ from r] at h; simp at h
  | (k0, d0) :: ds, _, 0, r, k, v, h => by
    obtain ⟨v1, t, rfl, r1, r2⟩ := r
    simp at h
    obtain ⟨rfl, rfl⟩ := h
    exact ⟨d0, rfl, r1⟩
  | (k0, d0) :: ds, _, i + 1, r, k, v, h => by
    obtain ⟨v1, t, rfl, r1, r2⟩ := r
    simp only [List.getElem?_cons_succ] at h ⊢
    exact repK_get r2 h
theorem yields_keys {G : Hp} {a : Addr} {o : Obj} {kvs : List (Key × D)} {ys : List (Key × V)} (ha : G a = some (.frz o (.dK ys))) (r : RepK T G kvs ys) : Yields T G (Itk a o ys) (kvs.map fun kv => keyAs kv.1) := by
  have hl := r.length
  refine ⟨fun i H e hi => ⟨e _ _ ha, by rw [hl]; simpa using hi⟩, fun i d G1 H x H' e1 e2 hd hy => ?_, fun i H e hi => ⟨e _ _ ha, by rw [hl]; simpa using hi⟩⟩
  obtain ⟨rfl, k, v, hk, rfl⟩ := hy
  obtain ⟨d0, hd0, _⟩ := repK_get r hk
  rw [List.getElem?_map, hd0] at hd
  cases hd
  exact ⟨G1, Grow.refl e2, keyAs_rep k⟩
theorem mi_any (hK : X.K = T.K) (he : ME X T W e m) : MI X T W tg e (iterK m) := by
  refine mi_by fun β => ?_
  cases h1 : m β with
  | ok q =>
    obtain ⟨d, β1⟩ := q
    cases d with
    | dic l kvs =>
      cases l with
      | true =>
        refine ⟨_, pi_keys he, fun A F G σ H R si po => ⟨A, F, G, β, si, ?_⟩⟩
        unfold iterK at po
        rw [h1] at po ⊢
        intro v G1 H1 e1 s1 r1
        obtain ⟨a, ys, rfl, ha, rk⟩ := r1
        obtain ⟨o, ho⟩ := ha.2 rfl
        exact ⟨a, o, rfl, .inl ⟨ys, s1.gh _ _ ho, po _ G1 H1 e1 s1 (yields_keys ho rk)⟩⟩
      | false => exact ⟨_, mi_seq hK he, fun A F G σ H R si po => by unfold iterK at po; rw [h1] at po; exact po.elim⟩
    | _ =>
      refine ⟨_, mi_seq hK he, fun A F G σ H R si po => ⟨A, F, G, β, si, ?_⟩⟩
      unfold iterK at po
      unfold iterM
      rw [h1] at po ⊢
      exact po
  | exc c fs =>
    refine ⟨_, mi_seq hK he, fun A F G σ H R si po => ⟨A, F, G, β, si, ?_⟩⟩
    unfold iterK at po
    unfold iterM
    rw [h1] at po ⊢
    exact po
  | bad => exact ⟨_, mi_seq hK he, fun A F G σ H R si po => by unfold iterK at po; rw [h1] at po; exact po.elim⟩
end
end Fw
end

section
set_option Elab.async false
set_option linter.all false
set_option maxRecDepth 100000
set_option maxHeartbeats 4000000
set_option autoImplicit false
/-! # dict(pairs), dict(d) -/
namespace Fw
open PySem PySem.Spec L2 Evl PyProof.Rows
/-- a thing that holds pairs: a list, a plain tuple -/
def PSq (K : PySem.W.Frag) (H : Hp) (a : Addr) (xs : List V) : Prop := SqL K H a xs ∨ PlT K H a xs
theorem plain_of {X : Cx} {pins : List (Addr × Obj)} {σ : L2.St} {H : Hp} {s : Shared} {a : Addr} {xs : List V} (I : Inv X pins σ H s) (h : PlT X.K H a xs) : ∃ its : List Value, Vals xs its ∧ PySem.PlainSeq "tuple" s.heap a its.toArray ∧ xs.length ≤ sizeLine := by
  rcases h with ⟨o, hd, e⟩ | ⟨o, its, n, hd, hk, hc, hdt, hz, r⟩
  · obtain ⟨ho, hz, its, r, o', ho', hc, n, hdt⟩ := (show ObjOk X.prog X.w H s.heap a (.frz o (.tup xs)) from I.hok a _ e)
    rw [ho] at ho'
    cases ho'
    exact ⟨its, r, ⟨o, n, ho, hc, hd, hdt⟩, hz⟩
  · refine ⟨its.toList, r, ⟨o, n, I.kIn _ _ hk, hc, hd, by simpa using hdt⟩, ?_⟩
    have := r.length
    rw [this, Array.length_toList]
    exact hz
section
variable {X : Cx}
def rDictT (K : PySem.W.Frag) : List V → Hp → VK → Prop := fun xs H Q => ∃ (a : Addr) (ps : List Addr) (kvs : List (Key × V)), xs = [.ref a] ∧ PlT K H a (ps.map V.ref) ∧ Paired (fun p kv => SqT K H p [kV kv.1, kv.2]) ps kvs ∧
    ∀ p, H p = none → Q (.ref p) (upd H p (.dK (mergeK [] kvs)))
theorem call_dictT (hcalm : X.calm = true) : CallR X (.type "dict") (rDictT X.K) := by
  intro pins s σ H xs us Q I r q
  obtain ⟨a, ps, kvs, ex, hq, hp, q⟩ := q
  subst ex
  obtain ⟨u, eu, rx⟩ := vals1 r
  subst eu
  cases rx
  obtain ⟨its, rv, pl, hz⟩ := plain_of I hq
  have ei := L2.refs_at rv
  subst ei
  rw [List.length_map] at hz
  obtain ⟨prs, rel, hl, hpr⟩ := L2.pairs_of I hp
  -- the keys' own values
  have key : ∃ vals : List (Value × Value), vals.length = prs.length ∧ ∀ (j : Nat) (k v : Value), vals[j]? = some (k, v) → ∃ q b, prs[j]? = some q ∧ q.2 = v ∧ ps[j]? = some b ∧ IsTup s.heap b #[k, v] ∧ keyIs q.1 k = true := by
    clear rel q
    have hl' := hl
    clear hl hz pl rv hq hp
    induction prs generalizing ps with
    | nil => exact ⟨[], rfl, fun j k v e => by simp at e⟩
    | cons q0 prs ih =>
      cases ps with
      | nil => simp at hl'
      | cons p0 ps =>
        obtain ⟨b, u, e1, e2, e3⟩ := hpr 0 q0 rfl
        obtain ⟨vals, l1, l2⟩ := ih ps (fun j q e => by
          obtain ⟨b, u, e1, e2, e3⟩ := hpr (j + 1) q (by simpa using e)
          exact ⟨b, u, by simpa using e1, e2, e3⟩) (by simpa using hl')
        refine ⟨(u, q0.2) :: vals, by simp [l1], fun j k v e => ?_⟩
        cases j with
        | zero =>
          simp at e
          obtain ⟨rfl, rfl⟩ := e
          exact ⟨q0, b, rfl, rfl, e1, e2, e3⟩
        | succ j =>
          simp only [List.getElem?_cons_succ] at e ⊢
          exact l2 j k v e
  obtain ⟨vals, vl, vk⟩ := key
  have hvl : vals.length = ps.length := vl.trans hl
  have items : PySem.PairItems s.heap (ps.map Value.ref).toArray (fun j => ps.getD j 0) vals := by
    refine ⟨by simp [hvl], fun j k v e => ?_⟩
    obtain ⟨q0, b, h1, h2, h3, h4, h5⟩ := vk j k v e
    have hb : ps.getD j 0 = b := by rw [List.getD_eq_getElem?_getD, h3]; rfl
    dsimp only
    rw [hb]
    exact ⟨by simp [h3], .inl h4⟩
  refine PySem.call_dict_pairs (knd := mixKind X.prog X.w) (kvs := prs) (PySem.PairArg.tuple a (ps.map Value.ref).toArray (fun j => ps.getD j 0) vals) (I.ok.hd hcalm) ⟨pl, items⟩ ⟨vl.symm, fun i k v e => ?_⟩ (by rw [hvl]; exact hz) fun h' tk hd' k => ?_
  · obtain ⟨q0, b, h1, h2, h3, h4, h5⟩ := vk i k v e
    obtain ⟨qk, qv⟩ := q0
    cases h2
    exact ⟨qk, h1, h5⟩
  · have hm : (s.heap.objs.size == sysModules) = false := beq_eq_false_iff_ne.mpr (Nat.ne_of_gt I.big)
    have hlen : (mergeK [] kvs).length ≤ sizeLine := by
      refine Nat.le_trans (length_mergeK kvs []) ?_
      rw [List.length_nil, Nat.zero_add, rel.length, hl]
      exact hz
    exact ⟨.ref s.heap.objs.size, upd H s.heap.objs.size (.dK (mergeK [] kvs)), I.laid (t' := tk) (fun b o e => k b o (by simp) e) (Nat.le_refl _) (show ObjOk X.prog X.w _ _ _ (.dK (mergeK [] kvs)) from ⟨hlen, hm, merged [] prs, KV.merge rel .nil, hd'⟩), rfl, q _ (I.hok.fresh (Nat.le_refl _))⟩
/-- all three -/
def rDictA (K : PySem.W.Frag) : List V → Hp → VK → Prop := fun xs H Q => ∃ (a : Addr), xs = [.ref a] ∧ ((∃ (ps : List Addr) (kvs : List (Key × V)), PSq K H a (ps.map V.ref) ∧ Paired (fun p kv => SqT K H p [kV kv.1, kv.2]) ps kvs ∧ ∀ p, H p = none → Q (.ref p) (upd H p (.dK (mergeK [] kvs)))) ∨
    ∃ kvs, Rd H a (.dK kvs) ∧ ∀ p, H p = none → Q (.ref p) (upd H p (.dK kvs)))
theorem call_dictA (hcalm : X.calm = true) : CallR X (.type "dict") (rDictA X.K) := by
  intro pins s σ H xs us Q I r ⟨a, ex, h⟩
  rcases h with ⟨ps, kvs, hs | hs, hp, q⟩ | ⟨kvs, hd, q⟩
  · exact call_dictP hcalm pins s σ H xs us Q I r ⟨a, ps, kvs, ex, hs, hp, q⟩
  · exact call_dictT hcalm pins s σ H xs us Q I r ⟨a, ps, kvs, ex, hs, hp, q⟩
  · exact call_dictD pins s σ H xs us Q I r ⟨a, kvs, ex, hd, q⟩
end
/-! ### by data -/
def pairsD : List D → Option (List (Key × D))
  | [] => some []
  | .tup [k, v] :: r => match keyD k, pairsD r with
    | some k, some t => some ((k, v) :: t)
    | _, _ => none
  | _ :: _ => none
def mergeD (kvs more : List (Key × D)) : List (Key × D) := more.foldl (fun acc kv => putD acc kv.1 kv.2) kvs
def dictP (d : D) : Option (List (Key × D)) := match d with
  | .lst ds => (pairsD ds).map (mergeD [])
  | .tup ds => (pairsD ds).map (mergeD [])
  | .dic _ kvs => some kvs
  | _ => none
section
variable {T : Tx} {G : Hp}
theorem pairsD_rep : ∀ {ds : List D} {vs : List V} {kvs : List (Key × D)}, RepL T G ds vs → pairsD ds = some kvs → ∃ (ps : List Addr) (ys : List (Key × V)), vs = ps.map V.ref ∧ Paired (fun p kv => SqT T.K G p [kV kv.1, kv.2]) ps ys ∧ RepK T G kvs ys
  | [], vs, kvs, r, h => by
    cases h
    exact ⟨[], [], r, .nil, rfl⟩
  | d :: ds, vs, kvs, r, h => by
    obtain ⟨v, t, rfl, r1, r2⟩ := r
    unfold pairsD at h
    split at h
    · rename_i e; cases e
    · rename_i k0 v0 r0 e
      cases e
      split at h
      · rename_i k t' hk ht
        cases h
        obtain ⟨ps, ys, rfl, hp, rk⟩ := pairsD_rep r2 ht
        obtain ⟨a, xs, rfl, pl, rl⟩ := r1
        obtain ⟨x1, x2, rfl, q1, q2⟩ := rl.two
        refine ⟨a :: ps, (k, x2) :: ys, rfl, .cons ?_ hp, ⟨x2, ys, rfl, q2, rk⟩⟩
        rw [keyD_rep q1 hk] at pl
        exact pl.sq
      · cases h
    · cases h
theorem mergeD_rep : ∀ {more kvs : List (Key × D)} {ms ys : List (Key × V)}, RepK T G more ms → RepK T G kvs ys → RepK T G (mergeD kvs more) (mergeK ys ms)
  | [], kvs, ms, ys, r, q => by rw [show _ = _ from r]; exact q
  | (k, d) :: more, kvs, ms, ys, r, q => by
    obtain ⟨v, t, rfl, r1, r2⟩ := r
    exact mergeD_rep (more := more) (kvs := putD kvs k d) (ms := t) (ys := putK ys k v) r2 (putD_rep q r1)
theorem sqt_paired {H : Hp} (e : Ex G H) : ∀ {ps : List Addr} {ys : List (Key × V)}, Paired (fun p kv => SqT T.K G p [kV kv.1, kv.2]) ps ys → Paired (fun p kv => SqT T.K H p [kV kv.1, kv.2]) ps ys
  | _, _, .nil => .nil
  | _, _, .cons h t => .cons (ex_t e h) (sqt_paired e t)
/-- dict(d): what is asked, what comes -/
theorem dictA_of {H : Hp} {d : D} {v : V} {kvs : List (Key × D)} {Q : VK} (e : Ex G H) (r : Rep T G d v) (h : dictP d = some kvs) (q : ∀ p ys, H p = none → RepK T G kvs ys → Q (.ref p) (upd H p (.dK ys))) : rDictA T.K [v] H Q := by
  have prs : ∀ (ds : List D) (a : Addr) (xs : List V), v = .ref a → PSq T.K H a xs → RepL T G ds xs → (pairsD ds).map (mergeD []) = some kvs → rDictA T.K [v] H Q := by
    intro ds a xs ev hs rl hp
    cases hq : pairsD ds with
    | none => rw [hq] at hp; cases hp
    | some more =>
      rw [hq] at hp
      cases hp
      obtain ⟨ps, ys, rfl, hpd, rk⟩ := pairsD_rep rl hq
      exact ⟨a, by rw [ev], .inl ⟨ps, ys, hs, sqt_paired e hpd, fun p hn => q p _ hn (mergeD_rep rk rfl)⟩⟩
  cases d with
  | lst ds => obtain ⟨a, xs, ev, ha, rl⟩ := r; exact prs ds a xs ev (.inl (.inl (.inl (e _ _ ha)))) rl h
  | tup ds => obtain ⟨a, xs, ev, ha, rl⟩ := r; exact prs ds a xs ev (.inr (ha.mono e)) rl h
  | dic l k2 =>
    cases h
    obtain ⟨a, ys, rfl, ha, rk⟩ := r
    exact ⟨a, rfl, .inr ⟨ys, (ha.mono e).1, fun p hn => q p ys hn rk⟩⟩
  | _ => cases h
end
def dictM (m : MM D) : MM D := fun β => (m β).bind fun p => match dictP p.1 with
  | some kvs => .ok (.dic true kvs, p.2)
  | none => .bad
/-- one's own dict -/
def ownDictM (i : Nat) (m : MM D) : MM Fl := fun β => (m β).bind fun p => match dictP p.1 with
  | some kvs => (setB i (.od false kvs) p.2).bindB fun β' => .ok (.nx, β')
  | none => .bad
section
variable {X : Cx} {T : Tx} {W : WishX} {e : Expr} {m : MM D} {p pos : Pos}
theorem me_dict (hK : X.K = T.K) (hc : X.calm = true) (hg : Gl X "dict") (hm : X.mg "dict" = none) (he : ME X T W e m) (hs : starEach [e] X.env = [(false, eval e X.env)] := by rfl) : ME X T W (.Call (.Name "dict" p) [e] [] pos) (dictM m) := by
  refine pe_imp (pe_plock (pe_callTy (call_dictA hc) hg hm (by decide +kernel) (pa_cons he pa_nil hs) (he := hs) (hpl := rfl))) fun σ H Q ⟨A, F, G, β, s, po⟩ => ?_
  refine ⟨A, F, G, β, s, po.bindE fun d β1 v G1 H1 e1 s1 r1 p1 => ?_⟩
  cases hd : dictP d with
  | none => dsimp only at p1; rw [hd] at p1; exact p1.elim
  | some kvs =>
    dsimp only at p1
    rw [hd] at p1
    unfold tNil
    dsimp only
    rw [hK]
    refine dictA_of s1.gh r1 hd fun a ys hn rk => ⟨a, _, rfl, upd_same, True.intro, fun od => ?_⟩
    rw [upd_upd]
    exact p1 _ _ _ (Grow.new (T := T) (o := .frz od (.dK ys)) s1.gh hn).gg (s1.grow (Grow.new s1.gh hn)) ⟨a, ys, rfl, ⟨.inr ⟨od, upd_same⟩, fun _ => ⟨od, upd_same⟩⟩, rk.mono (Ex.new (fresh_back s1.gh hn))⟩
theorem ms_ownDict {i : Nat} {x : Str} {pos' spos : Pos} (hK : X.K = T.K) (hc : X.calm = true) (hg : Gl X "dict") (hm : X.mg "dict" = none) (he : ME X T W e m) (hN : X.N.Nodup) (hi : X.N[i]? = some x) (hx : Loc X.env.scope x) (hs : starEach [e] X.env = [(false, eval e X.env)] := by rfl)
    (hsw : swapsWith (.Call (.Name "dict" p) [e] [] pos) (some (.Name x pos')) spos.line X.env = pure false := by rfl) (hf : X.fn x = true ∨ X.env.scope.names.lookup x = some .local := by first | exact .inl rfl | exact .inr rfl | assumption) :
    MS X T W (.Assign [.Name x pos'] (.Call (.Name "dict" p) [e] [] pos) spos) (ownDictM i m) := by
  refine ps_imp (ps_set hN hi hx (pe_callTy (call_dictA hc) hg hm (by decide +kernel) (pa_cons he pa_nil hs) (he := hs) (hpl := rfl)) hsw hf) fun D σ H ⟨A, F, G, β, s, po⟩ => ?_
  refine ⟨A, F, G, β, s, po.bindE fun d β1 v G1 H1 e1 s1 r1 p1 => ?_⟩
  cases hd : dictP d with
  | none => dsimp only at p1; rw [hd] at p1; exact p1.elim
  | some kvs =>
    dsimp only at p1
    rw [hd] at p1
    unfold tNil
    dsimp only
    rw [hK]
    refine dictA_of s1.gh r1 hd fun a ys hn rk => ?_
    cases hb : setB i (.od false kvs) β1 with
    | ok β2 =>
      dsimp only at p1
      rw [hb] at p1
      obtain ⟨b1, b2, b3⟩ := setB_ok hb
      subst b2
      have g0 : G1 a = none := fresh_back s1.gh hn
      have gr : Grow T G1 H1 G1 (upd H1 a (.dK ys)) := Grow.side s1.gh (Evl.Ex.new hn)
      have s2 := s1.grow gr
      have fa : F a = none := fresh_back s1.fh hn
      refine p1 _ G1 _ (Ex.refl _) (s2.set b1 b3 rfl ⟨a, rfl, g0, fa, ys, upd_same, rk⟩ fun _ j c q hj hc' hq hjv => ?_)
      cases hq
      obtain ⟨w, hw, rw'⟩ := s1.at' j c hj
      rw [hjv] at hw
      cases hw
      cases c with
      | im d => cases hc'
      | ol _ _ => obtain ⟨a', e', _, _, r'⟩ := rw'; cases e'; exact r'.there hn
      | od _ _ => obtain ⟨a', e', _, _, r'⟩ := rw'; cases e'; exact r'.there hn
      | oi _ _ _ => obtain ⟨a', e', _, _, r'⟩ := rw'; cases e'; exact r'.there hn
      | fn q => cases hc'
    | exc c fs => dsimp only at p1; rw [hb] at p1; exact p1.elim
    | bad => dsimp only at p1; rw [hb] at p1; exact p1.elim
end
end Fw
end

section
set_option Elab.async false
set_option linter.all false
set_option maxRecDepth 100000
set_option maxHeartbeats 4000000
set_option autoImplicit false
/-! # what the printed texts lean on -/
namespace Fw
open PySem PySem.Spec L2 Evl
open PyProof.Rows (envOfC)
theorem Rm.u1 {k : Nat} {A : Around} (r : Rm k A) : A.units + 1 < cLine := by have := r.r.units; omega
section
variable {X : Cx} {T : Tx} {W : WishX} {x : Str} {pos : Pos}
theorem me_gstr {y : Str} (hg : Gl X x) (h : ∃ t, X.mg x = some (.str y t)) (hd : (x == ("__debug__" : Str)) = false := by decide) : ME X T W (.Name x pos) (constM (.str y)) := by
  obtain ⟨t, h⟩ := h
  exact me_const (pe_glob (v := .str y) hg h ⟨t, rfl⟩ hd) fun _ => rfl
theorem me_gint {y : Int} (hg : Gl X x) (h : ∃ t, X.mg x = some (.int y t)) (hd : (x == ("__debug__" : Str)) = false := by decide) : ME X T W (.Name x pos) (constM (.int y)) := by
  obtain ⟨t, h⟩ := h
  exact me_const (pe_glob (v := .int y) hg h ⟨t, rfl⟩ hd) fun _ => rfl
/-- nothing is said of a thing that is never reached -/
def badM {α : Type} : MM α := fun _ => .bad
theorem me_bad {e : Expr} : ME X T W e badM := ⟨fun _ _ _ _ _ _ ⟨_, _, _, _, _, p⟩ => p.elim⟩
theorem ms_bad {s : Stmt} : MS X T W s badM := ⟨fun _ _ _ _ _ _ ⟨_, _, _, _, _, p⟩ => p.elim⟩
theorem mss_bad {s : List Stmt} : MSs X T W s badM := ⟨fun _ _ _ _ _ _ ⟨_, _, _, _, _, p⟩ => p.elim⟩
def D.isN : D → Bool
  | .non => true
  | _ => false
/-- is None -/
def isNF (a b : D) : Res D := match b with
  | .non => .ok (.bl a.isN)
  | _ => .bad
def notNF (a b : D) : Res D := match b with
  | .non => .ok (.bl (!a.isN))
  | _ => .bad
theorem rep_non {G : Hp} {d : D} {v : V} (r : Rep T G d v) : decide (v = .non) = d.isN := by
  cases d with
  | non => rw [show v = _ from r]; rfl
  | bl _ => rw [show v = _ from r]; rfl
  | int _ => rw [show v = _ from r]; rfl
  | str _ => rw [show v = _ from r]; rfl
  | tup _ => obtain ⟨a, _, rfl, _⟩ := r; rfl
  | lst _ => obtain ⟨a, _, rfl, _⟩ := r; rfl
  | scr _ => obtain ⟨a, rfl, _⟩ := r; rfl
  | dic _ _ => obtain ⟨a, _, rfl, _⟩ := r; rfl
  | obj _ _ => obtain ⟨a, _, _, _, rfl, _⟩ := r; rfl
theorem p_isN : Prim2 T (fun x y H Q => y = .non ∧ Q (.bl (decide (x = .non))) H) isNF := by
  intro G H x y a b Q e ra rb h
  unfold isNF at h
  cases b with
  | non => exact ⟨rb, by rw [rep_non ra]; exact h _ G H (Grow.refl e) rfl⟩
  | _ => exact h.elim
theorem p_notN : Prim2 T (fun x y H Q => y = .non ∧ Q (.bl (!decide (x = .non))) H) notNF := by
  intro G H x y a b Q e ra rb h
  unfold notNF at h
  cases b with
  | non =>
    refine ⟨rb, ?_⟩
    rw [rep_non ra]
    exact h _ G H (Grow.refl e) rfl
  | _ => exact h.elim
end
/-! ### an __init__ with a star parameter -/
section
variable {P : Program} {w : World} {K : PySem.W.Frag} {mg : Str → Option Value} {base : Heap} {x qual p1 pv : Str} {st : Stmt} {f : Addr} {fd : FuncData} {N : List Str} {k : Nat} {T : Tx} {m : MM Fl}
theorem Fun.bindS (F : Fun K x qual st f fd) (h0 : ∀ (kV doc pm : Value) (an : Option Addr) (cdv ct : Value) (a : Value), bindArgs (PySem.W.fnOf x qual (defArgs st) (defBody st) (defScope st) .none kV doc pm an cdv ct) ⟨[a], []⟩ = (newTuple [] >>= fun t => pure [(p1, a), (pv, t)]))
    (h1 : ∀ (kV doc pm : Value) (an : Option Addr) (cdv ct : Value) (a r : Value) (rs : List Value), bindArgs (PySem.W.fnOf x qual (defArgs st) (defBody st) (defScope st) .none kV doc pm an cdv ct) ⟨a :: r :: rs, []⟩ = (newTuple (r :: rs) >>= fun t => pure [(p1, a), (pv, t)])) :
    ∀ us rest : List Value, us.length = [p1].length → bindArgs fd ⟨us ++ rest, []⟩ = (newTuple rest >>= fun t => pure ([p1].zip us ++ [(pv, t)])) := by
  obtain ⟨oc, od, kV, doc, pm, an, cdv, ct, osl, rfl, lk, hcd⟩ := F.ex
  exact StX.bind_star1 (B := fun l => bindArgs _ ⟨l, []⟩) (h0 kV doc pm an cdv ct) (h1 kV doc pm an cdv ct)
theorem fn_I (F : Fun K x qual st f fd) (S : FnScope N ([p1] ++ [pv]) (defScope st)) (hbd : ∀ us rest : List Value, us.length = [p1].length → bindArgs fd ⟨us ++ rest, []⟩ = (newTuple rest >>= fun t => pure ([p1].zip us ++ [(pv, t)])))
    (hb : ∀ (cdv : Value) (A : Around) (outer : List Env) (s : Shared) (H : Hp) (E : XK), Rm k (A.deeper (envOfC qual (defScope st) s.heap.objs.size f cdv)) →
      MSs (cxOf (L2.CX P w) P w K mg base N qual (defScope st) f cdv A outer s H E) T (wE E) (defBody st) m) : FnG P w K mg base (k + 1) f [] (spMS T (runM m N.length)) :=
  fn_MS (fn_GS (ps := [p1]) F S hbd fun cdv A outer s H vs Q E hr h => ⟨_, hb cdv A outer s H E hr, tS_M h⟩)
end
end Fw
end

section
set_option Elab.async false
set_option linter.all false
set_option maxRecDepth 100000
set_option maxHeartbeats 4000000
set_option autoImplicit false
/-! # methods of texts, slices, f-strings -/
namespace Fw
open PySem PySem.Spec L2 Evl PyProof.Rows
/-! ### methods -/
def splitB (a : D) (as : List D) : Res D := match a, as with
  | .str x, [.str y] => if (y.length == 0) = false ∧ x.length ≤ 1000000 then .ok (.lst ((Txt.split x y).map .str)) else .bad
  | _, _ => .bad
def joinB (a : D) (as : List D) : Res D := match a, as with
  | .str x, [.lst ds] => match strsD ds with
    | some ys => if (ys.map (·.length)).sum + ys.length * x.length ≤ 1000000 then .ok (.str (Txt.join x ys)) else .bad
    | none => .bad
  | _, _ => .bad
def sindexB (a : D) (as : List D) : Res D := match a, as with
  | .str x, [.str y] => match Builtin.Str.occurrences x y 0 x.length 1 with
    | i :: _ => .ok (.int (i : Nat))
    | [] => .bad
  | _, _ => .bad
def partB (a : D) (as : List D) : Res D := match a, as with
  | .str x, [.str y] => if (y.length == 0) = false ∧ x.length ≤ 1000000 then .ok (.tup [.str (Txt.partition x y).1, .str (Txt.partition x y).2.1, .str (Txt.partition x y).2.2]) else .bad
  | _, _ => .bad
section
variable {X : Cx}
theorem laid_partsP {pins : List (Addr × Obj)} {σ : L2.St} {H : Hp} {s : Shared} {Q : VK} {x y z : Str} {t u v : Tok} {k : Nat} (I : Inv X pins σ H s) (h : ∀ p o, H p = none → o.dict = none → Q (.ref p) (upd H p (.frz o (.tup [.str x, .str y, .str z])))) :
    EP X pins σ Q (.ref s.heap.objs.size) { s with toks := k, heap := s.heap.push { cls := .type "tuple", data := .seq [Value.str x t, .str y u, .str z v].toArray } } := by
  have hp := I.hok.fresh (Nat.le_refl _)
  exact ⟨.ref s.heap.objs.size, upd H s.heap.objs.size (.frz { cls := .type "tuple", data := .seq [Value.str x t, .str y u, .str z v].toArray } (.tup [.str x, .str y, .str z])), I.laid (fun b u q => Heap.get?_push_of_some _ q) (Nat.le_refl _)
    ⟨Heap.get?_push_size _ rfl, by show 3 ≤ sizeLine; decide, [Value.str x t, .str y u, .str z v], .cons ⟨t, rfl⟩ (.cons ⟨u, rfl⟩ (.cons ⟨v, rfl⟩ .nil)), _, Heap.get?_push_size _ rfl, rfl, _, rfl⟩, rfl, h _ _ hp rfl⟩
def rPartP : V → List V → Hp → VK → Prop := fun x xs H Q => ∃ a b, x = .str a ∧ xs = [.str b] ∧ (b.length == 0) = false ∧ a.length ≤ sizeLine ∧
    ∀ p o, H p = none → o.dict = none → Q (.ref p) (upd H p (.frz o (.tup [.str (Txt.partition a b).1, .str (Txt.partition a b).2.1, .str (Txt.partition a b).2.2])))
theorem mt_partP : MtR X "str.partition" rPartP := by
  intro pins s σ H x xs v us Q I rx rs h
  obtain ⟨a, b, rfl, rfl, hb, hz, h⟩ := h
  obtain ⟨t, rfl⟩ := rx
  cases rs with
  | cons r1 rs =>
    cases rs
    obtain ⟨u, rfl⟩ := r1
    refine call_meets F.slot_str_partition (typeIs_str _ _ _) F.entry_str_partition (F.args_str_partition_2 _ _) (meets_str_partition a b t u hb hz) ?_
    unfold Txt.partition at h
    revert h
    cases Builtin.Str.occurrences a b 0 a.length 1 with
    | nil => intro h; exact laid_partsP I h
    | cons i r => intro h; exact laid_partsP I h
end
section
variable {T : Tx}
theorem p_split : PrimB T (fun x xs H Q => ∃ a b, x = .str a ∧ xs = [.str b] ∧ (b.length == 0) = false ∧ a.length + 2 ≤ sizeLine ∧ rNewStrs (Txt.split a b) H Q) splitB := by
  intro G H x xs a as Q e ra rs h
  unfold splitB at h
  split at h
  · rename_i a' b
    obtain ⟨v, rfl, rv⟩ := rs.one
    split at h
    · rename_i hz
      refine ⟨a', b, ra, by rw [show v = _ from rv], hz.1, Nat.le_trans (Nat.add_le_add_right hz.2 2) (by decide), fun p hp => h.lst e (repL_strs _) hp⟩
    · exact h.elim
  · exact h.elim
theorem p_join : PrimB T (fun x xs H Q => ∃ a p, ∃ ys : List Str, x = .str a ∧ xs = [.ref p] ∧ (SqL T.K H p (ys.map V.str) ∨ SqT T.K H p (ys.map V.str)) ∧
    (ys.map (·.length)).sum + ys.length * a.length ≤ 16777216 ∧ Q (.str (Txt.join a ys)) H) joinB := by
  intro G H x xs a as Q e ra rs h
  unfold joinB at h
  split at h
  · rename_i x' ds
    obtain ⟨v, rfl, l, zs, rfl, ha, rl⟩ := rs.one
    split at h
    · rename_i ys hy
      split at h
      · rename_i hz
        have ez := strsD_rep rl hy
        subst ez
        exact ⟨x', l, ys, ra, rfl, .inl (.inl (.inl (e _ _ ha))), Nat.le_trans hz (by decide), h _ G H (Grow.refl e) rfl⟩
      · exact h.elim
    · exact h.elim
  · exact h.elim
theorem p_sindex : PrimB T (fun x xs H Q => ∃ a b i rest, x = .str a ∧ xs = [.str b] ∧ Builtin.Str.occurrences a b 0 a.length 1 = i :: rest ∧ Q (.int (i : Nat)) H) sindexB := by
  intro G H x xs a as Q e ra rs h
  unfold sindexB at h
  split at h
  · rename_i a' b
    obtain ⟨v, rfl, rv⟩ := rs.one
    split at h
    · rename_i i rest hi
      exact ⟨a', b, i, rest, ra, by rw [show v = _ from rv], hi, h _ G H (Grow.refl e) rfl⟩
    · exact h.elim
  · exact h.elim
theorem p_part : PrimB T rPartP partB := by
  intro G H x xs a as Q e ra rs h
  unfold partB at h
  split at h
  · rename_i a' b
    obtain ⟨v, rfl, rv⟩ := rs.one
    split at h
    · rename_i hz
      refine ⟨a', b, ra, by rw [show v = _ from rv], hz.1, sz_ok hz.2, fun p o hp ho => h.tup (vs := [.str (Txt.partition a' b).1, .str (Txt.partition a' b).2.1, .str (Txt.partition a' b).2.2]) ho e (show RepL T G [.str (Txt.partition a' b).1, .str (Txt.partition a' b).2.1, .str (Txt.partition a' b).2.2] _ from ⟨_, _, rfl, rfl, _, _, rfl, rfl, _, _, rfl, rfl, rfl⟩) hp⟩
    · exact h.elim
  · exact h.elim
end
theorem ty_split : typeOf (.builtin "str.split") = pure (.type "method_descriptor") := by show builtinType _ = _; rw [builtinType_eq_fast]; kernel_rfl
theorem ty_join : typeOf (.builtin "str.join") = pure (.type "method_descriptor") := by show builtinType _ = _; rw [builtinType_eq_fast]; kernel_rfl
theorem ty_index : typeOf (.builtin "str.index") = pure (.type "method_descriptor") := by show builtinType _ = _; rw [builtinType_eq_fast]; kernel_rfl
theorem ty_part : typeOf (.builtin "str.partition") = pure (.type "method_descriptor") := by show builtinType _ = _; rw [builtinType_eq_fast]; kernel_rfl
/-! ### slices -/
def cutL {α : Type} (xs : List α) (lo hi : Option Int) : List α := (xs.drop (HT.sIx xs.length 0 lo)).take (HT.sIx xs.length xs.length hi - HT.sIx xs.length 0 lo)
def cutD (a : D) (lo hi : Option Int) : Res D := match a with
  | .lst ds => .ok (.lst (cutL ds lo hi))
  | .tup ds => .ok (.tup (cutL ds lo hi))
  | .str z => if z.length ≤ 1000000 then .ok (.str (cutS z lo hi)) else .bad
  | _ => .bad
def PostO (T : Tx) (A : Nat → Option Addr) (W : WishX) (F G : Hp) (σ : L2.St) (r : Res (Option Int × En)) (Q : Option Int → Hp → Prop) : Prop :=
  match r with
  | .ok (d, β') => ∀ G' H', Ex G G' → SI T A F G' H' σ β' → Q d H'
  | .exc c fs => PostX T W F G σ c fs
  | .bad => False
def tO (T : Tx) (W : WishX) (m : MM (Option Int)) : TO := fun σ H Q => ∃ A F G β, SI T A F G H σ β ∧ PostO T A W F G σ (m β) Q
abbrev MO (X : Cx) (T : Tx) (W : WishX) (e : Option Expr) (m : MM (Option Int)) : Prop := PO X e (tO T W m)
def noM : MM (Option Int) := fun β => .ok (none, β)
def soM (m : MM D) : MM (Option Int) := fun β => (m β).bind fun p => match p.1 with
  | .int i => .ok (some i, p.2)
  | _ => .bad
def slM (m : MM D) (lo hi : MM (Option Int)) : MM D := fun β => (m β).bind fun p => (lo p.2).bind fun q => (hi q.2).bind fun r => (cutD p.1 q.1 r.1).keep r.2
section
variable {X : Cx} {T : Tx} {W : WishX} {e : Expr} {m : MM D} {lo hi : Option Expr} {ml mh : MM (Option Int)} {p2 pos : Pos}
theorem po_imp {t t' : TO} (h : PO X lo t) (k : ∀ σ H Q, t' σ H Q → t σ H Q) : PO X lo t' := ⟨fun pins s σ H Q I z => h.run pins s σ H Q I (k σ H Q z)⟩
theorem mo_none : MO X T W none noM := po_imp po_none fun σ H Q ⟨A, F, G, β, s, p⟩ => p G H (Ex.refl _) s
theorem mo_some (h : ME X T W e m) : MO X T W (some e) (soM m) := by
  refine po_imp (po_some h) fun σ H Q ⟨A, F, G, β, s, p⟩ => ⟨A, F, G, β, s, ?_⟩
  unfold soM at p
  cases hm : m β with
  | ok q =>
    obtain ⟨d, β1⟩ := q
    rw [hm] at p
    intro v G1 H1 e1 s1 r1
    cases d with
    | int i => exact ⟨i, r1, p G1 H1 e1 s1⟩
    | _ => exact p.elim
  | exc c fs => rw [hm] at p; exact p
  | bad => rw [hm] at p; exact p
theorem cut_rep {G : Hp} {ds : List D} {vs : List V} (r : RepL T G ds vs) (lo hi : Option Int) : RepL T G (cutL ds lo hi) (cutV vs lo hi) := by
  have dr : ∀ {ds : List D} {vs : List V} (n : Nat), RepL T G ds vs → RepL T G (ds.drop n) (vs.drop n) := by
    intro ds
    induction ds with
    | nil => intro vs n r; rw [show vs = [] from r]; simp; rfl
    | cons d ds ih =>
      intro vs n r
      cases n with
      | zero => exact r
      | succ n => obtain ⟨v, t, rfl, r1, r2⟩ := r; exact ih n r2
  have tk : ∀ {ds : List D} {vs : List V} (n : Nat), RepL T G ds vs → RepL T G (ds.take n) (vs.take n) := by
    intro ds
    induction ds with
    | nil => intro vs n r; rw [show vs = [] from r]; simp; rfl
    | cons d ds ih =>
      intro vs n r
      cases n with
      | zero => simp; rfl
      | succ n => obtain ⟨v, t, rfl, r1, r2⟩ := r; exact ⟨v, _, rfl, r1, ih n r2⟩
  unfold cutL cutV
  rw [r.length]
  exact tk _ (dr _ r)
def rSlP (K : PySem.W.Frag) : V → Option Int → Option Int → Hp → VK → Prop := fun x lo hi H Q => ∃ a xs, x = .ref a ∧ SqT K H a xs ∧
  (HT.sIx xs.length 0 lo = 0 ∧ HT.sIx xs.length xs.length hi = xs.length → Q (.ref a) H) ∧ (¬ (HT.sIx xs.length 0 lo = 0 ∧ HT.sIx xs.length xs.length hi = xs.length) → ∀ p o, H p = none → o.dict = none → Q (.ref p) (upd H p (.frz o (.tup (cutV xs lo hi)))))
theorem sl_tupP : SlR X (rSlP X.K) := by
  intro pins s σ H x v vl vu lo hi sl Q I rx hs pl pu h
  obtain ⟨a, xs, rfl, hx, q1, q2⟩ := h
  cases rx
  obtain ⟨its, r, ht, hz⟩ := I.tuple hx
  have hlen : its.toArray.size = xs.length := by rw [List.size_toArray]; exact r.length.symm
  refine ⟨"tuple", _, PyProof.Rows.slot_tuple_getitem.lookup, ht.typeIs, ?_⟩
  by_cases hw : HT.sIx xs.length 0 lo = 0 ∧ HT.sIx xs.length xs.length hi = xs.length
  · exact getItem_tuple_whole ht hs pl pu (by rw [hlen]; exact hw) ⟨.ref a, H, I, rfl, q1 hw⟩
  · refine HT.getItem_tuple_cut ht hs pl pu (by rw [hlen]; exact hw) ?_ (by rw [hlen]; exact hz)
    rw [hlen]
    refine ⟨.ref s.heap.objs.size, upd H s.heap.objs.size (.frz { cls := .type "tuple", data := .seq ((its.drop (HT.sIx xs.length 0 lo)).take (HT.sIx xs.length xs.length hi - HT.sIx xs.length 0 lo)).toArray } (.tup (cutV xs lo hi))), I.laid (t' := s.toks) (fun b ob q => Heap.get?_push_of_some _ q) (Nat.le_refl _) ?_, rfl, q2 hw _ _ (I.hok.fresh (Nat.le_refl _)) rfl⟩
    exact ⟨Heap.get?_push_size _ rfl, Nat.le_trans (cutV_length xs lo hi) hz, _, (r.drop (HT.sIx xs.length 0 lo)).take (HT.sIx xs.length xs.length hi - HT.sIx xs.length 0 lo), ⟨_, Heap.get?_push_size _ rfl, rfl, _, rfl⟩⟩
theorem me_slice (hK : X.K = T.K) (he : ME X T W e m) (hl : MO X T W lo ml) (hh : MO X T W hi mh) : ME X T W (.Subscript e (.Slice lo hi none p2) pos) (slM m ml mh) := by
  obtain ⟨K, cl, xc⟩ := T
  cases hK
  refine pe_imp (pe_slice (SlR.or sl_list (SlR.or sl_tupP sl_str)) he hl hh) fun σ H Q ⟨A, F, G, β, s, p⟩ => ?_
  refine ⟨A, F, G, β, s, p.bindE fun d β1 v G1 H1 e1 s1 r1 p1 => ⟨A, F, G1, β1, s1, ?_⟩⟩
  dsimp only at p1
  cases h1 : ml β1 with
  | exc c fs => rw [h1] at p1; exact p1
  | bad => rw [h1] at p1; exact p1
  | ok q =>
    obtain ⟨l, β2⟩ := q
    rw [h1] at p1
    intro G2 H2 e2 s2
    refine ⟨A, F, G2, β2, s2, ?_⟩
    have p2 := PostE.mono e2 p1
    dsimp only [Res.bind_ok] at p2
    cases h2 : mh β2 with
    | exc c fs => rw [h2] at p2; exact p2
    | bad => rw [h2] at p2; exact p2
    | ok q2 =>
      obtain ⟨u, β3⟩ := q2
      rw [h2] at p2
      intro G3 H3 e3 s3
      have p3 := (PostE.mono e3 p2).prim s3
      have r3 := r1.mono (e2.trans e3)
      unfold cutD at p3
      cases d with
      | lst ds =>
        obtain ⟨a, xs, rfl, ha, rl⟩ := r3
        exact .inl ⟨a, xs, rfl, .inl (.inl (s3.gh _ _ ha)), fun p hp => p3.lst s3.gh (cut_rep rl l u) hp⟩
      | tup ds =>
        have r0 := r3
        obtain ⟨a, xs, rfl, ha, rl⟩ := r3
        refine .inr (.inl ⟨a, xs, rfl, ex_t s3.gh ha.sq, fun hw => ?_, fun hw p o hp ho => p3.tup ho s3.gh (cut_rep rl l u) hp⟩)
        have ec : cutL ds l u = ds := by
          unfold cutL
          rw [← rl.length, hw.1, hw.2]
          simp [rl.length]
        dsimp only at p3
        rw [ec] at p3
        exact p3 _ G3 H3 (Grow.refl s3.gh) r0
      | str z =>
        dsimp only at p3
        split at p3
        · rename_i hz
          exact .inr (.inr ⟨z, r3, sz_ok hz, p3 _ G3 H3 (Grow.refl s3.gh) rfl⟩)
        · exact p3.elim
      | _ => exact p3.elim
end
/-! ### f-strings -/
def fmtM (m : MM D) : MM D := fun β => (m β).bind fun p => match p.1 with
  | .str y => if y.length ≤ 1000000 then .ok (.str y, p.2) else .bad
  | .int i => if i.natAbs.log2 < 1920 then .ok (.str (Str.ofString (toString i)), p.2) else .bad
  | _ => .bad
def jsM : List (MM D) → Str → MM D
  | [], acc => fun β => .ok (.str acc, β)
  | m :: r, acc => fun β => (m β).bind fun p => match p.1 with
    | .str y => if (acc ++ y).length ≤ 1000000 then jsM r (acc ++ y) p.2 else .bad
    | _ => .bad
inductive MJ (X : Cx) (T : Tx) (W : WishX) : List Expr → List (MM D) → Prop where
  | nil : MJ X T W [] []
  | cons {e : Expr} {m : MM D} {es : List Expr} {ms : List (MM D)} (h : ME X T W e m) (r : MJ X T W es ms) : MJ X T W (e :: es) (m :: ms)
section
variable {X : Cx} {T : Tx} {W : WishX} {e v1 v2 : Expr} {m : MM D} {rest : List Expr} {ms : List (MM D)} {pos : Pos}
theorem me_fmt (he : ME X T W e m) : ME X T W (.FormattedValue e (-1) none pos) (fmtM m) := by
  refine pe_imp (pe_fmt he) fun σ H Q ⟨A, F, G, β, s, p⟩ => ?_
  refine ⟨A, F, G, β, s, p.bindE fun d β1 v G1 H1 e1 s1 r1 p1 => ?_⟩
  cases d with
  | str y =>
    dsimp only at p1
    split at p1
    · rename_i hz
      exact .inl ⟨y, r1, sz_ok hz, p1 _ G1 H1 (Ex.refl _) s1 rfl⟩
    · exact p1.elim
  | int i =>
    dsimp only at p1
    split at p1
    · rename_i hz
      exact .inr ⟨i, r1, hz, p1 _ G1 H1 (Ex.refl _) s1 rfl⟩
    · exact p1.elim
  | _ => exact p1.elim
theorem js_sound : ∀ {ms : List (MM D)} {acc : Str} {A : Nat → Option Addr} {F G H : Hp} {σ : L2.St} {β : En} {Q : VK}, SI T A F G H σ β → PostE T A W F G σ (jsM ms acc β) Q → tJs (ms.map (tM T W)) acc σ H fun out H1 => Q (.str out) H1
  | [], acc, A, F, G, H, σ, β, Q, s, p => p _ G H (Ex.refl _) s rfl
  | m :: ms, acc, A, F, G, H, σ, β, Q, s, p => by
    refine ⟨A, F, G, β, s, p.bindE fun d β1 v G1 H1 e1 s1 r1 p1 => ?_⟩
    cases d with
    | str y =>
      dsimp only at p1
      split at p1
      · rename_i hz
        exact ⟨y, r1, sz_ok hz, js_sound s1 p1⟩
      · exact p1.elim
    | _ => exact p1.elim
theorem MJ.pj : ∀ {es : List Expr} {ms : List (MM D)}, MJ X T W es ms → PJ X es (ms.map (tM T W))
  | _, _, .nil => .nil
  | _, _, .cons h r => .cons h r.pj
theorem me_joined (h : MJ X T W (v1 :: v2 :: rest) ms) : ME X T W (.JoinedStr (v1 :: v2 :: rest) pos) (jsM ms Str.empty) :=
  pe_imp (pe_joined h.pj) fun σ H Q ⟨A, F, G, β, s, p⟩ => js_sound s p
end
end Fw
end

section
set_option Elab.async false
set_option linter.all false
set_option maxRecDepth 100000
set_option maxHeartbeats 4000000
set_option autoImplicit false
/-! # what instances answer by their own methods -/
namespace Fw
open PySem PySem.Spec L2 Evl
theorem Rm.in1 {k : Nat} {A : Around} (r : Rm (k + 1) A) : Rm k A.in1 :=
  ⟨⟨r.r.hd, by have := r.r.dp; show A.depth + _ + _ < _; omega, by have := r.r.un; show A.units + 1 + 16 * k + 200 < _; omega⟩, r.g⟩
section
variable {X : Cx} {k : Nat} {f : Addr} {sp : Sp} {W : WX}
theorem run_in1 {pins : List (Addr × Obj)} {σ : L2.St} {H : Hp} {s : Shared} {Q : VK} {us : List Value} {vs : List V} (F : FnG X.prog X.w X.K X.mg X.base k f [] sp) (hr : Rm (k + 1) X.A) (tk : Takes X W)
    (I : Inv X pins σ H s) (r : Vals vs us) (h : sp vs H Q (WE W σ)) : wpAny (model X.prog X.w) X.A.in1 (call (.ref f) us) (EP X pins σ Q) X.xe s := by
  refine wpAny_call (codeAny_mono (F X.A.in1 X.stack s H us [] vs [] Q (WE W σ) hr.in1 I.env0.in1 r .nil rfl (by rw [List.append_nil]; exact h)) fun r s' hq => ?_)
  match r, hq with
  | .error e, hq => exact passAt tk σ pins H s e s' I hq
  | .ok (.ret u), hq => exact I.after hq
  | .ok .next, hq => exact hq
  | .ok .brk, hq => exact hq
  | .ok .cont, hq => exact hq
theorem inst_of {pins : List (Addr × Obj)} {σ : L2.St} {H : Hp} {s : Shared} {a C dx : Addr} {fs : List (Str × V)} (I : Inv X pins σ H s) (e : H a = some (.ins C dx fs)) : ∃ ox od, PySem.W.InstAt s.heap a ox C (some od) := by
  obtain ⟨mA, O, rr, _, _, _⟩ := ins_get I.hok e
  obtain ⟨od, J, hl⟩ := O.look
  exact ⟨_, od, J⟩
end
/-- data of the class c -/
def objOf (c : Str) : D → Option (List (Str × D))
  | .obj c' fs => if c' = c then some fs else none
  | _ => none
theorem objOf_rep {T : Tx} {G : Hp} {c : Str} {d : D} {v : V} {fs : List (Str × D)} {C : Addr} (hc : T.cl c = some C) (h : objOf c d = some fs) (r : Rep T G d v) : d = .obj c fs ∧ ∃ a dx ys, v = .ref a ∧ G a = some (.ins C dx ys) := by
  cases d with
  | obj c' fs' =>
    by_cases e : c' = c
    · rw [objOf, if_pos e] at h
      cases h
      subst e
      obtain ⟨a, A', dx, ys, ev, hc', ha, _⟩ := r
      rw [hc] at hc'
      cases hc'
      exact ⟨rfl, a, dx, ys, ev, ha⟩
    · rw [objOf, if_neg e] at h; cases h
  | _ => cases h
def dun1 (c : Str) (ok : D → Bool) (fm : List D → Res D) (m : MM D) : MM D := fun β => (m β).bind fun p => match objOf c p.1 with
  | some fs => (fm [.obj c fs]).bind fun d => if ok d = true then .ok (d, p.2) else .bad
  | none => .bad
def dun2 (c : Str) (ok : D → Bool) (fm : List D → Res D) (m1 m2 : MM D) : MM D := fun β => (m1 β).bind fun p => match objOf c p.1 with
  | some fs => (m2 p.2).bind fun q => (fm [.obj c fs, q.1]).bind fun d => if ok d = true then .ok (d, q.2) else .bad
  | none => .bad
/-- k in x: x is asked -/
def dunR (c : Str) (ok : D → Bool) (fm : List D → Res D) (m1 m2 : MM D) : MM D := fun β => (m1 β).bind fun p => (m2 p.2).bind fun q => match objOf c q.1 with
  | some fs => (fm [.obj c fs, p.1]).bind fun d => if ok d = true then .ok (d, q.2) else .bad
  | none => .bad
def okLen : D → Bool
  | .int n => decide (0 ≤ n ∧ n < 2 ^ 63)
  | _ => false
def okStr : D → Bool
  | .str _ => true
  | _ => false
def okBl : D → Bool
  | .bl _ => true
  | _ => false
def okAny : D → Bool := fun _ => true
section
variable {X : Cx} {T : Tx} {W : WishX} {k : Nat} {C g : Addr} {c : Str} {fm : List D → Res D} {e a b : Expr} {m m1 m2 : MM D} {p pos : Pos}
/-- the call's promise, from what is wished of its answer -/
theorem dun_sp {n : Nat} {A : Nat → Option Addr} {F G H : Hp} {σ : L2.St} {β : En} {Q : VK} {ok : D → Bool} {ds : List D} {vs : List V} (s : SI T A F G H σ β) (r : RepL T G ds vs) (hn : ds.length = n)
    (po : PostE T A W F G σ ((fm ds).bind fun d => if ok d = true then .ok (d, β) else .bad) Q) : spF T n fm vs H (fun v H' => ∃ d G', ok d = true ∧ Rep T G' d v ∧ Q v H') (WE W σ) := by
  refine ⟨by rw [r.length]; exact hn, G, ds, s.gg, r, ?_⟩
  cases hf : fm ds with
  | ok d =>
    rw [hf] at po
    dsimp only [Res.bind_ok] at po
    split at po
    · rename_i hk
      exact fun v G2 H2 gr rp => ⟨d, G2, hk, rp, po v G2 H2 gr.gg (s.grow gr) rp⟩
    · exact po.elim
  | exc c fs =>
    rw [hf] at po
    exact fun C dx ys G' H' hc gr hx rf => po C dx ys G' H' hc gr.gg gr.gh (s.fh.trans gr.hh) (s.dj.grow s.fh gr) hx rf
  | bad => rw [hf] at po; exact po.elim
theorem me_lenO (hc : T.cl c = some C) (M : Meth X.K C "__len__" g) (F : FnG X.prog X.w X.K X.mg X.base k g [] (spF T 1 fm)) (hr : Rm (k + 1) X.A) (tk : Takes X W) (hg : Gl X "len") (hm : X.mg "len" = none) (he : ME X T W e m) (hs : starEach [e] X.env = [(false, eval e X.env)] := by rfl) :
    ME X T W (.Call (.Name "len" p) [e] [] pos) (dun1 c okLen fm m) := by
  refine ⟨fun pins s σ H Q I ⟨A, F0, G, β, si, po⟩ => ?_⟩
  refine wpAny_Call_Name_kw (ld_blt I hg hm (show bootBuiltins "len" = some (.builtin "len") by decide +kernel) ?_ (by decide) (by decide))
  refine PyProof.Rows.callWith_builtin1 (thn ((pa_cons he pa_nil hs).run pos pins s σ H (fun vs H1 => match vs with
    | [v] => ∃ a dx fs, v = .ref a ∧ H1 a = some (.ins C dx fs) ∧ spF T 1 fm [v] H1 (fun v H' => ∃ d G', okLen d = true ∧ Rep T G' d v ∧ Q v H') (WE W σ)
    | _ => False) I ⟨A, F0, G, β, si, ?_⟩) fun us s1 ⟨vs, H1, I1, r1, q1⟩ => ?_) hs rfl
  · refine PostE.bindE po fun d β1 v G1 H1 e1 s1 r1 p1 => ?_
    cases ho : objOf c d with
    | none => dsimp only at p1; rw [ho] at p1; exact p1.elim
    | some fs =>
      dsimp only at p1
      rw [ho] at p1
      obtain ⟨rfl, a, dx, ys, rfl, ha⟩ := objOf_rep hc ho r1
      exact ⟨a, dx, ys, rfl, s1.gh _ _ ha, dun_sp s1 (ds := [.obj c fs]) ⟨_, _, rfl, r1, rfl⟩ rfl p1⟩
  · match vs, r1, q1 with
    | [v], .cons r .nil, q1' =>
      obtain ⟨a, dx, fs, ev, ha, sp⟩ := q1'
      subst ev
      cases r
      obtain ⟨ox, od, J⟩ := inst_of I1 ha
      obtain ⟨mm, fr⟩ := I1.fr
      refine PySem.W.len_K fr I1.ok.mod.kin J M.at_ M.fn (wpAny_mono (run_in1 (vs := [.ref a]) F hr tk I1 (.cons rfl .nil) sp) (fun u s2 hu => ?_) fun _ _ z => z)
      obtain ⟨v, H2, I2, rv, d, G', hd, rd, q⟩ := hu
      cases d with
      | int n =>
        have ev : v = .int n := rd
        subst ev
        obtain ⟨t, rfl⟩ := rv
        have hn := of_decide_eq_true hd
        exact ⟨hn, .int n, H2, I2.tok _, ⟨_, rfl⟩, q⟩
      | _ => cases hd
theorem me_reprO (hc : T.cl c = some C) (M : Meth X.K C "__repr__" g) (F : FnG X.prog X.w X.K X.mg X.base k g [] (spF T 1 fm)) (hr : Rm (k + 1) X.A) (tk : Takes X W) (hg : Gl X "repr") (hm : X.mg "repr" = none) (he : ME X T W e m) (hs : starEach [e] X.env = [(false, eval e X.env)] := by rfl) :
    ME X T W (.Call (.Name "repr" p) [e] [] pos) (dun1 c okStr fm m) := by
  refine ⟨fun pins s σ H Q I ⟨A, F0, G, β, si, po⟩ => ?_⟩
  refine wpAny_Call_Name_kw (ld_blt I hg hm (show bootBuiltins "repr" = some (.builtin "repr") by decide +kernel) ?_ (by decide) (by decide))
  refine PyProof.Rows.callWith_builtin1 (thn ((pa_cons he pa_nil hs).run pos pins s σ H (fun vs H1 => match vs with
    | [v] => ∃ a dx fs, v = .ref a ∧ H1 a = some (.ins C dx fs) ∧ spF T 1 fm [v] H1 (fun v H' => ∃ d G', okStr d = true ∧ Rep T G' d v ∧ Q v H') (WE W σ)
    | _ => False) I ⟨A, F0, G, β, si, ?_⟩) fun us s1 ⟨vs, H1, I1, r1, q1⟩ => ?_) hs rfl
  · refine PostE.bindE po fun d β1 v G1 H1 e1 s1 r1 p1 => ?_
    cases ho : objOf c d with
    | none => dsimp only at p1; rw [ho] at p1; exact p1.elim
    | some fs =>
      dsimp only at p1
      rw [ho] at p1
      obtain ⟨rfl, a, dx, ys, rfl, ha⟩ := objOf_rep hc ho r1
      exact ⟨a, dx, ys, rfl, s1.gh _ _ ha, dun_sp s1 (ds := [.obj c fs]) ⟨_, _, rfl, r1, rfl⟩ rfl p1⟩
  · match vs, r1, q1 with
    | [v], .cons r .nil, q1' =>
      obtain ⟨a, dx, fs, ev, ha, sp⟩ := q1'
      subst ev
      cases r
      obtain ⟨ox, od, J⟩ := inst_of I1 ha
      obtain ⟨mm, fr⟩ := I1.fr
      refine PySem.W.repr_K (by have := hr.in1.r.units; omega) fr I1.ok.mod.kin J M.at_ M.fn (wpAny_mono (run_in1 (vs := [.ref a]) F hr tk I1 (.cons rfl .nil) sp) (fun u s2 hu => ?_) fun _ _ z => z)
      obtain ⟨v, H2, I2, rv, d, G', hd, rd, q⟩ := hu
      cases d with
      | str x =>
        have ev : v = .str x := rd
        subst ev
        obtain ⟨t, rfl⟩ := rv
        exact ⟨.str x, H2, I2, ⟨_, rfl⟩, q⟩
      | _ => cases hd
/-- x[k] -/
theorem me_getO (hc : T.cl c = some C) (M : Meth X.K C "__getitem__" g) (hfn : PySem.W.fnIn X.K g = true) (F : FnG X.prog X.w X.K X.mg X.base k g [] (spF T 2 fm)) (hr : Rm (k + 1) X.A) (tk : Takes X W) (ha : ME X T W a m1) (hb : ME X T W b m2)
    (hsl : ∀ x i, subscripted b true (.ref x) i = runValue (.builtin "lifetime.subscript" ⟨[.ref x, i], []⟩) := by intro _ _; with_unfolding_all rfl) :
    ME X T W (.Subscript a b pos) (dun2 c okAny fm m1 m2) := by
  refine ⟨fun pins s σ H Q I ⟨A, F0, G, β, si, po⟩ => ?_⟩
  refine PyProof.Rows.Subscript_ (thn (ha.run pins s σ H (fun x H1 => ∃ y dx fs, x = .ref y ∧ H1 y = some (.ins C dx fs) ∧ tM T W m2 σ H1 fun z H2 => (∃ dx fs, H2 y = some (.ins C dx fs)) ∧ spF T 2 fm [.ref y, z] H2 (fun v H' => ∃ d G', okAny d = true ∧ Rep T G' d v ∧ Q v H') (WE W σ)) I ⟨A, F0, G, β, si, ?_⟩) fun u s1 ⟨x, H1, I1, r1, y, dx, fs, ex, hy, q1⟩ => ?_)
  · refine PostE.bindE po fun d β1 v G1 H1 e1 s1 r1 p1 => ?_
    cases ho : objOf c d with
    | none => dsimp only at p1; rw [ho] at p1; exact p1.elim
    | some fs =>
      dsimp only at p1
      rw [ho] at p1
      obtain ⟨rfl, y, dx, ys, rfl, hy⟩ := objOf_rep hc ho r1
      refine ⟨y, dx, ys, rfl, s1.gh _ _ hy, A, F0, G1, β1, s1, PostE.bindE p1 fun d2 β2 v2 G2 H2 e2 s2 r2 p2 => ⟨⟨dx, ys, s2.gh _ _ (e2 _ _ hy)⟩, dun_sp s2 (ds := [.obj c fs, d2]) ⟨_, _, rfl, r1.mono e2, _, _, rfl, r2, rfl⟩ rfl p2⟩⟩
  · subst ex
    cases r1
    refine thn (hb.run pins s1 σ H1 _ I1 q1) fun w s2 ⟨z, H2, I2, r2, ⟨dx2, fs2, hy2⟩, sp⟩ => ?_
    obtain ⟨ox, od, J⟩ := inst_of I2 hy2
    obtain ⟨mm, fr⟩ := I2.fr
    refine PySem.W.sub_K fr I2.ok.mod.kin J M.at_ hfn M.fn (wpAny_mono (run_in1 (vs := [.ref y, z]) F hr tk I2 (.cons rfl (.cons r2 .nil)) sp) (fun u s3 ⟨v, H3, I3, rv, d, G', hd, rd, q⟩ => ⟨v, H3, I3, rv, q⟩) fun _ _ z => z) (hsl _ _)
/-- k in x, k not in x -/
theorem pc_inO (hc : T.cl c = some C) (M : Meth X.K C "__contains__" g) (F : FnG X.prog X.w X.K X.mg X.base k g [] (spF T 2 fm)) (hr : Rm (k + 1) X.A) (tk : Takes X W) (ha : ME X T W a m1) (hb : ME X T W b m2) : PC X .In a b (tM T W (dunR c okBl fm m1 m2)) := by
  refine ⟨fun pins s σ H Q I ⟨A, F0, G, β, si, po⟩ => ?_⟩
  refine thn (ha.run pins s σ H (fun z H1 => tM T W m2 σ H1 fun x H2 => ∃ y dx fs, x = .ref y ∧ H2 y = some (.ins C dx fs) ∧ spF T 2 fm [.ref y, z] H2 (fun v H' => ∃ d G', okBl d = true ∧ Rep T G' d v ∧ Q v H') (WE W σ)) I ⟨A, F0, G, β, si, ?_⟩) fun u s1 ⟨z, H1, I1, r1, q1⟩ => thn (hb.run pins s1 σ H1 _ I1 q1) fun w s2 ⟨x, H2, I2, r2, y, dx, fs, ex, hy, sp⟩ => ?_
  · refine PostE.bindE po fun d β1 v G1 H1 e1 s1 r1 p1 => ⟨A, F0, G1, β1, s1, PostE.bindE p1 fun d2 β2 v2 G2 H2 e2 s2 r2 p2 => ?_⟩
    cases ho : objOf c d2 with
    | none => dsimp only at p2; rw [ho] at p2; exact p2.elim
    | some fs =>
      dsimp only at p2
      rw [ho] at p2
      obtain ⟨rfl, y, dx, ys, rfl, hy⟩ := objOf_rep hc ho r2
      exact ⟨y, dx, ys, rfl, s2.gh _ _ hy, dun_sp s2 (ds := [.obj c fs, d]) ⟨_, _, rfl, r2, _, _, rfl, r1.mono e2, rfl⟩ rfl p2⟩
  · subst ex
    cases r2
    obtain ⟨ox, od, J⟩ := inst_of I2 hy
    obtain ⟨mm, fr⟩ := I2.fr
    refine PySem.W.in_K fr I2.ok.mod.kin J M.at_ M.fn (wpAny_mono (run_G0 (vs := [.ref y, z]) F (hr.mono (Nat.le_succ _)) tk I2 (.cons rfl (.cons r1 .nil)) sp) (fun u s3 ⟨v, H3, I3, rv, d, G', hd, rd, q⟩ => ?_) fun _ _ z => z)
    cases d with
    | bl kk =>
      have ev : v = .bl kk := rd
      subst ev
      cases rv
      exact wpAny_truthy_bool ⟨.bl kk, H3, I3, rfl, q⟩
    | _ => cases hd
theorem me_inO (hc : T.cl c = some C) (M : Meth X.K C "__contains__" g) (F : FnG X.prog X.w X.K X.mg X.base k g [] (spF T 2 fm)) (hr : Rm (k + 1) X.A) (tk : Takes X W) (ha : ME X T W a m1) (hb : ME X T W b m2) (hm : behindInMarks .In b = false := by rfl) :
    ME X T W (.Compare a [.In] [b] pos) (dunR c okBl fm m1 m2) := pe_cmp (pc_inO hc M F hr tk ha hb) hm
theorem mt_inO (hc : T.cl c = some C) (M : Meth X.K C "__contains__" g) (F : FnG X.prog X.w X.K X.mg X.base k g [] (spF T 2 fm)) (hr : Rm (k + 1) X.A) (tk : Takes X W) (ha : ME X T W a m1) (hb : ME X T W b m2) (hm : behindInMarks .In b = false := by rfl) :
    MT X T W (.Compare a [.In] [b] pos) (truthM (dunR c okBl fm m1 m2)) := pt_imp (pt_cmp (pc_inO hc M F hr tk ha hb) hm) fun σ H Q h => tB_of h
end
end Fw
end

section
set_option Elab.async false
set_option linter.all false
set_option maxRecDepth 100000
set_option maxHeartbeats 4000000
set_option autoImplicit false
/-! # comparisons and operators by own methods -/
namespace Fw
open PySem PySem.Spec L2 Evl
/-- no other type is a class of the text -/
structure SubOk (T : Tx) : Prop where
  st : ∀ c C b, T.cl c = some C → b ∈ ["NoneType", "bool", "int", "str", "tuple", "list", "dict"] → PySem.W.subIn T.K (.type b) (.ref C) = some false
  sc : ∀ c C c' C', T.cl c = some C → T.cl c' = some C' → c' ≠ c → PySem.W.subIn T.K (.ref C') (.ref C) = some false
section
variable {X : Cx} {T : Tx} {W : WishX} {k : Nat} {C g : Addr} {c : Str} {fm : List D → Res D} {a b : Expr} {m1 m2 : MM D} {pos : Pos}
theorem notFirst_of (S : SubOk T) (hc : T.cl c = some C) {d : D} {v : V} {t : Value} {G H : Hp} (h : (∃ t', tyOf d = some t' ∧ t = .type t') ∨ ∃ c' fs A, d = .obj c' fs ∧ T.cl c' = some A ∧ t = .ref A) : PySem.W.notFirst T.K C t = true := by
  unfold PySem.W.notFirst
  rcases h with ⟨t', ht, rfl⟩ | ⟨c', fs, A, rfl, hA, rfl⟩
  · rw [S.st c C t' hc (tyOf_mem ht)]
    simp
  · by_cases e : c' = c
    · subst e
      rw [hc] at hA
      cases hA
      simp
    · rw [S.sc c C c' A hc hA e]
      simp
theorem tyR {T : Tx} (CO : ClsOk T) {G H : Hp} (eg : Ex G H) {d : D} {v : V} (r : Rep T G d v) : ∃ t, TyX T.K H v t ∧ ((∃ t', tyOf d = some t' ∧ t = .type t') ∨ ∃ c' fs A, d = .obj c' fs ∧ T.cl c' = some A ∧ t = .ref A) := by
  rcases r.tyX CO eg with ⟨t, ht, tx⟩ | ⟨c', fs, A, hd, hA, tx⟩
  · exact ⟨_, tx, .inl ⟨t, ht, rfl⟩⟩
  · exact ⟨_, tx, .inr ⟨c', fs, A, hd, hA, rfl⟩⟩
/-- x op y, x an instance -/
theorem pc_cmpO {op : CmpOp} (hop : ∀ (v u : Value), compareOp op v u = richCompare op v u) (hK : X.K = T.K) (CO : ClsOk T) (S : SubOk T) (hc : T.cl c = some C) (M : Meth X.K C (cmpInfo op).2.1 g) (F : FnG X.prog X.w X.K X.mg X.base k g [] (spF T 2 fm)) (hr : Rm k X.A) (tk : Takes X W) (ha : ME X T W a m1) (hb : ME X T W b m2) :
    PC X op a b (tM T W (dun2 c okBl fm m1 m2)) := by
  refine ⟨fun pins s σ H Q I ⟨A, F0, G, β, si, po⟩ => ?_⟩
  refine thn (ha.run pins s σ H (fun x H1 => ∃ y, x = .ref y ∧ tM T W m2 σ H1 fun z H2 => (∃ dx fs, H2 y = some (.ins C dx fs)) ∧ (∃ t, TyX T.K H2 z t ∧ PySem.W.notFirst T.K C t = true) ∧ spF T 2 fm [.ref y, z] H2 (fun v H' => ∃ d G', okBl d = true ∧ Rep T G' d v ∧ Q v H') (WE W σ)) I ⟨A, F0, G, β, si, ?_⟩) fun u s1 ⟨x, H1, I1, r1, y, ex, q1⟩ => ?_
  · refine PostE.bindE po fun d β1 v G1 H1 e1 s1 r1 p1 => ?_
    cases ho : objOf c d with
    | none => dsimp only at p1; rw [ho] at p1; exact p1.elim
    | some fs =>
      dsimp only at p1
      rw [ho] at p1
      obtain ⟨rfl, y, dx, ys, rfl, hy⟩ := objOf_rep hc ho r1
      refine ⟨y, rfl, A, F0, G1, β1, s1, PostE.bindE p1 fun d2 β2 v2 G2 H2 e2 s2 r2 p2 => ⟨⟨dx, ys, s2.gh _ _ (e2 _ _ hy)⟩, ?_, dun_sp s2 (ds := [.obj c fs, d2]) ⟨_, _, rfl, r1.mono e2, _, _, rfl, r2, rfl⟩ rfl p2⟩⟩
      obtain ⟨t, tx, ht⟩ := tyR CO s2.gh r2
      exact ⟨t, tx, notFirst_of (G := G2) (H := H2) (v := v2) S hc ht⟩
  · subst ex
    cases r1
    refine thn (hb.run pins s1 σ H1 _ I1 q1) fun w s2 ⟨z, H2, I2, r2, ⟨dx, fs, hy⟩, ⟨t, tx, hn⟩, sp⟩ => ?_
    obtain ⟨ox, od, J⟩ := inst_of I2 hy
    obtain ⟨mm, fr⟩ := I2.fr
    rw [← hK] at tx hn
    obtain ⟨P, Z, hp, _⟩ := kit_of I2 r2 tx
    rw [hop]
    refine PySem.W.cmp_K (hr.r.units0) fr I2.ok.mod.kin J (Z.ty _ _ I2.kIn hp) hn M.at_ M.fn (wpAny_mono (run_G0 (vs := [.ref y, z]) F hr tk I2 (.cons rfl (.cons r2 .nil)) sp) (fun u s3 ⟨v, H3, I3, rv, d, G', hd, rd, q⟩ => ?_) fun _ _ z => z)
    cases d with
    | bl kk =>
      have ev : v = .bl kk := rd
      subst ev
      cases rv
      exact ⟨.bl kk, H3, I3, rfl, q⟩
    | _ => cases hd
end
end Fw
end

section
set_option Elab.async false
set_option linter.all false
set_option maxRecDepth 100000
set_option maxHeartbeats 4000000
set_option autoImplicit false
/-! # x != y where the class has its own __eq__ alone -/
namespace Fw
open PySem PySem.W PySem.Spec PySem.Calls PyProof.Rows Builtin
section
variable {prog : Program} {w : World} {A : Around} {E : Value → Shared → Prop} {s : Shared} {K : Frag} {x C f : Addr} {ox : Obj} {od : Option Obj} {b tb : Value}
def NeBack (Q : Value → Shared → Prop) (v : Value) (s' : Shared) : Prop := match v with
  | .bool k => Q (.bool (!k)) s'
  | _ => False
theorem ifBound_B {M : Model} {name : Str} {id : String} {args : List Value} {Q : Option Value → Shared → Prop} (X : K.In s.heap) (I : InstAt s.heap x ox C od) (hs : findIn K (.ref C) name = some (some (.builtin id))) (hb : ∀ self, bindSpecial (.builtin id) self = pure (.builtin id, [self]))
    (h : wpAny M A (call (.builtin id) (.ref x :: args)) (fun v => Q (some v)) E s) : wpAny M A (callSpecialIfBound? (.ref x) name args) Q E s := by
  simp only [callSpecialIfBound?, bindSpecialIfBound?]
  refine wpAny_holding (wpAny_bind (wpAny_bind (wpAny_bind (I.type.here ((looks_findIn X hs).here ?_)))))
  refine wpAny_bind (wpAny_askSetting (wpAny_ite ?_))
  have fin : wpAny M A (call (.builtin id) ([.ref x] ++ args) >>= fun v => pure (some v)) Q E s := wpAny_bind (wpAny_mono h (fun v s' h' => wpAny_pure h') fun _ _ h' => h')
  split
  · exact wpAny_bind ((Looks.of_pure (hb _)).here (wpAny_pure (by exact fin)))
  · exact wpAny_tryCatch (wpAny_bind ((Looks.of_pure (hb _)).here (wpAny_pure (by exact fin))))
theorem one_ne {Q : Value → Shared → Prop} (hu : A.in1.units < cLine) (X : K.In s.heap) (I : InstAt s.heap x ox C od) (hm : mroIn K C (.type "object") = some true) (he : findIn K (.ref C) "__eq__" = some (some (.ref f))) (hf : isFn K (.ref f) = true)
    (h : wpAny (model prog w) A.in1 (call (.ref f) [.ref x, b]) (NeBack Q) E s) : wpAny (model prog w) A (call (.builtin "object.__ne__") [.ref x, b]) Q E s := by
  have L : Looks (model prog w) s.heap (isInstance (.ref x) (.type "object")) true := I.type.andThen (looks_mroIn X hm)
  refine wpAny_call (codeAny_call_builtin PySem.F.cmp_object.ne.plain PySem.F.cmpEntry_ne ?_)
  refine @check_slot (model prog w) _ _ s "object.__ne__" "object" "__ne__" (.ref x) [b] [] _ PySem.F.cmpKind_ne PySem.F.cmpSplit_ne L (PySem.F.cmpArgs_ne _ _) ?_
  unfold Builtin.«object.__ne__»
  refine wpAny_bind (wpAny_of_eq (a := ((Value.ref x : Value), [b])) (by first | rfl | (simp only [slotArgs]; rfl)) ?_)
  refine wpAny_bind (wpAny_cRoomFor hu ?_)
  refine wpAny_bind (ifBound_K X I he hf (wpAny_mono h (fun v s' hv => ?_) fun _ _ e => e))
  cases v <;> first | exact hv.elim | skip
  exact wpAny_bind (wpAny_truthy_bool (wpAny_pure hv))
theorem cmp_ne {L : Addr} {h₀ : Heap} {m : Str → Option Value} {Q : Value → Shared → Prop} (hu : A.units < cLine) (hu1 : A.in1.units < cLine) (F : Fr h₀ L s.heap m) (X₀ : K.In h₀) (I : InstAt s.heap x ox C od) (hb : Looks (model prog w) s.heap (typeOf b) tb) (hn : notFirst K C tb = true)
    (hs : findIn K (.ref C) "__ne__" = some (some (.builtin "object.__ne__"))) (hm : mroIn K C (.type "object") = some true) (he : findIn K (.ref C) "__eq__" = some (some (.ref f))) (hf : isFn K (.ref f) = true)
    (h : wpAny (model prog w) A.in1 (call (.ref f) [.ref x, b]) (NeBack Q) E s) : wpAny (model prog w) A (richCompare .NotEq (.ref x) b) Q E s := by
  have X := X₀.keeps F.keep
  have one : wpAny (model prog w) A (tryCompare (.ref x) (cmpInfo .NotEq).2.1 b) (fun r s' => ∃ v, r = some v ∧ Q v s') E s := by
    unfold tryCompare
    refine wpAny_bind (ifBound_B X I hs (fun self => PySem.F.cmp_object.ne.bind self) (one_ne hu1 X I hm he hf (wpAny_mono h (fun v s' hv => ?_) fun _ _ e => e)))
    cases v <;> first | exact hv.elim | exact wpAny_pure ⟨_, rfl, hv⟩
  unfold richCompare
  simp only [oneThing_ref]
  refine wpAny_holding (wpAny_bind (wpAny_cRoomFor hu ?_))
  refine wpAny_bind (I.type.here (wpAny_bind (hb.here ?_)))
  split
  · rename_i q
    have e : subIn K tb (.ref C) = some false := by
      rcases Bool.or_eq_true_iff.mp hn with e | e
      · rw [beq_iff_eq.mp e] at q; simp at q
      · exact beq_iff_eq.mp e
    refine wpAny_bind ((looks_subIn X e).here ?_)
    simp only [Bool.false_eq_true, if_false]
    refine wpAny_bind (wpAny_mono one (fun r s' z => ?_) fun _ _ e => e)
    obtain ⟨v, rfl, hq⟩ := z
    exact wpAny_pure hq
  · refine wpAny_bind (wpAny_pure ?_)
    simp only [Bool.false_eq_true, if_false]
    refine wpAny_bind (wpAny_mono one (fun r s' z => ?_) fun _ _ e => e)
    obtain ⟨v, rfl, hq⟩ := z
    exact wpAny_pure hq
end
end Fw
namespace Fw
open PySem PySem.Spec L2 Evl
def notBl : D → D
  | .bl k => .bl (!k)
  | d => d
/-- x != y by __eq__ -/
def neO (c : Str) (fm : List D → Res D) (m1 m2 : MM D) : MM D := fun β => (dun2 c okBl fm m1 m2 β).bind fun p => .ok (notBl p.1, p.2)
section
variable {X : Cx} {T : Tx} {W : WishX} {k : Nat} {C g : Addr} {c : Str} {fm : List D → Res D} {a b : Expr} {m1 m2 : MM D} {pos : Pos}
theorem pc_neO (hK : X.K = T.K) (CO : ClsOk T) (S : SubOk T) (hc : T.cl c = some C) (M : Meth X.K C "__eq__" g) (hne : PySem.W.findIn X.K (.ref C) "__ne__" = some (some (.builtin "object.__ne__"))) (F : FnG X.prog X.w X.K X.mg X.base k g [] (spF T 2 fm)) (hr : Rm (k + 1) X.A) (tk : Takes X W) (ha : ME X T W a m1) (hb : ME X T W b m2) :
    PC X .NotEq a b (tM T W (neO c fm m1 m2)) := by
  refine ⟨fun pins s σ H Q I ⟨A, F0, G, β, si, po⟩ => ?_⟩
  refine thn (ha.run pins s σ H (fun x H1 => ∃ y, x = .ref y ∧ tM T W m2 σ H1 fun z H2 => (∃ dx fs, H2 y = some (.ins C dx fs)) ∧ (∃ t, TyX T.K H2 z t ∧ PySem.W.notFirst T.K C t = true) ∧ spF T 2 fm [.ref y, z] H2 (fun v H' => ∃ d G', okBl d = true ∧ Rep T G' d v ∧ ∃ kk, v = .bl kk ∧ Q (.bl (!kk)) H') (WE W σ)) I ⟨A, F0, G, β, si, ?_⟩) fun u s1 ⟨x, H1, I1, r1, y, ex, q1⟩ => ?_
  · unfold neO dun2 at po
    cases h1 : m1 β with
    | exc c2 fs => rw [h1] at po; exact po
    | bad => rw [h1] at po; exact po
    | ok q =>
      obtain ⟨d, β1⟩ := q
      rw [h1] at po
      intro v G1 H1 e1 s1 r1
      have p1 := PostE.mono e1 po
      dsimp only [Res.bind_ok] at p1
      cases ho : objOf c d with
      | none => rw [ho] at p1; exact p1.elim
      | some fs =>
        rw [ho] at p1
        obtain ⟨rfl, y, dx, ys, rfl, hy⟩ := objOf_rep hc ho r1
        refine ⟨y, rfl, A, F0, G1, β1, s1, ?_⟩
        dsimp only at p1
        cases h2 : m2 β1 with
        | exc c2 fs => rw [h2] at p1; exact p1
        | bad => rw [h2] at p1; exact p1
        | ok q2 =>
          obtain ⟨d2, β2⟩ := q2
          rw [h2] at p1
          intro v2 G2 H2 e2 s2 r2
          have p2 := PostE.mono e2 p1
          dsimp only [Res.bind_ok] at p2
          obtain ⟨t, tx, ht⟩ := tyR CO s2.gh r2
          refine ⟨⟨dx, ys, s2.gh _ _ (e2 _ _ hy)⟩, ⟨t, tx, notFirst_of (G := G2) (H := H2) (v := v2) S hc ht⟩, dun_sp (Q := fun v H' => ∃ kk, v = .bl kk ∧ Q (.bl (!kk)) H') s2 (ds := [.obj c fs, d2]) ⟨_, _, rfl, r1.mono e2, _, _, rfl, r2, rfl⟩ rfl ?_⟩
          cases hf : fm [.obj c fs, d2] with
          | exc c2 fs2 => rw [hf] at p2; exact p2
          | bad => rw [hf] at p2; exact p2
          | ok d3 =>
            rw [hf] at p2
            dsimp only [Res.bind_ok] at p2 ⊢
            split at p2
            · rename_i hk
              rw [if_pos hk]
              intro v3 G3 H3 e3 s3 r3
              cases d3 with
              | bl kk =>
                have ev : v3 = .bl kk := r3
                exact ⟨kk, ev, p2 _ G3 H3 e3 s3 rfl⟩
              | _ => cases hk
            · exact p2.elim
  · subst ex
    cases r1
    refine thn (hb.run pins s1 σ H1 _ I1 q1) fun w s2 ⟨z, H2, I2, r2, ⟨dx, fs, hy⟩, ⟨t, tx, hn⟩, sp⟩ => ?_
    obtain ⟨ox, od, J⟩ := inst_of I2 hy
    obtain ⟨mm, fr⟩ := I2.fr
    have hm := (CO.cls c C hc).2.2
    rw [← hK] at tx hn hm
    obtain ⟨P, Z, hp, _⟩ := kit_of I2 r2 tx
    show wpAny _ _ (richCompare .NotEq _ _) _ _ _
    refine cmp_ne (hr.r.units0) (hr.in1.r.units0) fr I2.ok.mod.kin J (Z.ty _ _ I2.kIn hp) hn hne hm M.at_ M.fn (wpAny_mono (run_in1 (vs := [.ref y, z]) F hr tk I2 (.cons rfl (.cons r2 .nil)) sp) (fun u s3 ⟨v, H3, I3, rv, d, G', hd, rd, kk, ev, q⟩ => ?_) fun _ _ z => z)
    subst ev
    cases rv
    exact ⟨.bl (!kk), H3, I3, rfl, q⟩
end
end Fw
end

section
set_option Elab.async false
set_option linter.all false
set_option maxRecDepth 100000
set_option maxHeartbeats 4000000
set_option autoImplicit false
/-! # str(x) by an own __str__ -/
namespace Fw
open PySem PySem.W PySem.Spec PySem.Calls PyProof.Rows
section
variable {prog : Program} {w : World} {A : Around} {E : Value → Shared → Prop} {s : Shared} {K : Frag} {x C f : Addr} {ox : Obj} {od : Option Obj}
theorem call_str_own {Q : Value → Shared → Prop} (hu : A.in1.in1.units < cLine) (X : K.In s.heap) (I : InstAt s.heap x ox C od) (hs : findIn K (.ref C) "__str__" = some (some (.ref f))) (hf : isFn K (.ref f) = true)
    (h : wpAny (model prog w) A.in1.in1 (call (.ref f) [.ref x]) (StrBack Q) E s) : wpAny (model prog w) A (call (.type "str") [.ref x]) Q E s := by
  refine callType_codes (T := "str") (Bi := Builtin.«object.__init__») (Q₁ := fun r s₁ => ∃ y u, r = .str y u ∧ Q r s₁) PySem.F.called_str (PySem.F.typeCall_str_1 _) PySem.F.entry_object_init ?_ ?_
  · refine codeAny_of_tree ?_
    show wpAny _ A.in1.in1 (do checkBuiltinCall "str.__new__" ⟨[.type "str", .ref x], []⟩; again (.builtin "str.__new__" ⟨[.type "str", .ref x], []⟩)) _ _ s
    refine wpAny_bind (wpAny_of_eq (PySem.F.newCall_str_1 _) (wpAny_pure ⟨plainId_quiet (by decide +kernel) _, codeAny_builtin PySem.F.entry_str_new ?_⟩))
    rw [Around.under_plainId (by decide +kernel) _]
    rw [str_new_tree]
    refine wpAny_bind (wpAny_pure ?_)
    refine wpAny_bind (wpAny_of_eq isSubtype_str_str ?_)
    have key : wpAny (model prog w) A.in1.in1 (PySem.Builtin.Str.strOf (.ref x)) (fun r s₁ => ∃ y u, r = .str y u ∧ Q r s₁) E s := by
      unfold PySem.Builtin.Str.strOf
      rw [show PySem.Builtin.Str.isExactStr (.ref x) = false from rfl]
      refine wpAny_bind (m := cRoomFor _ _) (wpAny_cRoomFor hu ?_)
      refine wpAny_bind (m := callSpecial? (.ref x) (Str.ofString "__str__")) (special_fn X I hs (beq_iff_eq.mp hf) (wpAny_mono h (fun r s' z => ?_) fun _ _ y => y))
      cases r <;> first | exact z.elim | exact wpAny_pure ⟨_, _, rfl, z⟩
    exact wpAny_bind (wpAny_mono key (fun r s₁ hr => wpAny_pure hr) fun _ _ y => y)
  · rintro obj s₁ ⟨y, u, rfl, hq⟩
    exact ⟨typeIs_str _ _ _, PySem.F.args_object_init_2 _ _, object_init_meets PySem.F.called_str.init.lookup PySem.F.called_str.made (by decide) prog w A.in1 _ s₁ ⟨typeIs_str _ _ _, rfl, hq⟩⟩
end
end Fw
namespace Fw
open PySem PySem.Spec L2 Evl
section
variable {X : Cx} {T : Tx} {W : WishX} {k : Nat} {C g : Addr} {c : Str} {fm : List D → Res D} {e : Expr} {m : MM D} {p pos : Pos}
theorem run_in2 {f : Addr} {sp : Sp} {W : WX} {pins : List (Addr × Obj)} {σ : L2.St} {H : Hp} {s : Shared} {Q : VK} {us : List Value} {vs : List V} (F : FnG X.prog X.w X.K X.mg X.base k f [] sp) (hr : Rm (k + 2) X.A) (tk : Takes X W)
    (I : Inv X pins σ H s) (r : Vals vs us) (h : sp vs H Q (WE W σ)) : wpAny (model X.prog X.w) X.A.in1.in1 (call (.ref f) us) (EP X pins σ Q) X.xe s := by
  refine wpAny_call (codeAny_mono (F X.A.in1.in1 X.stack s H us [] vs [] Q (WE W σ) (Rm.in1 (Rm.in1 hr)) I.env0.in1.in1 r .nil rfl (by rw [List.append_nil]; exact h)) fun r s' hq => ?_)
  match r, hq with
  | .error e, hq => exact passAt tk σ pins H s e s' I hq
  | .ok (.ret u), hq => exact I.after hq
  | .ok .next, hq => exact hq
  | .ok .brk, hq => exact hq
  | .ok .cont, hq => exact hq
theorem me_strO (hc : T.cl c = some C) (M : Meth X.K C "__str__" g) (F : FnG X.prog X.w X.K X.mg X.base k g [] (spF T 1 fm)) (hr : Rm (k + 2) X.A) (tk : Takes X W) (hg : Gl X "str") (hm : X.mg "str" = none) (he : ME X T W e m) (hs : starEach [e] X.env = [(false, eval e X.env)] := by rfl) :
    ME X T W (.Call (.Name "str" p) [e] [] pos) (dun1 c okStr fm m) := by
  refine ⟨fun pins s σ H Q I ⟨A, F0, G, β, si, po⟩ => ?_⟩
  refine wpAny_Call_Name_kw (ld_blt I hg hm (show bootBuiltins "str" = some (.type "str") by decide +kernel) ?_ (by decide) (by decide))
  refine PyProof.Rows.callWith_type1 (thn ((pa_cons he pa_nil hs).run pos pins s σ H (fun vs H1 => match vs with
    | [v] => ∃ a dx fs, v = .ref a ∧ H1 a = some (.ins C dx fs) ∧ spF T 1 fm [v] H1 (fun v H' => ∃ d G', okStr d = true ∧ Rep T G' d v ∧ Q v H') (WE W σ)
    | _ => False) I ⟨A, F0, G, β, si, ?_⟩) fun us s1 ⟨vs, H1, I1, r1, q1⟩ => ?_) hs rfl
  · refine PostE.bindE po fun d β1 v G1 H1 e1 s1 r1 p1 => ?_
    cases ho : objOf c d with
    | none => dsimp only at p1; rw [ho] at p1; exact p1.elim
    | some fs =>
      dsimp only at p1
      rw [ho] at p1
      obtain ⟨rfl, a, dx, ys, rfl, ha⟩ := objOf_rep hc ho r1
      exact ⟨a, dx, ys, rfl, s1.gh _ _ ha, dun_sp s1 (ds := [.obj c fs]) ⟨_, _, rfl, r1, rfl⟩ rfl p1⟩
  · match vs, r1, q1 with
    | [v], .cons r .nil, q1' =>
      obtain ⟨a, dx, fs, ev, ha, sp⟩ := q1'
      subst ev
      cases r
      obtain ⟨ox, od, J⟩ := inst_of I1 ha
      refine call_str_own (by have := (Rm.in1 (Rm.in1 hr)).r.units; omega) I1.kIn J M.at_ M.fn (wpAny_mono (run_in2 (vs := [.ref a]) F hr tk I1 (.cons rfl .nil) sp) (fun u s2 hu => ?_) fun _ _ z => z)
      obtain ⟨v, H2, I2, rv, d, G', hd, rd, q⟩ := hu
      cases d with
      | str x =>
        have ev : v = .str x := rd
        subst ev
        obtain ⟨t, rfl⟩ := rv
        exact ⟨.str x, H2, I2, ⟨_, rfl⟩, q⟩
      | _ => cases hd
end
end Fw
end

section
set_option Elab.async false
set_option linter.all false
set_option maxRecDepth 100000
set_option maxHeartbeats 4000000
set_option autoImplicit false
/-! # a lambda without parameters, handed to a def that calls it -/
namespace Fw
open PySem PySem.Spec L2 Evl PyProof.Rows
section
variable {X : Cx} {pins : List (Addr × Obj)} {σ : L2.St} {H : Hp} {s : Shared} {T : Tx}
/-- a table grows by a code object that is new -/
theorem grow_tab {G : Hp} {P c : Addr} {q : Str} {ps more : Array Value} (gh : Ex G H) (gP : G P = none) (hP : H P = some (.tbl ps)) (nC : H c = none) (hu : ∀ p ∈ T.tabs, p.1 = P → p.2 = q)
    (ok : TriplesOk (ps ++ more).toList) (am : ∀ (pos : Pos) (cv : Value), codeAmong pos (ps ++ more).toList = some cv → codeAmong pos ps.toList = some cv ∨ cv = .ref c) :
    Grow T G H G (upd (upd H P (.tbl (ps ++ more))) c (LamX.CodeO c q)) := by
  have nPc : P ≠ c := ne_of_none hP nC
  have gC : G c = none := fresh_back gh nC
  have at_ : ∀ b, b ≠ P → b ≠ c → upd (upd H P (.tbl (ps ++ more))) c (LamX.CodeO c q) b = H b := fun b h1 h2 => by rw [upd_ne h2, upd_ne h1]
  have atP : upd (upd H P (.tbl (ps ++ more))) c (LamX.CodeO c q) P = some (.tbl (ps ++ more)) := by rw [upd_ne nPc, upd_same]
  have atC : upd (upd H P (.tbl (ps ++ more))) c (LamX.CodeO c q) c = some (LamX.CodeO c q) := upd_same
  have hh : Ex H (upd (upd H P (.tbl (ps ++ more))) c (LamX.CodeO c q)) := ⟨fun a o h n => by
      rw [at_ a (fun z => by subst z; rw [hP] at h; cases h; exact n _ rfl) (ne_of_none h nC)]
      exact h, fun a o h => by
      by_cases z : a = P
      · subst z
        exact ⟨_, atP⟩
      · rw [at_ a z (ne_of_none h nC)]
        exact ⟨_, h⟩⟩
  refine ⟨Ex.refl _, gh.trans hh, hh, fun _ _ z => z, fun t p hp => ?_⟩
  have offn : ∀ b, G b = none → off G (upd (upd H P (.tbl (ps ++ more))) c (LamX.CodeO c q)) b = upd (upd H P (.tbl (ps ++ more))) c (LamX.CodeO c q) b := fun b h => off_at h
  have kp : ∀ b o, off G H b = some o → b ≠ P → off G (upd (upd H P (.tbl (ps ++ more))) c (LamX.CodeO c q)) b = some o := fun b o h z => by
    have h1 := off_subE b o h
    have h2 := off_dj b (by rw [h]; exact fun z => nomatch z)
    rw [offn b h2, at_ b z (ne_of_none h1 nC)]
    exact h1
  have kc : ∀ c0 q0, off G H c0 = some (LamX.CodeO c0 q0) → off G (upd (upd H P (.tbl (ps ++ more))) c (LamX.CodeO c q)) c0 = some (LamX.CodeO c0 q0) := fun c0 q0 h => kp c0 _ h fun z => by
    have h1 := off_subE _ _ h
    subst z
    rw [hP] at h1
    exact LamX.codeO_ne _ (Option.some.inj h1).symm
  obtain ⟨ps', h1, h2, h3⟩ := t p hp
  by_cases z : p.1 = P
  · have e := off_subE _ _ h1
    rw [z, hP] at e
    cases e
    rw [hu p hp z, z]
    refine ⟨_, by rw [offn _ gP]; exact atP, ok, fun pos cv hc => ?_⟩
    rcases am pos cv hc with y | y
    · obtain ⟨c0, e1, e2⟩ := h3 pos cv y
      rw [hu p hp z] at e2
      exact ⟨c0, e1, kc _ _ e2⟩
    · exact ⟨c, y, by rw [offn _ gC]; exact atC⟩
  · refine ⟨ps', kp _ _ h1 z, h2, fun pos cv hc => ?_⟩
    obtain ⟨c0, e1, e2⟩ := h3 pos cv hc
    exact ⟨c0, e1, kc _ _ e2⟩
/-- the lambda is made -/
theorem lam_mk {G : Hp} {c P : Addr} {params : Arguments} {body : Expr} {scope : Scope} {pos : Pos} {E : Value → Shared → Prop} {Q : Value → Shared → Prop} (I : Inv X pins σ H s) (gh : Gh T G H) (TB : LamX.TabB X.base X.mg c P) (hcode : X.env.code = .ref c)
    (hm : (P, X.env.qual ++ "<lambda>") ∈ T.tabs) (hu : ∀ p ∈ T.tabs, p.1 = P → p.2 = X.env.qual ++ "<lambda>") (hdef : defaultsOf params X.env = ([], [])) (hfree : ∀ y ∈ scope.names, y.2 = .free → ∃ c, X.env.cells.lookup y.1 = some c)
    (h : ∀ (f c' : Addr) (pm ctv : Value) (H1 : Hp) (s' : Shared), Inv X pins σ H1 s' → Grow T G H G H1 →
      s'.heap.get? f = some (PySem.W.kla_obj "<lambda>" (X.env.qual ++ "<lambda>") params body scope (cloFrom X.env.cells scope.names []) pm c' ctv) → H1 f = none → f ∉ frs X.stack → off G H1 c' = some (LamX.CodeO c' (X.env.qual ++ "<lambda>")) → Q (.ref f) s') :
    wpAny (model X.prog X.w) X.A (eval (.Lambda params body scope pos) X.env) Q E s := by
  obtain ⟨ps, hoP, ht, ha⟩ := gh.tb _ hm
  have hP := off_subE _ _ hoP
  have gP := off_dj P (by rw [hoP]; exact fun z => nomatch z)
  refine PySem.W.kla_eval hdef ?_
  have bP : s.heap.BuiltinsAt X.mg P := TB.bm.keeps I.bk
  have hP' : s.heap.get? P = some { cls := .none, data := .fields ps } := I.hok P _ hP
  have nofr : ∀ f, s.heap.objs.size ≤ f → f ∉ frs X.stack := fun f hf z => by
    rcases List.mem_cons.mp (I.stkSub _ z) with e | e
    · have h1 := I.lt
      rw [← e] at h1
      exact Nat.lt_irrefl _ (Nat.lt_of_lt_of_le h1 hf)
    · exact I.nofs hf e
  cases hc : codeAmong pos ps.toList with
  | none =>
    refine PySem.W.kla_makeFunction (mg := X.mg) (c := c) (P := P) (ps := ps) (closure_ok hfree) I.ok.glob (I.mod.glob.keeps I.bk) hcode (TB.code.keeps I.bk) hP' ht hc TB.gP bP fun c' ctv h' tk hx hge hlt hrec htb => ?_
    obtain ⟨c2, oc, vs, t, e2, hoc, hd, hv⟩ := hrec
    cases e2
    have hsz : s.heap.objs.size ≤ h'.objs.size := Nat.le_trans hge (Nat.le_of_lt hlt)
    have nC : H c' = none := I.hok.fresh hge
    have I1 := LamX.inv_table (t' := tk) (more := #[rawInt pos.line, rawInt pos.col, .ref c']) (h' := h'.push (PySem.W.kla_obj "<lambda>" (X.env.qual ++ "<lambda>") params body scope (cloFrom X.env.cells scope.names []) ((X.mg "__name__").getD .none) c' ctv)) I hP
      (fun b o hb e => Heap.get?_push_of_some _ (hx b o hb e)) (Heap.get?_push_of_some _ htb) hge ⟨oc, vs, t, Heap.get?_push_of_some _ hoc, hd, hv⟩
    have eL : (ps ++ #[rawInt pos.line, rawInt pos.col, .ref c']).toList = ps.toList ++ [rawInt pos.line, rawInt pos.col, .ref c'] := by simp
    have gr := grow_tab (T := T) (c := c') (q := X.env.qual ++ "<lambda>") (more := #[rawInt pos.line, rawInt pos.col, .ref c']) gh.gh gP hP nC hu (by rw [eL]; exact PySem.TriplesOk_snoc _ _ _ _ ht) (fun p' cv hcv => by rw [eL] at hcv; exact LamX.among_app _ ht hcv)
    refine h h'.objs.size c' ((X.mg "__name__").getD .none) ctv _ _ I1 gr (Heap.get?_push_size _ rfl) ?_ (nofr _ hsz) ?_
    · have n1 : h'.objs.size ≠ c' := Nat.ne_of_gt hlt
      have n2 : h'.objs.size ≠ P := Nat.ne_of_gt (Nat.lt_of_lt_of_le (Heap.lt_size hP') hsz)
      rw [upd_ne n1, upd_ne n2]
      exact I.hok.fresh hsz
    · rw [off_at (fresh_back gh.gh nC), upd_same]
  | some cv =>
    obtain ⟨c', e, hco⟩ := ha pos cv hc
    subst e
    refine PySem.W.kla_makeFunctionHit (mg := X.mg) (c := c) (P := P) (ps := ps) (closure_ok hfree) I.ok.glob (I.mod.glob.keeps I.bk) hcode (TB.code.keeps I.bk) hP' ht hc bP fun ctv h' tk hx hsz => ?_
    have I1 : Inv X pins σ H { s with heap := h'.push (PySem.W.kla_obj "<lambda>" (X.env.qual ++ "<lambda>") params body scope (cloFrom X.env.cells scope.names []) ((X.mg "__name__").getD .none) c' ctv), toks := tk } := I.kept fun b o e => Heap.get?_push_of_some _ (hx b o e)
    exact h h'.objs.size c' ((X.mg "__name__").getD .none) ctv H _ I1 (Grow.refl gh.gh) (Heap.get?_push_size _ rfl) (I.hok.fresh hsz) (nofr _ hsz) hco
/-- what was handed in is called, where no repr is under way -/
theorem lam_act {CXg : CXT} {Eg : XK} {Ng : List Str} {qg : Str} {sg : Scope} {g f c' : Addr} {cdg pm ctv : Value} {params : Arguments} {body : Expr} {scope : Scope} {k i : Nat} {a : Str} {pn : List (Addr × Obj)} {xe : Value → Shared → Prop} {W : WX} {E : XK} {tb : TE} {p1 p2 : Pos}
    (I : Inv X pins σ H s) (L : LamX.LamS X.env.scope scope) (hf : s.heap.get? f = some (PySem.W.kla_obj "<lambda>" (X.env.qual ++ "<lambda>") params body scope (cloFrom X.env.cells scope.names []) pm c' ctv)) (hfn : H f = none) (hfr : f ∉ frs X.stack)
    (hbind : bindArgs (PySem.W.kla_fn "<lambda>" (X.env.qual ++ "<lambda>") params body scope (cloFrom X.env.cells scope.names []) pm (.ref c') ctv) ⟨[], []⟩ = pure [])
    (tk : Takes ((cxOf CXg X.prog X.w X.K X.mg X.base Ng qg sg g cdg X.A X.stack s H Eg).tr pn xe) W) (hW : ∀ cls d σ' H', E cls d H' → W cls d σ' H') (hr : Rm (k + 1) (X.A.deeper (envOfC qg sg s.heap.objs.size g cdg)))
    (hbody : ∀ (A : Around) (outer : List Env) (s : Shared) (H : Hp), Rm k (A.deeper (LamX.lamEnv X scope s.heap.objs.size f c')) → PE (LamX.lamCx X A outer s H E scope f c') body tb)
    (hN : Ng[i]? = some a) (hv : Vis sg a) (hd : (a == ("__debug__" : Str)) = false := by decide) (hcd : (a == ("__classdict__" : Str)) = false := by decide) :
    PE ((cxOf CXg X.prog X.w X.K X.mg X.base Ng qg sg g cdg X.A X.stack s H Eg).tr pn xe) (.Call (.Name a p1) [] [] p2)
      (fun σZ HZ Q => σZ[i]? = some (some (.ref f)) ∧ HZ c' = some (LamX.CodeO c' (X.env.qual ++ "<lambda>")) ∧ tb σ HZ Q) := by
  refine ⟨fun pinsZ sZ σZ HZ Q IZ h => ?_⟩
  obtain ⟨hs, hc, ht⟩ := h
  refine wpAny_Call_Name_kw (thn ((pe_var (pos := p1) (i := i) hN hv hd hcd).run pinsZ sZ σZ HZ (fun v H1 => v = .ref f ∧ H1 = HZ) IZ ⟨.ref f, hs, rfl, rfl⟩) fun u s1 ⟨v, H1, I1, r1, q1⟩ => ?_)
  obtain ⟨ev, eH⟩ := q1
  subst ev
  rw [eH] at I1
  obtain rfl : u = Value.ref f := r1
  have of1 : s1.heap.get? f = some (PySem.W.kla_obj "<lambda>" (X.env.qual ++ "<lambda>") params body scope (cloFrom X.env.cells scope.names []) pm c' ctv) := I1.base.keep f _ hf hfn hfr (fun z => nomatch (show f ∈ ([] : List Addr) from z))
  refine PySem.W.callWith_F0 ⟨_, _, _, _, of1⟩ ?_
  have un : Un (frs X.stack) [] H HZ s.heap s1.heap := I1.base
  obtain ⟨⟨oc, vs, t, hoc, hdc, hvc⟩, _, _⟩ := I1.hok c' _ hc
  have rc : codeAny (model X.prog X.w) (X.A.deeper (envOfC qg sg s.heap.objs.size g cdg)) (.call (.ref f) ⟨[], []⟩) (CR (L2.CX X.prog X.w) (envOfC qg sg s.heap.objs.size g cdg :: X.stack) X.prog X.w HZ s1 Q E) s1 := by
    refine PySem.W.kla_callFunE hr.r.depth of1 rfl L.co L.gen rfl ⟨c', oc, vs, t, rfl, hoc, hdc, hvc⟩ ?_
    rw [hbind]
    refine wpAny_pure (wpAny_newFunctionEnv (fun y hy => (L.own y hy).2) (fun y hy => absurd hy (by simp)) (fun h₁ hns hsb => ⟨I1.nolimit.fresh _ hsb, ?_⟩) L.kind)
    show codeAny _ _ (.expr body (LamX.lamEnv X scope s1.heap.objs.size f c')) _ _
    have kp : ∀ b o, s1.heap.get? b = some o → h₁.get? b = some o := fun b o e => hsb.extBut b o (Nat.ne_of_lt (Heap.lt_size e)) (Heap.get?_push_of_some _ e)
    have J : Inv (LamX.lamCx X (X.A.deeper (envOfC qg sg s.heap.objs.size g cdg)) (envOfC qg sg s.heap.objs.size g cdg :: X.stack) s1 HZ E scope f c') [] σ HZ { s1 with heap := h₁, toks := s1.toks + ([] : List (Str × Value)).length } :=
      LamX.lam_start2 I L I1.env0 hr.r.hd un hns kp
    refine PySem.W.kla_codeExpr (wpAny_mono ((hbody _ _ s1 HZ (hr.deeper _)).run [] _ _ HZ Q J ht) (fun v s' hq => ?_) fun e s' hq => hq)
    obtain ⟨w', H', J', rv, q⟩ := hq
    exact ⟨w', H', J'.os, J'.bare, J'.base, J'.hok, rv, q⟩
  have hx : Passes (L2.CX X.prog X.w) ((cxOf CXg X.prog X.w X.K X.mg X.base Ng qg sg g cdg X.A X.stack s H Eg).tr pn xe) E := passes_call tk hW
  refine wpAny_call (codeAny_mono rc fun r s' hq => ?_)
  cases r with
  | error e => exact hx pinsZ σZ HZ s1 e s' I1 hq
  | ok fl =>
    cases fl with
    | ret u => exact I1.after hq
    | next => exact False.elim hq
    | brk => exact False.elim hq
    | cont => exact False.elim hq
end
/-! ### try: b = a() / except .. / return ["told", b] -/
def imB (β : En) : En := β.map fun b => match b with
  | some (.im d) => some (.im d)
  | _ => none
def resOf : Res (D × En) → Res D
  | .ok (d, _) => .ok d
  | .exc c fs => .exc c fs
  | .bad => .bad
def errF (hs : List ((Str → Bool) × XH)) (r : Res D) : Res D := match r with
  | .ok d => lstF [.str "told", d]
  | .exc c fs => match handle hs c fs with
    | .ok (.rt d, _) => .ok d
    | _ => .bad
  | .bad => .bad
def lamM (hs : List ((Str → Bool) × XH)) (m : MM D) : MM D := fun β => (errF hs (resOf (m (imB β)))).keep β
theorem imB_get {β : En} {i : Nat} {b : B} (h : (imB β)[i]? = some (some b)) : β[i]? = some (some b) ∧ ∃ d, b = .im d := by
  unfold imB at h
  rw [List.getElem?_map] at h
  cases hb : β[i]? with
  | none => rw [hb] at h; cases h
  | some o =>
    rw [hb] at h
    cases o with
    | none => cases h
    | some b' =>
      cases b' with
      | im d => cases h; exact ⟨rfl, d, rfl⟩
      | _ => cases h
theorem si_im {T : Tx} {A : Nat → Option Addr} {F G H : Hp} {σ : L2.St} {β : En} (s : SI T A F G H σ β) : SI T (fun _ => none) (off G H) G H σ (imB β) := by
  refine ⟨off_sub, s.gh, ⟨off_dj, fun h => h⟩, by unfold imB; rw [List.length_map]; exact s.len, fun i b hb => ?_, fun i j b c p h1 h2 o1 => ?_, fun i b hb hp => ?_, s.gg.tb⟩
  · obtain ⟨h, d, rfl⟩ := imB_get hb
    exact s.at' i _ h
  · obtain ⟨h, d, rfl⟩ := imB_get h1
    cases o1
  · obtain ⟨h, d, rfl⟩ := imB_get hb
    cases hp
theorem HT.key {X : Cx} {T : Tx} {W : WishX} : ∀ {hd : List ExceptHandler} {l : List ((Str → Bool) × XH)}, HT X T hd l → ∃ L : List Hd, HdsN X hd L ∧ ∀ (E : Ends) (A : Nat → Option Addr) (F G : Hp) (c : Str) (fs : List (Str × D)), LamX.Tabs T.tabs F → PostS T A W F G (handle l c fs) E → ∀ σ', PostX T (wHd X.K W E L) F G σ' c fs := by
  intro hd l k
  induction k with
  | nil => exact ⟨[], .nil, fun E A F G c fs _ h => h⟩
  | @cons x cv n i p h b₀ suite np pos' hds' l' hc hn hp hsu r ih =>
    obtain ⟨L, hL, kL⟩ := ih
    refine ⟨(cv, i, fun a cls d => tXr T i a cls d h) :: L, .cons hc hn (fun a oe cls d pn hz hf => hsu ⟨a, oe, cls, d, pn, hz, hf⟩) hL, fun E A F G c fs tF q σ' C dx ys G' H' hC e gh fh dj hx rf => ?_⟩
    unfold handle at q
    refine ⟨p c, hp c C hC, fun hb a na => ?_, fun hb => ?_⟩
    · rw [hb, if_pos rfl] at q
      have slot : ∀ j, i = some j → j < (named σ' a i).length → (named σ' a i)[j]? = some (some (.ref a)) := by
        intro j hj hl
        subst hj
        unfold named at hl ⊢
        exact List.getElem?_set_self (by simpa using hl)
      have hrt : (gone E i).rt = E.rt := by cases i <;> rfl
      show tXs T i a (.ref C) (some dx) h (named σ' a i) H' (gone E i).rt
      rw [hrt]
      refine ⟨c, C, dx, fs, G', ys, rfl, rfl, hC, ⟨gh, dj.tb tF⟩, slot, hx, rf, ?_⟩
      cases hh : h c fs with
      | ok d =>
        rw [hh] at q
        intro v G2 H2 g2 r2
        exact q v [] G2 H2 (e.trans g2.gg) ⟨fh.trans g2.hh, g2.gh, dj.grow fh g2, Nat.zero_le _, fun i b hb => (by simp at hb), fun i j b c p hb => (by simp at hb), fun i b hb => (by simp at hb), tF⟩ r2
      | exc _ _ => rw [hh] at q; exact q.elim
      | bad => rw [hh] at q; exact q.elim
    · rw [hb, if_neg Bool.false_ne_true] at q
      exact kL E A F G c fs tF q σ' C dx ys G' H' hC e gh fh dj hx rf
section
variable {X : Cx} {T : Tx} {W : WishX}
theorem me_lam {x a b : Str} {g c P : Addr} {k : Nat} {st : Stmt} {fd : FuncData} {Ng : List Str} {params : Arguments} {body : Expr} {scope : Scope} {m : MM D} {h₀ : ExceptHandler} {hds : List ExceptHandler} {l : List ((Str → Bool) × XH)} {j : Nat} {p lpos pos pb p1 p2 p3 p4 p5 p6 p7 p8 : Pos}
    (F : Fun X.K x x st g fd) (hbd : ∀ us : List Value, us.length = [a].length → bindArgs fd ⟨us, []⟩ = pure ([a].zip us)) (Sg : FnScope Ng [a] (defScope st))
    (hbg : defBody st = [.Try [.Assign [.Name b pb] (.Call (.Name a p1) [] [] p2) p3] (h₀ :: hds) [] [] p4, .Return (some (.List [.Constant (.str "told") j p5, .Name b p6] p7)) p8])
    (hN0 : Ng[0]? = some a) (hN1 : Ng[1]? = some b) (hva : Vis (defScope st) a) (hvb : (defScope st).names.lookup b = some .local)
    (hT : ∀ (cdg : Value) (A : Around) (outer : List Env) (s : Shared) (H : Hp), HT (cxOf C8.CX0 X.prog X.w X.K X.mg X.base Ng x (defScope st) g cdg A outer s H C8.E0).nox T (h₀ :: hds) l)
    (hg : Gl X x) (hm : X.mg x = some (.ref g)) (TB : LamX.TabB X.base X.mg c P) (hcode : X.env.code = .ref c) (hmT : (P, X.env.qual ++ "<lambda>") ∈ T.tabs) (hu : ∀ p ∈ T.tabs, p.1 = P → p.2 = X.env.qual ++ "<lambda>") (hr : Rm (k + 2) X.A)
    (L : LamX.LamS X.env.scope scope) (hdef : defaultsOf params X.env = ([], []))
    (hbind : ∀ (q : Str) (cl : List (Str × Addr)) (pm cv ctv : Value), bindArgs (PySem.W.kla_fn "<lambda>" q params body scope cl pm cv ctv) ⟨[], []⟩ = pure [])
    (hbody : ∀ (A : Around) (outer : List Env) (s : Shared) (H : Hp) (E : XK) (f c' : Addr), Rm k (A.deeper (LamX.lamEnv X scope s.heap.objs.size f c')) → ME (LamX.lamCx X A outer s H E scope f c') T (wE E) body m)
    (hdb : (x == ("__debug__" : Str)) = false := by decide) (hd : (a == ("__debug__" : Str)) = false := by decide) (hcd : (a == ("__classdict__" : Str)) = false := by decide) (hd' : (b == ("__debug__" : Str)) = false := by decide) (hcd' : (b == ("__classdict__" : Str)) = false := by decide) :
    ME X T W (.Call (.Name x p) [.Lambda params body scope lpos] [] pos) (lamM l m) := by
  obtain ⟨oc, od, kV, doc, pm, an, cdv, ct, osl, rfl, lk, hcg⟩ := F.ex
  refine ⟨fun pins s σ H Q I ⟨A, Fr, G, β, si, po⟩ => ?_⟩
  refine wpAny_Call_Name_kw (ld_glob I hg hm ?_ hdb)
  refine PySem.W.callWith_K (h₀ := X.base) I.ok.mod.kin F.kp ?_ (by rfl) (by rfl)
  show wpAny _ _ (spliced ((false, eval (.Lambda params body scope lpos) X.env) :: backTo pos (starEach [] X.env))) _ _ s
  refine Calls.spliced_cons (lam_mk I si.gg TB hcode hmT hu hdef (L.has I.ok) fun f c' pm' ctv H1 s' I1 gr hf hfn hfr hco => ?_)
  refine Calls.spliced_nil ⟨I1.kIn, ?_⟩
  have s1 : SI T A Fr G H1 σ β := si.grow gr
  have hbt : BindsTo s' (PySem.W.fnOf x x (defArgs st) (defBody st) (defScope st) .none kV doc pm an cdv ct) ⟨[.ref f], []⟩ ([a].zip [.ref f]) := by
    intro M A' Q' E' h
    rw [hbd [.ref f] rfl]
    exact wpAny_pure h
  have rc : codeAny (model X.prog X.w) X.A (.call (.ref g) ⟨[.ref f], []⟩) (CR C8.CX0 X.stack X.prog X.w H1 s' Q C8.E0) s' := by
    refine LamX.run_ofS (N := Ng) (ps := [a]) (us := [.ref f]) (vs := [.ref f]) lk hcg Sg hr.r I1.env0 hbt (.cons rfl .nil) rfl fun hr' => ?_
    rw [hbg]
    obtain ⟨Lh, hL, kL⟩ := (hT cdv X.A X.stack s' H1).key (W := fun _ _ _ _ => False)
    have h0 : (L2.start Ng [V.ref f])[0]? = some (some (V.ref f)) := rfl
    have l1 : 1 < (L2.start Ng [V.ref f]).length := by
      have := (List.getElem?_eq_some_iff.mp hN1).1
      unfold L2.start
      simp only [List.map_cons, List.map_nil, List.length_append, List.length_cons, List.length_nil, List.length_replicate]
      omega
    refine ⟨_, PSs.nox (pss_cons (ps_try_hd (X := (cxOf C8.CX0 X.prog X.w X.K X.mg X.base Ng x (defScope st) g cdv X.A X.stack s' H1 C8.E0).nox) (Wout := fun _ _ _ _ => False)
        (tb := fun W D σZ HZ => ∃ Ech : XK, (∀ cls d σ' H', Ech cls d H' → W cls d σ' H') ∧ σZ[0]? = some (some (.ref f)) ∧ HZ c' = some (LamX.CodeO c' (X.env.qual ++ "<lambda>")) ∧ tM T (wE Ech) m σ HZ fun v H' => D.nx (σZ.set 1 (some v)) H')
        rfl rfl Sg.nd LamX.takes0 (fun W' pn xe tk _ => ?_) hL) (pss_one (ps_ret (pe_lst (pa_cons pe_str (pa_cons (pe_var (i := 1) hN1 (.inl hvb) hd' hcd') pa_nil (by rfl)) (by rfl)))))), ?_⟩
    · refine ⟨fun pinsZ sZ σZ HZ D IZ h' => ?_⟩
      obtain ⟨Ech, hW, h1, h2, h3⟩ := h'
      have hp := lam_act (CXg := C8.CX0) (Eg := C8.E0) (Ng := Ng) (qg := x) (sg := defScope st) (g := g) (cdg := cdv) (a := a) (i := 0) (p1 := p1) (p2 := p2) I1 L hf hfn hfr (hbind _ _ _ _ _) tk hW ⟨hr', hr.g⟩ (fun A outer s H hr2 => hbody A outer s H Ech f c' hr2) hN0 hva hd hcd
      have hq := pss_one (ps_set (pos := p3) (pos' := pb) (i := 1) Sg.nd hN1 (.inl hvb) hp (by rfl) (.inr hvb))
      exact hq.run pinsZ sZ σZ HZ D IZ ⟨h1, h2, h3⟩
    · have cof : H1 c' = some (LamX.CodeO c' (X.env.qual ++ "<lambda>")) := off_subE _ _ hco
      refine ⟨fun cls d H' => ∀ σ', wHd X.K (fun _ _ _ _ => False) _ Lh cls d σ' H', fun cls d σ' H' h => h σ', h0, cof, fun _ => none, off G H1, G, imB β, si_im s1, ?_⟩
      have po1 : PostE T A W Fr G σ ((errF l (resOf (m (imB β)))).keep β) Q := po.mono gr.gg
      cases hmm : m (imB β) with
      | bad => rw [hmm] at po1; exact po1.elim
      | ok r =>
        obtain ⟨d, β'⟩ := r
        rw [hmm] at po1
        have pp : PostP T G H1 (lstF [.str "told", d]) Q := po1.prim s1
        intro v G' H' e si' rv
        have gr' : Grow T G H1 G' H' := off_grow s1.gh e si'.gh si'.fh si'.dj
        obtain ⟨z, q⟩ := sz_get (pp.mono gr')
        refine ⟨v, List.getElem?_set_self l1, ?_⟩
        have rl : RepL T G' [.str "told", d] [.str "told", v] := ⟨_, _, rfl, rfl, _, _, rfl, rv, rfl⟩
        exact ⟨show (2 : Nat) ≤ sizeLine by decide, fun l hl => q.lst gr'.gh rl hl⟩
      | exc cc fs =>
        rw [hmm] at po1
        have hh : ∃ d β', handle l cc fs = .ok (.rt d, β') ∧ PostE T A W Fr G σ (.ok (d, β)) Q := by
          unfold resOf errF at po1
          dsimp only at po1
          split at po1
          · rename_i d β' hq
            exact ⟨d, β', hq, po1⟩
          · exact po1.elim
        obtain ⟨d, β', hq, pq⟩ := hh
        intro C dx ys G' H' hC e gh fh dj hx rf σ'
        refine kL _ (fun _ => none) (off G H1) G cc fs s1.gg.tb ?_ σ' C dx ys G' H' hC e gh fh dj hx rf
        rw [hq]
        intro v σ2 G2 H2 e2 s2 rv
        have gr' : Grow T G H1 G2 H2 := off_grow s1.gh e2 s2.gh s2.fh s2.dj
        exact pq v G2 H2 gr'.gg (s1.grow gr') rv
  refine wpAny_call (codeAny_mono rc fun r s2 hq => ?_)
  cases r with
  | error e => exact (show False from hq).elim
  | ok fl =>
    cases fl with
    | ret u => exact I1.after hq
    | next => exact False.elim hq
    | brk => exact False.elim hq
    | cont => exact False.elim hq
end
end Fw
end

section
set_option Elab.async false
set_option linter.all false
set_option maxRecDepth 100000
set_option maxHeartbeats 4000000
set_option autoImplicit false
/-! # defs whose code object is known; the end of a law, with tables -/
namespace Fw
open PySem PySem.Spec L2 Evl PyProof.Rows
def CodeIs (K : PySem.W.Frag) (f : Addr) (cdv : Value) : Prop := ∃ (o : Obj) (fd : FuncData), K.lookup f = some o ∧ o.data = .func fd ∧ fd.code = cdv
theorem CodeIs.one {K : PySem.W.Frag} {f : Addr} {u v : Value} (h : CodeIs K f u) (h' : CodeIs K f v) : u = v := by
  obtain ⟨o, fd, e1, e2, e3⟩ := h
  obtain ⟨o', fd', q1, q2, q3⟩ := h'
  rw [e1] at q1
  cases q1
  rw [e2] at q2
  cases q2
  rw [← e3, q3]
section
variable {P : Program} {w : World} {K : PySem.W.Frag} {mg : Str → Option Value} {base : Heap} {k : Nat} {f : Addr} {x qual : Str} {st : Stmt} {fd : FuncData} {N ps : List Str} {sp : Sp} {T : Tx} {m : MM Fl}
theorem fn_PL {cd : Value} (hcv : CodeIs K f cd) (F : Fun K x qual st f fd) (S : FnScope N ps (defScope st)) (hb : ∀ us : List Value, us.length = ps.length → bindArgs fd ⟨us, []⟩ = pure (ps.zip us)) (len : ∀ vs H Q E, sp vs H Q E → vs.length = ps.length)
    (body : ∀ (A : Around) (outer : List Env) (s : Shared) (H : Hp) (vs : List V) (Q : VK) (E : XK), Rm k (A.deeper (envOfC qual (defScope st) s.heap.objs.size f cd)) → sp vs H Q E →
      ∃ t, PSs (cxOf (L2.CX P w) P w K mg base N qual (defScope st) f cd A outer s H E) (defBody st) t ∧ t { nx := fun _ H' => Q .non H', rt := Q } (L2.start N vs) H) :
    FnG P w K mg base (k + 1) f [] sp := by
  have hcd : ∀ oc od kV doc pm an cdv ct osl, fd = PySem.W.fnOf x qual (defArgs st) (defBody st) (defScope st) .none kV doc pm an cdv ct → K.lookup f = some ⟨oc, od, .func fd, osl⟩ → cdv = cd := by
    intro oc od kV doc pm an cdv ct osl e lk
    refine CodeIs.one ⟨_, fd, lk, rfl, ?_⟩ hcv
    rw [e]
  obtain ⟨oc, od, kV, doc, pm, an, cdv, ct, osl, e, lk, hcc⟩ := F.ex
  have ec := hcd oc od kV doc pm an cdv ct osl e lk
  subst ec
  subst e
  intro A outer s H us ws vs zs Q E hr e0 r rz hz h
  obtain rfl : zs = [] := List.eq_nil_of_length_eq_zero hz
  rw [List.append_nil] at h
  cases rz
  have hl := len _ _ _ _ h
  refine StX.run_bnd (G := fun xs H2 => xs = vs ∧ H2 = H) lk hcc S hr.r e0 (fun A' Ex R hR => ?_) fun s2 H2 xs ⟨ex, eH⟩ hr' => ?_
  · have b1 := hb us (by rw [← r.length]; exact hl)
    rw [show ([] : List Str).zip ([] : List Value) = [] from rfl, b1]
    exact wpAny_pure (hR s H vs us e0 Un.refl rfl (fun _ _ z => z) r hl ⟨rfl, rfl⟩)
  · subst ex eH
    exact body A outer s2 H2 xs Q E ⟨hr', hr.g⟩ h
theorem fn_FL {cd : Value} (hcv : CodeIs K f cd) (F : Fun K x qual st f fd) (S : FnScope N ps (defScope st)) (hbd : ∀ us : List Value, us.length = ps.length → bindArgs fd ⟨us, []⟩ = pure (ps.zip us)) (hb : ∀ (A : Around) (outer : List Env) (s : Shared) (H : Hp) (E : XK), Rm k (A.deeper (envOfC qual (defScope st) s.heap.objs.size f cd)) →
      MSs (cxOf (L2.CX P w) P w K mg base N qual (defScope st) f cd A outer s H E) T (wE E) (defBody st) m) : FnG P w K mg base (k + 1) f [] (spF T ps.length (runF m N.length)) := by
  refine fn_PL hcv F S hbd (fun vs H Q E h => h.1) (fun A outer s H vs Q E hr h => ⟨_, hb A outer s H E hr, ?_⟩)
  obtain ⟨hl, G, ds, eg, r, p⟩ := h
  refine ⟨fun _ => none, off G H, G, env0 N.length ds, si_start eg r, ?_⟩
  unfold runF at p
  match m (env0 N.length ds), p with
  | .ok (.nx, β'), p => exact fun σ' G' H' e s' => p _ G' H' (off_grow eg.gh e s'.gh s'.fh s'.dj) rfl
  | .ok (.bk, β'), p => exact p.elim
  | .ok (.ct, β'), p => exact p.elim
  | .ok (.rt d, β'), p => exact fun v σ' G' H' e s' rv => p v G' H' (off_grow eg.gh e s'.gh s'.fh s'.dj) rv
  | .ok (.rf d, β'), p => exact p.elim
  | .exc c fs, p => exact fun σ' C dx ys G' H' hc e gh fh dj hx rf => p C dx ys G' H' hc (off_grow eg.gh e gh fh dj) hx rf
  | .bad, p => exact p.elim
theorem fn_ML {cd : Value} (hcv : CodeIs K f cd) (F : Fun K x qual st f fd) (S : FnScope N ps (defScope st)) (hbd : ∀ us : List Value, us.length = ps.length → bindArgs fd ⟨us, []⟩ = pure (ps.zip us)) (hb : ∀ (A : Around) (outer : List Env) (s : Shared) (H : Hp) (E : XK), Rm k (A.deeper (envOfC qual (defScope st) s.heap.objs.size f cd)) →
      MSs (cxOf (L2.CX P w) P w K mg base N qual (defScope st) f cd A outer s H E) T (wE E) (defBody st) m) : FnG P w K mg base (k + 1) f [] (spM T ps.length (runM m N.length)) :=
  fn_PL hcv F S hbd (fun vs H Q E h => h.1) (fun A outer s H vs Q E hr h => ⟨_, hb A outer s H E hr, tS_M h⟩)
end
theorem codeIs_of {K : PySem.W.Frag} {x : Str} {f c P : Addr} (h : PySem.W.nsIn K mainGlobals x = some (some (.ref f))) (ht : PySem.W.tabIn K x = some (c, P)) : CodeIs K f (.ref c) := by
  unfold PySem.W.tabIn at ht
  rw [h] at ht
  dsimp only at ht
  split at ht
  · rename_i fd _ hf
    split at ht
    · rename_i c' hc
      split at ht
      · split at ht
        · cases ht
          exact ⟨_, fd, hf, rfl, hc⟩
        · cases ht
      · cases ht
    · cases ht
  · cases ht
theorem callerRm {k : Nat} (hr : Room k callerA) : Rm k callerA := ⟨hr, rfl⟩
theorem law_callGT {P : Program} {w : World} {K : PySem.W.Frag} {mg mb : Str → Option Value} {k : Nat} {fa a : Addr} {cs : List (Addr × Addr)} {sp : Sp} {s₁ : Shared} {vs : List Value} {ns : List Int}
    (KX : K.In s₁.heap) (hns : s₁.heap.Ns mainGlobals mg) (hb : s₁.heap.Ns builtinsNs mb) (hbb : ∀ x : Str, x ≠ "__name__" → mb x = bootBuiltins x) (hlim : s₁.heap.NoLimit) (hg : s₁.gens = #[])
    (hT : ∀ p ∈ cs, s₁.heap.get? p.2 = some { cls := .none, data := .fields #[] }) (nT : ∀ p ∈ cs, K.lookup p.2 = none) (C : ∀ p ∈ cs, PySem.W.CodeHd s₁.heap p.1 p.2)
    (hbm : ∃ (bm : Addr) (ob : Obj), mg "__builtins__" = some (.ref bm) ∧ bm ≠ builtinsNs ∧ s₁.heap.get? bm = some ob ∧ ob.cls = .type "module" ∧ ob.dict = some builtinsNs ∧ ob.data = .plain)
    (ha : s₁.heap.get? a = some { cls := .type "list", data := .seq vs.toArray }) (hi : IntsAre vs ns) (hl : ns.length ≤ sizeLine) (hr : Rm k callerA)
    (F : ∀ base : Heap, K.In base → base.Ns mainGlobals mg → (∀ p ∈ cs, LamX.TabB base mg p.1 p.2) → FnG P w K mg base k fa [] sp)
    (hsp : ∀ H : Hp, (∀ p ∈ cs, H p.2 = some (.tbl #[])) → SqL K H a (ns.map V.int) → sp [.ref a] H (fun v _ => v = .bl true) fun _ _ _ => False) :
    codeAny (model P w) callerA (.call (.ref fa) ⟨[.ref a], []⟩) (fun r s' => r = .ok (.ret (.bool true)) ∧ OldK s₁.heap s'.heap ∧ s'.os = s₁.os ∧ AllBare s'.gens) s₁ := by
  have rv := vals_ints hi
  have lenV := hi.length
  have isT : ∀ b : Addr, b ∈ cs.map (·.2) → s₁.heap.get? b = some { cls := .none, data := .fields #[] } := fun b hb => by
    obtain ⟨p, hp, e⟩ := List.mem_map.mp hb
    rw [← e]
    exact hT p hp
  have aT : a ∉ cs.map (·.2) := fun z => by
    have q := isT a z
    rw [ha] at q
    have z' : Data.seq vs.toArray _ = Data.fields #[] := congrArg Obj.data (Option.some.inj q)
    cases z'
  have memT : ∀ p ∈ cs, p.2 ∈ cs.map (·.2) := fun p hp => List.mem_map.mpr ⟨p, hp, rfl⟩
  -- from an abstract heap in which nothing but the script and the tables may be tracked
  have core : ∀ H : Hp, (∀ p ∈ cs, H p.2 = some (.tbl #[])) → (∀ b, H b = none ∨ b ∈ cs.map (·.2) ∨ ∃ o xs, H b = some (.frz o (.lst xs))) → SqL K H a (ns.map V.int) → HOk P w H s₁.heap → (∀ b, H b ≠ none → b = a ∨ b ∈ cs.map (·.2)) → (H a ≠ none → K.lookup a = none) →
      codeAny (model P w) callerA (.call (.ref fa) ⟨[.ref a], []⟩) (fun r s' => r = .ok (.ret (.bool true)) ∧ OldK s₁.heap s'.heap ∧ s'.os = s₁.os ∧ AllBare s'.gens) s₁ := by
    intro H hH hO hS hok hA hK
    have base_of : ∀ {b : Addr} {o : Obj}, s₁.heap.get? b = some o → H b = none → (hidT s₁.heap H).get? b = some o := fun e n => hidT_get e n
    have noD : ∀ {b : Addr} {o : Obj}, s₁.heap.get? b = some o → (∀ vs n, o.data ≠ .seq vs n) → o.data ≠ .fields #[] → H b = none := fun {b o} e h1 h2 => by
      cases q : H b with
      | none => rfl
      | some u =>
        rcases hA b (by rw [q]; simp) with e' | e'
        · rw [e', ha] at e
          cases e
          exact (h1 _ _ rfl).elim
        · rw [isT b e'] at e
          cases e
          exact (h2 rfl).elim
    have noA : ∀ {b : Addr} {o : Obj} {es : Array DictEntry} {ep : Nat}, s₁.heap.get? b = some o → o.data = .dict es ep → H b = none := fun {b o es ep} e d => by
      refine noD e (fun vs n z => ?_) fun z => ?_
      · rw [d] at z
        cases z
      · rw [d] at z
        cases z
    have nsK : ∀ {b : Addr} {m : Str → Option Value}, s₁.heap.Ns b m → (hidT s₁.heap H).Ns b m := fun {b m} ⟨o, es, ep, e, d, r⟩ => ⟨o, es, ep, base_of e (noA e d), d, r⟩
    have hKb : K.In (hidT s₁.heap H) := fun b o e => base_of (KX b o e) (by
      cases q : H b with
      | none => rfl
      | some u =>
        rcases hA b (by rw [q]; simp) with e' | e'
        · rw [e'] at e q
          rw [hK (by rw [q]; simp)] at e
          cases e
        · obtain ⟨p, hp, ep⟩ := List.mem_map.mp e'
          rw [← ep, nT p hp] at e
          cases e)
    have hM : L2.Mod K mg (hidT s₁.heap H) := ⟨hKb, nsK hns, ⟨mb, nsK hb, hbb⟩, let ⟨mc, h1, h2⟩ := hlim; ⟨mc, nsK h1, h2⟩⟩
    have TB : ∀ p ∈ cs, LamX.TabB (hidT s₁.heap H) mg p.1 p.2 := fun p hp => by
      have hTp := hT p hp
      refine ⟨?_, ?_, fun z => ?_⟩
      · obtain ⟨o, us, file, tf, flags, tg, inF, text, tt, e1, r1, r2, r3, r4, r5, r6, r7, r8, hne⟩ := C p hp
        refine ⟨o, us, file, tf, flags, tg, inF, text, tt, base_of e1 (noD e1 (fun vs n z => ?_) fun z => ?_), r1, r2, r3, r4, r5, r6, r7, r8, hne⟩
        · rw [r2] at z
          cases z
        · rw [r2] at z
          cases z
          simp at r3
      · obtain ⟨bm, ob, b1, b2, b3, b4, b5, b6⟩ := hbm
        have nG : bm ≠ mainGlobals := fun q => by
          obtain ⟨o, es, ep, e, hd, _⟩ := hns
          rw [q, e] at b3
          cases b3
          rw [hd] at b6
          cases b6
        have nP : bm ≠ p.2 := fun q => by
          rw [q, hTp] at b3
          cases b3
          cases b6
        refine ⟨bm, ob, b1, b2, nG, nP, base_of b3 (noD b3 (fun vs n z => ?_) fun z => ?_), b4, b5, b6⟩
        · rw [b6] at z
          cases z
        · rw [b6] at z
          cases z
      · obtain ⟨o, es, ep, e, hd, _⟩ := hns
        rw [z, hTp] at e
        cases e
        cases hd
    have e0 : Env0 P w K mg (hidT s₁.heap H) callerA [] s₁ H := ⟨rfl, hM, fun b o e => of_hidT e, Nat.le_of_eq (hidT_size _ _), trivial, fun b hb => absurd (show b ∈ ([] : List Addr) from hb) (by simp), hok, .of_eq hg⟩
    refine codeAny_mono (F _ hKb (nsK hns) TB callerA [] s₁ H [.ref a] [] [.ref a] [] _ (fun _ _ _ => False) hr e0 (.cons rfl .nil) .nil rfl (hsp H hH hS)) fun r s' h => ?_
    cases r with
    | error e =>
      obtain ⟨_, _, _, _, _, _, _, _, _, _, _, _, z⟩ := h
      exact z.elim
    | ok fl =>
      cases fl with
      | next => exact False.elim h
      | brk => exact False.elim h
      | cont => exact False.elim h
      | ret u =>
        obtain ⟨v, H', os, bare, un, hok', r', q⟩ := h
        have q' : v = .bl true := q
        subst q'
        obtain rfl : u = Value.bool true := r'
        have key : ∀ b o, b ∉ cs.map (·.2) → s₁.heap.get? b = some o → s'.heap.get? b = some o := fun b o nb e => by
          cases q : H b with
          | none => exact un.keep b o e q (by intro z; exact absurd (show b ∈ ([] : List Addr) from z) (by simp)) (by simp)
          | some u =>
            rcases hO b with z | z | ⟨ob, xs, z⟩
            · rw [q] at z; cases z
            · exact absurd z nb
            · have z2 := un.frzs b ob _ z
              obtain ⟨e1, _⟩ := hok b _ z
              obtain ⟨e2, _⟩ := hok' b _ z2
              rw [e] at e1; cases e1
              exact e2
        have grown : ∀ p ∈ cs, ∃ more : Array Value, s'.heap.get? p.2 = some { cls := .none, data := .fields more } := fun p hp => by
          obtain ⟨more, z⟩ := un.tbls p.2 #[] (hH p hp)
          exact ⟨_, hok' p.2 _ z⟩
        refine ⟨rfl, ⟨fun b o e => ?_, fun b o e => ?_⟩, os, bare⟩
        · by_cases hb : b ∈ cs.map (·.2)
          · obtain ⟨p, hp, ep⟩ := List.mem_map.mp hb
            obtain ⟨more, hm⟩ := grown p hp
            rw [← ep] at e ⊢
            rw [hT p hp] at e
            cases e
            exact .inr (.inl ⟨((C p hp).tab (hT p hp)).isCodeTable, rfl, #[], more, rfl, by rw [Array.empty_append]; exact hm⟩)
          · exact .inl (key b o hb e)
        · by_cases hb : b ∈ cs.map (·.2)
          · obtain ⟨p, hp, ep⟩ := List.mem_map.mp hb
            obtain ⟨more, hm⟩ := grown p hp
            rw [← ep]
            exact ⟨_, hm⟩
          · exact ⟨o, key b o hb e⟩
  cases hk : K.lookup a with
  | some o =>
    have e := KX a o hk
    rw [ha] at e
    cases e
    refine core (fun b => if b ∈ cs.map (·.2) then some (.tbl #[]) else none) (fun p hp => if_pos (memT p hp)) (fun b => ?_) (.inr ⟨_, vs.toArray, _, hk, rfl, rfl, rfl, by rw [List.size_toArray, lenV]; exact hl, by simpa using rv⟩) (fun b u z => ?_) (fun b z => ?_) fun z => absurd (show (if a ∈ cs.map (·.2) then some (HO.tbl #[]) else none) = none from if_neg aT) z
    · by_cases hb : b ∈ cs.map (·.2)
      · exact .inr (.inl hb)
      · exact .inl (if_neg hb)
    · by_cases hb : b ∈ cs.map (·.2)
      · have z' := (if_pos hb).symm.trans z
        cases z'
        exact isT b hb
      · have z' := (if_neg hb).symm.trans z
        cases z'
    · by_cases hb : b ∈ cs.map (·.2)
      · exact .inr hb
      · exact absurd (if_neg hb) z
  | none =>
    refine core (fun b => if b = a then some (.frz { cls := .type "list", data := .seq vs.toArray } (.lst (ns.map V.int))) else if b ∈ cs.map (·.2) then some (.tbl #[]) else none) (fun p hp => (if_neg (show ¬ p.2 = a from fun z => aT (by rw [← z]; exact memT p hp))).trans (if_pos (memT p hp))) (fun b => ?_)
      (.inl (.inr ⟨{ cls := .type "list", data := .seq vs.toArray }, if_pos rfl⟩)) (fun b u z => ?_) (fun b z => ?_) fun _ => hk
    · by_cases hb : b = a
      · exact .inr (.inr ⟨_, _, if_pos hb⟩)
      · by_cases hb2 : b ∈ cs.map (·.2)
        · exact .inr (.inl hb2)
        · exact .inl ((if_neg hb).trans (if_neg hb2))
    · by_cases hb : b = a
      · have z' := (if_pos hb).symm.trans z
        cases z'
        rw [hb]
        exact ⟨ha, by rw [List.length_map]; exact hl, vs, _, rv, ha⟩
      · have z1 := (if_neg hb).symm.trans z
        by_cases hb2 : b ∈ cs.map (·.2)
        · have z' := (if_pos hb2).symm.trans z1
          cases z'
          exact isT b hb2
        · have z' := (if_neg hb2).symm.trans z1
          cases z'
    · by_cases hb : b = a
      · exact .inl hb
      · by_cases hb2 : b ∈ cs.map (·.2)
        · exact .inr hb2
        · exact absurd ((if_neg hb).trans (if_neg hb2)) z
/-- the tables of the defs at the top are empty -/
def TabsOf (q : Program) (K : PySem.W.Frag) (h : Heap) : Prop := ∀ (x : Str) (c P : Addr), ((recsOf q).find? fun e => e.name == x).isSome = true → PySem.W.tabIn K x = some (c, P) → PySem.W.CodeHd h c P ∧ h.get? P = some { cls := .none, data := .fields #[] }
/-- what is known of the law at the head's heap h -/
def LawAt (l : PySem.W.OpenLaw) (w : World) (K : PySem.W.Frag) (k n : Nat) (f : List D → Res D) (mg : Str → Option Value) (fa : Addr) (h : Heap) : Prop :=
  ∃ (T : Tx) (cs : List (Addr × Addr)), T.K = K ∧ (∀ p ∈ T.tabs, ∃ c, (c, p.1) ∈ cs) ∧ (∀ p ∈ cs, h.get? p.2 = some { cls := .none, data := .fields #[] }) ∧ (∀ p ∈ cs, K.lookup p.2 = none) ∧ (∀ p ∈ cs, PySem.W.CodeHd h p.1 p.2) ∧
    ∀ base : Heap, K.In base → base.Ns mainGlobals mg → (∀ p ∈ cs, LamX.TabB base mg p.1 p.2) → FnG l.prog w K mg base k fa [] (spF T 1 f)
theorem walk_GT {l : PySem.W.OpenLaw} {n k : Nat} {q : Program} {loose : List Str} {XP : (Str → Option Value) → Heap → Prop} {YP : World → Heap → Prop} {d : DefRec} {K : Params → PySem.W.Frag} {f : List D → Res D}
    (hn : l.most = some n) (hn2 : n ≤ sizeLine) (hdf : d.params.defaults = []) (hr : Room k callerA)
    (hY : ∀ (w : World) (h : Heap), YP w h → (K w.params).In h)
    (F : ∀ (w : World) (mg : Str → Option Value) (fa : Addr) (h : Heap), YP w h → (K w.params).In h → h.Ns mainGlobals mg → mg d.name = some (.ref fa) → TabsOf q (K w.params) h → LawAt l w (K w.params) k n f mg fa h)
    (hf : ∀ ns : List Int, ns.length ≤ n → (∀ z ∈ ns, Builtin.Int.intBits z ≤ 1048576) → f [.scr ns] = .ok (.bl true)) :
    PySem.W.WalkO q loose XP YP l.row.toRowW d [] (fun f vs => PySem.call f vs) := by
  refine Att.attach_callB hn hdf fun w s₀ s₁ mg mb fa o pm cd doc a vs ns G Y ho hd hcd hmg hobj hints hlen hbits hg => ?_
  have KX := hY w _ Y
  obtain ⟨T, cs, hT, hcs, h1, h2, h3, hF⟩ := F w mg fa _ Y KX G.T.g hmg (fun x c P hx ht => by
    obtain ⟨dd, hd⟩ := Option.isSome_iff_exists.mp hx
    exact PySem.W.tab_of G.T KX hd ht)
  refine law_callGT (cs := cs) KX G.T.g G.T.b G.T.builtins G.T.nolimit hg h1 h2 h3 G.T.bmain hobj hints (Nat.le_trans hlen hn2) (callerRm hr) hF fun H hH hS => ?_
  have sc : Rep T (fun b => if b = a then H a else none) (.scr ns) (.ref a) := by
    refine ⟨a, rfl, ?_⟩
    rw [hT]
    rcases hS with hS | hS
    · refine .inl ?_
      rcases hS with hS | ⟨o, hS⟩
      · exact .inl ((if_pos rfl).trans hS)
      · exact .inr ⟨o, (if_pos rfl).trans hS⟩
    · exact .inr hS
  have tn : ∀ p ∈ cs, p.2 ≠ a := fun p hp z => by
    have e1 := hH p hp
    rw [z] at e1
    rcases hS with hS | ⟨o, its, nn, hk, r⟩
    · rcases hS with hS | ⟨o, hS⟩
      · rw [e1] at hS; cases hS
      · rw [e1] at hS; cases hS
    · have e2 := h2 p hp
      rw [z] at e2
      rw [e2] at hk; cases hk
  refine ⟨rfl, (fun b => if b = a then H a else none), [.scr ns], ⟨⟨fun b o h _ => ?_, fun b o h => ?_⟩, fun p hp => ?_⟩, ⟨_, _, rfl, sc, rfl⟩, ?_⟩
  · by_cases z : b = a
    · rw [if_pos z] at h; rw [z]; exact h
    · rw [if_neg z] at h; cases h
  · by_cases z : b = a
    · rw [if_pos z] at h; rw [z]; exact ⟨_, h⟩
    · rw [if_neg z] at h; cases h
  · obtain ⟨c, hc⟩ := hcs p hp
    refine LamX.TabS.nil ?_
    rw [off_at (if_neg (tn _ hc))]
    exact hH _ hc
  · rw [hf ns hlen hbits]
    exact fun v G' H' g r => r
end Fw
end

section
set_option Elab.async false
set_option linter.all false
set_option maxRecDepth 100000
set_option maxHeartbeats 4000000
set_option autoImplicit false
/-! # bool(x) by an own __len__; list(x) as one's own; x[::-1]; a, b, .. = .. -/
namespace Fw
open PySem PySem.W PySem.Spec PySem.Calls PyProof.Rows
section
variable {prog : Program} {w : World} {A : Around} {E : Value → Shared → Prop} {s : Shared} {K : Frag} {x C f : Addr} {ox : Obj} {od : Option Obj}
theorem len_body_own {Q : Value → Shared → Prop} (X : K.In s.heap) (I : InstAt s.heap x ox C od) (hs : findIn K (.ref C) "__len__" = some (some (.ref f))) (hf : isFn K (.ref f) = true)
    (h : wpAny (model prog w) A (call (.ref f) [.ref x]) (PySem.W.LenBack Q) E s) : wpAny (model prog w) A (Builtin.«len» ⟨[.ref x], []⟩) (fun fin s' => ∃ r, fin = .done (.ret r) ∧ Q r s') E s := by
  unfold Builtin.«len»
  refine wpAny_bind (m := oneArg "len" _) (wpAny_pure ?_)
  refine wpAny_bind (m := callSpecial? (.ref x) (Str.ofString "__len__")) (special_fn X I hs (beq_iff_eq.mp hf) (wpAny_mono h (fun r s' hr => ?_) fun _ _ y => y))
  cases r <;> first | exact hr.elim | skip
  rename_i n u
  obtain ⟨⟨h0, h1⟩, hq⟩ := hr
  refine wpAny_bind (wpAny_holding (wpAny_pure ?_))
  refine wpAny_bind (wpAny_letGo ?_)
  show wpAny _ _ (if n < 0 then _ else _) _ _ _
  rw [if_neg (by omega)]
  show wpAny _ _ (if n ≥ 2 ^ 63 then _ else _) _ _ _
  rw [if_neg (by omega)]
  exact wpAny_bind (wpAny_mkInt (wpAny_pure ⟨_, rfl, hq⟩))
theorem truthy_own {Q : Bool → Shared → Prop} (X : K.In s.heap) (I : InstAt s.heap x ox C od) (hb : findIn K (.ref C) "__bool__" = some none) (hs : findIn K (.ref C) "__len__" = some (some (.ref f))) (hf : isFn K (.ref f) = true)
    (h : wpAny (model prog w) A.in1 (call (.ref f) [.ref x]) (PySem.W.LenBack fun v s' => ∃ n t, v = .int n t ∧ Q (n != 0) s') E s) : wpAny (model prog w) A (truthy (.ref x)) Q E s := by
  have key : wpAny (model prog w) A (runValue (.builtin "len" ⟨[.ref x], []⟩)) (fun r s' => ∃ n t, r = .int n t ∧ Q (n != 0) s') E s := by
    refine wpAny_runValue (codeAny_builtin entry_len ?_)
    rw [Around.under_plainId plain_len _]
    exact wpAny_mono (len_body_own X I hs hf h) (fun fin s' h' => by obtain ⟨r, rfl, hq⟩ := h'; exact hq) fun _ _ e => e
  unfold truthy
  refine wpAny_bind (m := callSpecial? (.ref x) (Str.ofString "__bool__")) (wpAny_bind (wpAny_bind (I.type.here ((looks_findIn X hb).here (wpAny_pure ?_)))))
  refine wpAny_bind (wpAny_bind (I.type.here ((looks_findIn X hs).here ?_)))
  refine wpAny_bind (wpAny_mono key (fun r s' hr => ?_) fun _ _ e => e)
  obtain ⟨n, t, rfl, hq⟩ := hr
  exact wpAny_pure hq
theorem call_bool_own {Q : Value → Shared → Prop} (X : K.In s.heap) (I : InstAt s.heap x ox C od) (hb : findIn K (.ref C) "__bool__" = some none) (hs : findIn K (.ref C) "__len__" = some (some (.ref f))) (hf : isFn K (.ref f) = true)
    (h : wpAny (model prog w) A.in1.in1.in1 (call (.ref f) [.ref x]) (PySem.W.LenBack fun v s' => ∃ n t, v = .int n t ∧ Q (.bool (n != 0)) s') E s) : wpAny (model prog w) A (call (.type "bool") [.ref x]) Q E s := by
  refine callType_codes (T := "bool") (Bi := Builtin.«object.__init__») (Q₁ := fun r s₁ => ∃ b, r = .bool b ∧ Q r s₁) PySem.F.called_bool (PySem.F.typeCall_bool_1 _) PySem.F.entry_object_init ?_ ?_
  · refine codeAny_of_tree ?_
    show wpAny _ A.in1.in1 (do checkBuiltinCall "bool.__new__" ⟨[.type "bool", .ref x], []⟩; again (.builtin "bool.__new__" ⟨[.type "bool", .ref x], []⟩)) _ _ s
    refine wpAny_bind (wpAny_of_eq (PySem.F.newCall_bool_1 _) (wpAny_pure ⟨plainId_quiet (by decide +kernel) _, codeAny_builtin PySem.F.entry_bool_new ?_⟩))
    rw [Around.under_plainId (by decide +kernel) _]
    unfold Builtin.«bool.__new__»
    refine wpAny_bind (wpAny_pure ?_)
    refine wpAny_bind (wpAny_of_eq PySem.F.conv_sub_bool ?_)
    refine wpAny_bind (m := someArgs "bool" 0 1 _) (wpAny_pure ?_)
    have key := truthy_own (A := A.in1.in1) (prog := prog) (w := w) (E := E) (Q := fun b s' => Q (.bool b) s') X I hb hs hf h
    exact wpAny_bind (wpAny_mono key (fun b s₁ hr => wpAny_pure ⟨b, rfl, hr⟩) fun _ _ y => y)
  · rintro obj s₁ ⟨b, rfl, hq⟩
    exact ⟨rfl, PySem.F.args_object_init_2 _ _, object_init_meets PySem.F.called_bool.init.lookup PySem.F.called_bool.made (by decide) prog w A.in1 _ s₁ ⟨rfl, rfl, hq⟩⟩
end
end Fw
namespace Fw
open PySem PySem.Spec L2 Evl
section
variable {X : Cx} {T : Tx} {W : WishX} {k : Nat} {C g : Addr} {c : Str} {fm : List D → Res D} {e : Expr} {m : MM D} {p pos : Pos}
theorem run_in3 {f : Addr} {sp : Sp} {W : WX} {pins : List (Addr × Obj)} {σ : L2.St} {H : Hp} {s : Shared} {Q : VK} {us : List Value} {vs : List V} (F : FnG X.prog X.w X.K X.mg X.base k f [] sp) (hr : Rm (k + 3) X.A) (tk : Takes X W)
    (I : Inv X pins σ H s) (r : Vals vs us) (h : sp vs H Q (WE W σ)) : wpAny (model X.prog X.w) X.A.in1.in1.in1 (call (.ref f) us) (EP X pins σ Q) X.xe s := by
  refine wpAny_call (codeAny_mono (F X.A.in1.in1.in1 X.stack s H us [] vs [] Q (WE W σ) (Rm.in1 (Rm.in1 (Rm.in1 hr))) I.env0.in1.in1.in1 r .nil rfl (by rw [List.append_nil]; exact h)) fun r s' hq => ?_)
  match r, hq with
  | .error e, hq => exact passAt tk σ pins H s e s' I hq
  | .ok (.ret u), hq => exact I.after hq
  | .ok .next, hq => exact hq
  | .ok .brk, hq => exact hq
  | .ok .cont, hq => exact hq
def boolO (c : Str) (fm : List D → Res D) (m : MM D) : MM D := fun β => (m β).bind fun p => match objOf c p.1 with
  | some _ => (fm [p.1]).bind fun d => match d with
    | .int n => if 0 ≤ n ∧ n < 2 ^ 63 then .ok (.bl (n != 0), p.2) else .bad
    | _ => .bad
  | none => .bad
theorem bool_sp {A : Nat → Option Addr} {F G H : Hp} {σ : L2.St} {β : En} {Q : VK} {ds : List D} {vs : List V} (s : SI T A F G H σ β) (r : RepL T G ds vs) (hn : ds.length = 1)
    (po : PostE T A W F G σ ((fm ds).bind fun d => match d with
      | .int n => if 0 ≤ n ∧ n < 2 ^ 63 then .ok (.bl (n != 0), β) else .bad
      | _ => .bad) Q) : spF T 1 fm vs H (fun v H' => ∃ n, v = .int n ∧ (0 ≤ n ∧ n < 2 ^ 63) ∧ Q (.bl (n != 0)) H') (WE W σ) := by
  refine ⟨by rw [r.length]; exact hn, G, ds, s.gg, r, ?_⟩
  cases hf : fm ds with
  | ok d =>
    rw [hf] at po
    dsimp only [Res.bind_ok] at po
    split at po
    · rename_i n
      split at po
      · rename_i hk
        exact fun v G2 H2 gr rp => ⟨n, rp, hk, po _ G2 H2 gr.gg (s.grow gr) rfl⟩
      · exact po.elim
    · exact po.elim
  | exc c fs =>
    rw [hf] at po
    exact fun C dx ys G' H' hc gr hx rf => po C dx ys G' H' hc gr.gg gr.gh (s.fh.trans gr.hh) (s.dj.grow s.fh gr) hx rf
  | bad => rw [hf] at po; exact po.elim
theorem me_boolO (hc : T.cl c = some C) (M : Meth X.K C "__len__" g) (hb : PySem.W.findIn X.K (.ref C) "__bool__" = some none) (F : FnG X.prog X.w X.K X.mg X.base k g [] (spF T 1 fm)) (hr : Rm (k + 3) X.A) (tk : Takes X W) (hg : Gl X "bool") (hm : X.mg "bool" = none) (he : ME X T W e m) (hs : starEach [e] X.env = [(false, eval e X.env)] := by rfl) :
    ME X T W (.Call (.Name "bool" p) [e] [] pos) (boolO c fm m) := by
  refine ⟨fun pins s σ H Q I ⟨A, F0, G, β, si, po⟩ => ?_⟩
  refine wpAny_Call_Name_kw (ld_blt I hg hm (show bootBuiltins "bool" = some (.type "bool") by decide +kernel) ?_ (by decide) (by decide))
  refine PyProof.Rows.callWith_type1 (thn ((pa_cons he pa_nil hs).run pos pins s σ H (fun vs H1 => match vs with
    | [v] => ∃ a dx fs, v = .ref a ∧ H1 a = some (.ins C dx fs) ∧ spF T 1 fm [v] H1 (fun v H' => ∃ n, v = .int n ∧ (0 ≤ n ∧ n < 2 ^ 63) ∧ Q (.bl (n != 0)) H') (WE W σ)
    | _ => False) I ⟨A, F0, G, β, si, ?_⟩) fun us s1 ⟨vs, H1, I1, r1, q1⟩ => ?_) hs rfl
  · refine PostE.bindE po fun d β1 v G1 H1 e1 s1 r1 p1 => ?_
    cases ho : objOf c d with
    | none => dsimp only at p1; rw [ho] at p1; exact p1.elim
    | some fs =>
      dsimp only at p1
      rw [ho] at p1
      obtain ⟨rfl, a, dx, ys, rfl, ha⟩ := objOf_rep hc ho r1
      exact ⟨a, dx, ys, rfl, s1.gh _ _ ha, bool_sp s1 (ds := [.obj c fs]) ⟨_, _, rfl, r1, rfl⟩ rfl p1⟩
  · match vs, r1, q1 with
    | [v], .cons r .nil, q1' =>
      obtain ⟨a, dx, fs, ev, ha, sp⟩ := q1'
      subst ev
      cases r
      obtain ⟨ox, od, J⟩ := inst_of I1 ha
      refine call_bool_own I1.kIn J hb M.at_ M.fn (wpAny_mono (run_in3 (vs := [.ref a]) F hr tk I1 (.cons rfl .nil) sp) (fun u s2 hu => ?_) fun _ _ z => z)
      obtain ⟨v, H2, I2, rv, n, ev, hn, q⟩ := hu
      subst ev
      obtain ⟨t, rfl⟩ := rv
      exact ⟨hn, n, _, rfl, .bl (n != 0), H2, I2.tok _, rfl, q⟩
/-! ### list(x), one's own -/
def listFM (m : MM (List D)) : MM (List D) := fun β => (m β).bind fun p => match p.1 with
  | [.lst ds] => .ok (ds, p.2)
  | [.tup ds] => .ok (ds, p.2)
  | _ => .bad
theorem mf_list {m : MM (List D)} (hK : X.K = T.K) (hg : Gl X "list") (hm : X.mg "list" = none) (ha : MA X T W [e] m) (he : starEach [e] X.env = [(false, eval e X.env)] := by rfl) : MF X T W (.Call (.Name "list" p) [e] [] pos) (listFM m) := by
  refine pe_imp (pe_callTy (x := "list") (T := "list") call_list_of hg hm (by decide +kernel) ha (by decide) (by decide) he rfl) fun σ H Q ⟨A, F, G, β, s, p⟩ => ⟨A, F, G, β, s, ?_⟩
  have p' : PostF T A W F G σ ((m β).bind fun p => match p.1 with
    | [.lst ds] => .ok (ds, p.2)
    | [.tup ds] => .ok (ds, p.2)
    | _ => .bad) Q := p
  match m β, p' with
  | .ok (ds, β'), p' =>
    intro vs G' H' e s' r
    dsimp only [Res.bind_ok] at p'
    split at p'
    · obtain ⟨v, rfl, a, ys, rfl, h1, r1⟩ := r.one
      refine ⟨a, ys, rfl, .inl (sq_of (s'.gh _ _ h1)), fun l hl => ?_⟩
      obtain ⟨s2, g0, f0, no⟩ := s'.fresh (o := .lst ys) hl
      exact p' l ys G' _ e s2 upd_same g0 f0 no r1
    · obtain ⟨v, rfl, a, ys, rfl, h1, r1⟩ := r.one
      refine ⟨a, ys, rfl, .inr (by rw [hK]; exact ex_t s'.gh h1.sq), fun l hl => ?_⟩
      obtain ⟨s2, g0, f0, no⟩ := s'.fresh (o := .lst ys) hl
      exact p' l ys G' _ e s2 upd_same g0 f0 no r1
    · exact p'.elim
  | .exc c fs, p' => exact p'
  | .bad, p' => exact p'
/-! ### x[::-1] -/
def revF (d : D) : Res D := match d with
  | .lst ds => .ok (.lst ds.reverse)
  | _ => .bad
theorem RepL.rev {G : Hp} : ∀ {ds : List D} {vs : List V}, RepL T G ds vs → RepL T G ds.reverse vs.reverse
  | [], _, h => by
    obtain rfl : _ = [] := h
    exact rfl
  | _ :: _, _, h => by
    obtain ⟨w, t, rfl, a, b⟩ := h
    rw [List.reverse_cons, List.reverse_cons]
    exact (RepL.rev b).append ⟨w, [], rfl, a, rfl⟩
theorem me_rev {kk : Nat} {p1 p2 p3 : Pos} (he : ME X T W e m) : ME X T W (.Subscript e (.Slice none none (some (.UnaryOp .USub (.Constant (.int 1) kk p1) p2)) p3) pos) (unM revF m) := by
  refine pe_imp (pe_revL he) fun σ H Q ⟨A, F, G, β, s, p⟩ => ⟨A, F, G, β, s, p.bindE fun d β1 v G1 H1 e1 s1 r1 p1 => ?_⟩
  have p2 := p1.prim s1
  cases d with
  | lst ds =>
    obtain ⟨a, xs, rfl, h1, r⟩ := r1
    exact ⟨a, xs, rfl, sq_of (s1.gh _ _ h1), fun l hl => p2.lst s1.gh r.rev hl⟩
  | _ => exact p2.elim
end
end Fw
end

section
set_option Elab.async false
set_option linter.all false
set_option maxRecDepth 100000
set_option maxHeartbeats 4000000
set_option autoImplicit false
/-! # a, b, .. = x, y, ..: data and fresh things -/
namespace Fw
open PySem PySem.Spec L2 Evl
/-- bindings for some values: data, and fresh things that nobody else has -/
def RepN (T : Tx) (F G H : Hp) (σ : St) (β : En) : List B → List V → Prop
  | [], vs => vs = []
  | b :: bs, vs => ∃ v r, vs = v :: r ∧ b.pin = false ∧ BRep T F G H v b ∧ (b.own = true → ∀ p, v = .ref p → NotOwn σ β p ∧ ∀ q ∈ bs.zip r, q.1.own = true → q.2 ≠ .ref p) ∧ RepN T F G H σ β bs r
def PostN (T : Tx) (A : Nat → Option Addr) (W : WishX) (F G : Hp) (σ : St) (r : Res (List B × En)) (Q : List V → Hp → Prop) : Prop :=
  match r with
  | .ok (bs, β') => ∀ vs G' H', Ex G G' → SI T A F G' H' σ β' → RepN T F G' H' σ β' bs vs → Q vs H'
  | .exc c fs => PostX T W F G σ c fs
  | .bad => False
def tN (T : Tx) (W : WishX) (m : MM (List B)) : TA := fun σ H Q => ∃ A F G β, SI T A F G H σ β ∧ PostN T A W F G σ (m β) Q
abbrev MN (X : Cx) (T : Tx) (W : WishX) (es : List Expr) (m : MM (List B)) : Prop := PA X es (tN T W m)
theorem PostN.mono {T : Tx} {A : Nat → Option Addr} {W : WishX} {F G G' : Hp} {σ : St} {r : Res (List B × En)} {Q : List V → Hp → Prop} (e : Ex G G') (h : PostN T A W F G σ r Q) : PostN T A W F G' σ r Q := by
  match r, h with
  | .ok (d, β'), h => exact fun v G2 H2 e2 => h v G2 H2 (e.trans e2)
  | .exc c fs, h => exact PostX.mono e h
  | .bad, h => exact h
theorem RepN.keep {T : Tx} {F F' G H H' : Hp} {σ : St} {β : En} (f : ∀ a, F' a = none → F a = none) (k : ∀ a o, H a = some o → NT o → F' a = none → H' a = some o) : ∀ {bs : List B} {vs : List V}, RepN T F' G H σ β bs vs → RepN T F G H' σ β bs vs
  | [], _, h => h
  | b :: bs, vs, h => by
    obtain ⟨v, r, e, hp, hb, ho, hr⟩ := h
    refine ⟨v, r, e, hp, ?_, ho, RepN.keep f k hr⟩
    cases b with
    | im d => exact hb
    | ol q ds => obtain ⟨a, e1, g1, f1, r⟩ := hb; exact ⟨a, e1, g1, f a f1, r.mono (Ex.refl _) fun o h n => k a o h n f1⟩
    | od q ds => obtain ⟨a, e1, g1, f1, r⟩ := hb; exact ⟨a, e1, g1, f a f1, r.mono (Ex.refl _) fun o h n => k a o h n f1⟩
    | oi q c fs => obtain ⟨a, e1, g1, f1, r⟩ := hb; exact ⟨a, e1, g1, f a f1, r.mono (Ex.refl _) fun o h n => k a o h n f1⟩
    | fn q => exact hb
theorem RepN.addr {T : Tx} {F G H : Hp} {σ : St} {β : En} : ∀ {bs : List B} {vs : List V}, RepN T F G H σ β bs vs → ∀ q ∈ bs.zip vs, q.1.own = true → ∃ p, q.2 = .ref p ∧ F p = none ∧ H p ≠ none
  | [], _, h, q, hq, _ => by simp at hq
  | b :: bs, vs, h, q, hq, ho => by
    obtain ⟨v, r, e, hp, hb, _, hr⟩ := h
    subst e
    rw [List.zip_cons_cons, List.mem_cons] at hq
    rcases hq with rfl | hq
    · cases b with
      | im d => cases ho
      | ol _ ds => obtain ⟨a, e1, g1, f1, r⟩ := hb; exact ⟨a, e1, f1, r.there⟩
      | od _ ds => obtain ⟨a, e1, g1, f1, r⟩ := hb; exact ⟨a, e1, f1, r.there⟩
      | oi _ c fs => obtain ⟨a, e1, g1, f1, r⟩ := hb; exact ⟨a, e1, f1, r.there⟩
      | fn q => cases ho
    · exact RepN.addr hr q hq ho
def nilN : MM (List B) := fun β => .ok ([], β)
def daN (m1 : MM D) (m2 : MM (List B)) : MM (List B) := fun β => (m1 β).bind fun p => (m2 p.2).bind fun q => .ok (.im p.1 :: q.1, q.2)
def flN (m1 : MM (List D)) (m2 : MM (List B)) : MM (List B) := fun β => (m1 β).bind fun p => (m2 p.2).bind fun q => .ok (.ol false p.1 :: q.1, q.2)
def fdN (m2 : MM (List B)) : MM (List B) := fun β => (m2 β).bind fun q => .ok (.od false [] :: q.1, q.2)
section
variable {X : Cx} {T : Tx} {W : WishX} {a : Expr} {es : List Expr} {m1 : MM D} {m2 : MM (List B)} {pos : Pos}
theorem mn_nil : MN X T W [] nilN := pa_imp pa_nil fun σ H Q ⟨A, F, G, β, s, p⟩ => p [] G H (Ex.refl _) s rfl
theorem mn_da (ha : ME X T W a m1) (hr : MN X T W es m2) (hs : starEach (a :: es) X.env = (false, eval a X.env) :: starEach es X.env := by rfl) : MN X T W (a :: es) (daN m1 m2) := by
  refine pa_imp (pa_cons ha hr hs) fun σ H Q ⟨A, F, G, β, s, p⟩ => ⟨A, F, G, β, s, ?_⟩
  unfold daN at p
  cases h1 : m1 β with
  | exc c fs => rw [h1] at p; exact p
  | bad => rw [h1] at p; exact p
  | ok q =>
    obtain ⟨d, β1⟩ := q
    rw [h1] at p
    intro v G1 H1 e1 s1 r1
    have p1 := PostN.mono e1 p
    dsimp only [Res.bind_ok] at p1
    refine ⟨A, F, G1, β1, s1, ?_⟩
    cases h2 : m2 β1 with
    | exc c fs => rw [h2] at p1; exact p1
    | bad => rw [h2] at p1; exact p1
    | ok q =>
      obtain ⟨bs, β2⟩ := q
      rw [h2] at p1
      exact fun vs G2 H2 e2 s2 r2 => p1 _ G2 H2 e2 s2 ⟨v, vs, rfl, rfl, r1.mono e2, (fun z => nomatch z), r2⟩
/-- a fresh thing at p, then the rest -/
theorem PostN.fr {A : Nat → Option Addr} {F G1 H1 : Hp} {σ : St} {β1 : En} {b : B} {p : Addr} {o : HO} {Q : List V → Hp → Prop} (hp : b.pin = false) (n : ¬ TC o) (s1 : SI T A F G1 H1 σ β1) (ho : H1 p = some o) (g1 : G1 p = none) (f1 : F p = none) (no : NotOwn σ β1 p)
    (rb : ∀ G2 H2, Ex G1 G2 → H2 p = some o → G2 p = none → BRep T F G2 H2 (.ref p) b)
    (po : PostN T A W F G1 σ ((m2 β1).bind fun q => .ok (b :: q.1, q.2)) Q) : ∃ A F G β, SI T A F G H1 σ β ∧ PostN T A W F G σ (m2 β) (fun vs H' => Q (.ref p :: vs) H') := by
  have sub : Ex F (upd F p o) := Ex.new f1
  refine ⟨A, upd F p o, G1, β1, s1.wide ho g1 no f1 n, ?_⟩
  cases h2 : m2 β1 with
  | exc c fs =>
    rw [h2] at po
    exact fun C dx ys G' H' hC e gh fh dj => po C dx ys G' H' hC e gh (sub.trans fh) (dj.narrow f1)
  | bad => rw [h2] at po; exact po
  | ok q =>
    obtain ⟨bs, β2⟩ := q
    rw [h2] at po
    intro vs G2 H2 e2 s2 r2
    obtain ⟨s3, h3, g3, no3⟩ := s2.narrow f1 n
    have far : ∀ q ∈ bs.zip vs, q.1.own = true → q.2 ≠ .ref p := fun q hq hw z => by
      obtain ⟨a, e1, f2, _⟩ := r2.addr q hq hw
      rw [z] at e1
      cases e1
      rw [upd_same] at f2
      cases f2
    exact po _ G2 H2 e2 s3 ⟨.ref p, vs, rfl, hp, rb G2 H2 e2 h3 g3, (fun _ z ez => by cases ez; exact ⟨no3, far⟩), r2.keep (fun a h => fresh_back sub h) fun a o h _ _ => h⟩
theorem mn_fl {m1 : MM (List D)} (ha : MF X T W a m1) (hr : MN X T W es m2) (hs : starEach (a :: es) X.env = (false, eval a X.env) :: starEach es X.env := by rfl) : MN X T W (a :: es) (flN m1 m2) := by
  refine pa_imp (pa_cons ha hr hs) fun σ H Q ⟨A, F, G, β, s, p⟩ => ⟨A, F, G, β, s, ?_⟩
  unfold flN at p
  cases h1 : m1 β with
  | exc c fs => rw [h1] at p; exact p
  | bad => rw [h1] at p; exact p
  | ok q =>
    obtain ⟨ds, β1⟩ := q
    rw [h1] at p
    intro l xs G1 H1 e1 s1 hx g1 f1 no r1
    have p1 := PostN.mono e1 p
    dsimp only [Res.bind_ok] at p1
    exact PostN.fr (b := .ol false ds) rfl (by (intro z; rcases z with ⟨_, z⟩ | ⟨_, _, z⟩ <;> first | (cases z; done) | (unfold LamX.CodeO at z; cases z))) s1 hx g1 f1 no (fun G2 H2 e2 h2 g2 => ⟨l, rfl, g2, f1, xs, h2, r1.mono e2⟩) p1
theorem mn_fd {dpos : Pos} (hr : MN X T W es m2) (hs : starEach (.Dict [] [] dpos :: es) X.env = (false, eval (.Dict [] [] dpos) X.env) :: starEach es X.env := by rfl) : MN X T W (.Dict [] [] dpos :: es) (fdN m2) := by
  refine pa_imp (pa_cons pe_dnewK hr hs) fun σ H Q ⟨A, F, G, β, s, p⟩ => fun l hl => ?_
  obtain ⟨s2, g0, f0, no⟩ := s.fresh (o := .dK []) hl
  exact PostN.fr (b := .od false []) rfl (by (intro z; rcases z with ⟨_, z⟩ | ⟨_, _, z⟩ <;> first | (cases z; done) | (unfold LamX.CodeO at z; cases z))) s2 upd_same g0 f0 no (fun G2 H2 e2 h2 g2 => ⟨l, rfl, g2, f0, [], h2, rfl⟩) p
end
/-! ### the stores -/
def setN : List Nat → List B → En → Res En
  | [], [], β => .ok β
  | i :: is, b :: bs, β => (setB i b β).bind fun β1 => setN is bs β1
  | _, _, _ => .bad
def setSt : List Nat → List V → St → St
  | i :: is, v :: vs, σ => setSt is vs (σ.set i (some v))
  | _, _, σ => σ
theorem RepN.set {T : Tx} {F G H : Hp} {σ : St} {β : En} {i : Nat} {b : B} {v : V} (hi : i < β.length) (hσ : i < σ.length) : ∀ {bs : List B} {vs : List V}, (b.own = true → ∀ p, v = .ref p → ∀ q ∈ bs.zip vs, q.1.own = true → q.2 ≠ .ref p) → RepN T F G H σ β bs vs → RepN T F G H (σ.set i (some v)) (β.set i (some b)) bs vs
  | [], _, _, h => h
  | c :: bs, vs, far, h => by
    obtain ⟨u, r, e, hp, hb, ho, hr⟩ := h
    subst e
    have far2 : b.own = true → ∀ p, v = .ref p → ∀ q ∈ bs.zip r, q.1.own = true → q.2 ≠ .ref p := fun h1 p h2 q hq => far h1 p h2 q (by rw [List.zip_cons_cons]; exact List.mem_cons_of_mem _ hq)
    refine ⟨u, r, rfl, hp, hb, fun hc p hu => ⟨fun j d hj hd hv => ?_, (ho hc p hu).2⟩, RepN.set hi hσ far2 hr⟩
    by_cases z : j = i
    · subst z
      rw [List.getElem?_set_self hi] at hj
      rw [List.getElem?_set_self hσ] at hv
      cases hj
      cases hv
      exact far hd p rfl (c, u) (by rw [List.zip_cons_cons]; exact List.mem_cons_self) hc hu
    · rw [List.getElem?_set_ne (Ne.symm z)] at hj hv
      exact (ho hc p hu).1 j d hj hd hv
theorem SI.setN {T : Tx} {A : Nat → Option Addr} {F G H : Hp} : ∀ {is : List Nat} {bs : List B} {vs : List V} {σ : St} {β β' : En}, SI T A F G H σ β → RepN T F G H σ β bs vs → setN is bs β = .ok β' → SI T A F G H (setSt is vs σ) β'
  | [], [], vs, σ, β, β', s, r, h => by
    obtain rfl : vs = [] := r
    cases h
    exact s
  | [], _ :: _, _, _, _, _, _, _, h => nomatch h
  | _ :: _, [], _, _, _, _, _, _, h => nomatch h
  | i :: is, b :: bs, vs, σ, β, β', s, r, h => by
    obtain ⟨v, r', e, hp, hb, ho, hr⟩ := r
    subst e
    unfold Fw.setN at h
    cases h1 : setB i b β with
    | exc c fs => rw [h1] at h; cases h
    | bad => rw [h1] at h; cases h
    | ok β1 =>
      rw [h1] at h
      dsimp only [Res.bind_ok] at h
      obtain ⟨i1, i2, i3⟩ := setB_ok h1
      subst i2
      show SI T A F G H (setSt is r' (σ.set i (some v))) β'
      exact SI.setN (s.set i1 i3 hp hb fun hw j c p hj hc hv hσ => (ho hw p hv).1 j c hj hc hσ) (hr.set i1 (Nat.lt_of_lt_of_le i1 s.len) fun hw p hv => (ho hw p hv).2) h
theorem setN_len : ∀ {is : List Nat} {bs : List B} {β β' : En}, setN is bs β = .ok β' → is.length = bs.length
  | [], [], _, _, _ => rfl
  | [], _ :: _, _, _, h => nomatch h
  | _ :: _, [], _, _, h => nomatch h
  | i :: is, b :: bs, β, β', h => by
    unfold setN at h
    cases h1 : setB i b β with
    | exc c fs => rw [h1] at h; cases h
    | bad => rw [h1] at h; cases h
    | ok β1 =>
      rw [h1] at h
      simpa using setN_len (β := β1) h
theorem RepN.length {T : Tx} {F G H : Hp} {σ : St} {β : En} : ∀ {bs : List B} {vs : List V}, RepN T F G H σ β bs vs → vs.length = bs.length
  | [], _, h => by obtain rfl : _ = [] := h; rfl
  | b :: bs, vs, h => by
    obtain ⟨v, r, e, _, _, _, hr⟩ := h
    subst e
    simpa using hr.length
def parN (is : List Nat) (m : MM (List B)) : MM Fl := fun β => (m β).bind fun p => if p.1.length ≤ 1000 then (setN is p.1 p.2).bindB fun β' => .ok (.nx, β') else .bad
/-- names as targets -/
inductive GNs (X : Cx) : List Expr → List Nat → Prop where
  | nil : GNs X [] []
  | cons {x : Str} {i : Nat} {pos : Pos} {es : List Expr} {is : List Nat} (hN : X.N.Nodup) (hi : X.N[i]? = some x) (hx : Loc X.env.scope x) (hf : X.fn x = true ∨ X.env.scope.names.lookup x = some .local)
      (hs : (assignEach (.Name x pos :: es) X.env).map (·.2) = assign (.Name x pos) X.env :: (assignEach es X.env).map (·.2)) (r : GNs X es is) : GNs X (.Name x pos :: es) (i :: is)
theorem GNs.pgs {X : Cx} : ∀ {es : List Expr} {is : List Nat}, GNs X es is → PGs X es (fun vs σ H Q => vs.length = is.length ∧ Q (setSt is vs σ) H) := by
  intro es is h
  induction h with
  | nil => exact ⟨fun pins s σ H vs us Q I r h => by
      obtain ⟨h1, h2⟩ := h
      exact pgs_nil.run pins s σ H vs us Q I r ⟨List.eq_nil_of_length_eq_zero h1, by
        obtain rfl := List.eq_nil_of_length_eq_zero h1
        exact h2⟩⟩
  | cons hN hi hx hf hs r ih =>
    refine ⟨fun pins s σ H vs us Q I rr h => ?_⟩
    obtain ⟨h1, h2⟩ := h
    match vs, h1, h2 with
    | v :: vs, h1, h2 => exact (pgs_cons (pg_name hN hi hx hf) ih hs).run pins s σ H (v :: vs) us Q I rr ⟨v, vs, rfl, by simpa using h1, h2⟩
section
variable {X : Cx} {T : Tx} {W : WishX} {is : List Nat} {es tgs : List Expr} {m : MM (List B)} {pt pt2 pos : Pos} {kt k2 : Nat}
theorem PostN.store {A : Nat → Option Addr} {F G : Hp} {σ : St} {r : Res (List B × En)} {E : Ends} {Q : List V → Hp → Prop} (h : PostS T A W F G (r.bind fun p => if p.1.length ≤ 1000 then (setN is p.1 p.2).bindB fun β' => .ok (.nx, β') else .bad) E)
    (c : ∀ vs G' H', Ex G' H' → vs.length = is.length → vs.length ≤ 1000 → (∀ H2, Evl.Ex H' H2 → E.nx (setSt is vs σ) H2) → Q vs H') : PostN T A W F G σ r Q := by
  match r, h with
  | .ok (bs, β'), h =>
    intro vs G' H' e s' r'
    dsimp only [Res.bind_ok] at h
    split at h
    · rename_i hz
      cases h1 : setN is bs β' with
      | exc c fs => rw [h1] at h; exact h.elim
      | bad => rw [h1] at h; exact h.elim
      | ok β2 =>
        rw [h1] at h
        refine c vs G' H' s'.gh (by rw [r'.length, setN_len h1]) (by rw [r'.length]; exact hz) fun H2 e2 => ?_
        have s2 := s'.grow (Grow.side s'.gh e2)
        exact h _ G' H2 e (SI.setN s2 (r'.keep (fun _ z => z) fun a o ha _ _ => e2 a o ha) h1)
    · exact h.elim
  | .exc c fs, h => exact h σ
  | .bad, h => exact h
/-- by a tuple -/
theorem ms_parT (hK : X.K = T.K) (hc : X.calm = true) (ha : MN X T W es m) (hg : GNs X tgs is) (hs : swapsWithSole [.Tuple tgs kt pt] (.Tuple es k2 pt2) pos.line X.env = pure false := by rfl) (hw : swappedStores [.Tuple tgs kt pt] (.Tuple es k2 pt2) X.env = pure none := by rfl)
    (h1 : (assignEach [.Tuple tgs kt pt] X.env).map (·.2) = [assign (.Tuple tgs kt pt) X.env] := by rfl) (hn : (assignEach tgs X.env).length = is.length := by rfl) (hst : (assignEach tgs X.env).findIdx? (·.1) = none := by rfl) : MS X T W (.Assign [.Tuple tgs kt pt] (.Tuple es k2 pt2) pos) (parN is m) := by
  refine ps_imp (ps_asg (pe_tupP ha) (pg_tup (n := is.length) hc hg.pgs hn hst) hs hw h1) fun D σ H ⟨A, F, G, β, s, p⟩ => ?_
  refine ⟨A, F, G, β, s, PostN.store p fun vs G1 H1 e1 hl hz q => ⟨Nat.le_trans hz (by decide), fun l o hl' ho => ?_⟩⟩
  exact ⟨l, vs, rfl, .inl (.inr ⟨o, upd_same⟩), hl, hl, q _ (Evl.Ex.new hl')⟩
end
section
variable {X : Cx} {T : Tx} {W : WishX} {m : MM (List B)} {pt pt2 pos px py pz : Pos} {kt k2 : Nat} {i j l : Nat} {x y z : Str} {a b c : Expr}
theorem ms_par2N (hc : X.calm = true) (hN : X.N.Nodup) (hi : X.N[i]? = some x) (hj : X.N[j]? = some y) (hij : i ≠ j) (hx : X.env.scope.names.lookup x = some .local) (hy : X.env.scope.names.lookup y = some .local) (ha : MN X T W [a, b] m)
    (hw : swappedStores [.Tuple [.Name x px, .Name y py] kt pt] (.Tuple [a, b] k2 pt2) X.env = pure (some [x, y])) (hs : swapsWithSole [.Tuple [.Name x px, .Name y py] kt pt] (.Tuple [a, b] k2 pt2) pos.line X.env = pure false := by rfl) :
    MS X T W (.Assign [.Tuple [.Name x px, .Name y py] kt pt] (.Tuple [a, b] k2 pt2) pos) (parN [i, j] m) := by
  refine ps_imp (ps_par hc hN hi hj hij hx hy ha hw hs) fun D σ H ⟨A, F, G, β, s, p⟩ => ?_
  refine ⟨A, F, G, β, s, PostN.store p fun vs G1 H1 e1 hl hz q => ?_⟩
  match vs, hl, q with
  | [u, v], _, q => exact ⟨u, v, rfl, q H1 fun _ _ h => h⟩
theorem ms_par3N (hc : X.calm = true) (hN : X.N.Nodup) (hi : X.N[i]? = some x) (hj : X.N[j]? = some y) (hl : X.N[l]? = some z) (hij : i ≠ j) (hil : i ≠ l) (hjl : j ≠ l) (hx : X.env.scope.names.lookup x = some .local) (hy : X.env.scope.names.lookup y = some .local) (hz : X.env.scope.names.lookup z = some .local) (ha : MN X T W [a, b, c] m)
    (hw : swappedStores [.Tuple [.Name x px, .Name y py, .Name z pz] kt pt] (.Tuple [a, b, c] k2 pt2) X.env = pure (some [x, y, z])) (hs : swapsWithSole [.Tuple [.Name x px, .Name y py, .Name z pz] kt pt] (.Tuple [a, b, c] k2 pt2) pos.line X.env = pure false := by rfl) :
    MS X T W (.Assign [.Tuple [.Name x px, .Name y py, .Name z pz] kt pt] (.Tuple [a, b, c] k2 pt2) pos) (parN [i, j, l] m) := by
  refine ps_imp (ps_par3 hc hN hi hj hl hij hil hjl hx hy hz ha hw hs) fun D σ H ⟨A, F, G, β, s, p⟩ => ?_
  refine ⟨A, F, G, β, s, PostN.store p fun vs G1 H1 e1 hl hz q => ?_⟩
  match vs, hl, q with
  | [u, v, w], _, q => exact ⟨u, v, w, rfl, q H1 fun _ _ h => h⟩
end
end Fw
end

section
set_option Elab.async false
set_option linter.all false
set_option maxRecDepth 100000
set_option maxHeartbeats 4000000
set_option autoImplicit false
/-! # x + y as one's own list; x[i], y[j] = .. of lists of one's own -/
namespace Fw
open PySem PySem.Spec L2 Evl
section
variable {X : Cx} {T : Tx} {W : WishX} {a b : Expr} {m1 m2 : MM D} {pos : Pos}
def catFM (m1 m2 : MM D) : MM (List D) := fun β => (m1 β).bind fun p => (m2 p.2).bind fun q => match p.1, q.1 with
  | .lst xs, .lst ys => if xs.length + ys.length ≤ 1000000 then .ok (xs ++ ys, q.2) else .bad
  | _, _ => .bad
theorem mf_cat (ha : ME X T W a m1) (hb : ME X T W b m2) : MF X T W (.BinOp a .Add b pos) (catFM m1 m2) := by
  refine pe_imp (pe_op op_cat ha hb) fun σ H Q ⟨A, F, G, β, s, p⟩ => ⟨A, F, G, β, s, ?_⟩
  unfold catFM at p
  cases h1 : m1 β with
  | exc c fs => rw [h1] at p; exact p
  | bad => rw [h1] at p; exact p
  | ok q =>
    obtain ⟨d, β1⟩ := q
    rw [h1] at p
    intro v G1 H1 e1 s1 r1
    have p1 := PostF.mono e1 p
    dsimp only [Res.bind_ok] at p1
    refine ⟨A, F, G1, β1, s1, ?_⟩
    cases h2 : m2 β1 with
    | exc c fs => rw [h2] at p1; exact p1
    | bad => rw [h2] at p1; exact p1
    | ok q =>
      obtain ⟨d2, β2⟩ := q
      rw [h2] at p1
      intro v2 G2 H2 e2 s2 r2
      have p2 := PostF.mono e2 p1
      dsimp only [Res.bind_ok] at p2
      split at p2
      · rename_i xs ys
        split at p2
        · rename_i hz
          obtain ⟨l1, zs, rfl, hl1, q1⟩ := r1.mono e2
          obtain ⟨l2, ws, rfl, hl2, q2⟩ := r2
          refine ⟨l1, l2, zs, ws, rfl, rfl, s2.gh _ _ hl1, s2.gh _ _ hl2, ?_, fun l hl => ?_⟩
          · rw [q1.length, q2.length]
            exact sz_ok hz
          · obtain ⟨s3, g0, f0, no⟩ := s2.fresh (o := .lst (zs ++ ws)) hl
            exact p2 l (zs ++ ws) G2 _ (Ex.refl _) s3 upd_same g0 f0 no (q1.append q2)
        · exact p2.elim
      · exact p2.elim
def setL2M (i1 i2 : Nat) (k1 k2 : Int) (m : MM (List D)) : MM Fl := fun β => (m β).bind fun p => match p.1, p.2[i1]?, p.2[i2]? with
  | [a, b], some (some (.ol q1 ds1)), some (some (.ol q2 ds2)) => match ixN ds1.length k1, ixN ds2.length k2 with
    | some n1, some n2 => if i1 = i2 then .bad else .ok (.nx, (p.2.set i1 (some (.ol q1 (ds1.set n1 a)))).set i2 (some (.ol q2 (ds2.set n2 b))))
    | _, _ => .bad
  | _, _, _ => .bad
theorem ms_setL2 {i1 i2 : Nat} {k1 k2 : Int} {c1 c2 : Nat} {x y : Str} {es : List Expr} {m : MM (List D)} {px py pj1 pj2 ps1 ps2 pt pt2 : Pos} {kt kt2 : Nat} (hc : X.calm = true) (hx : X.N[i1]? = some x) (vx : Vis X.env.scope x) (hy : X.N[i2]? = some y) (vy : Vis X.env.scope y)
    (he : MA X T W es m) (dx : (x == ("__debug__" : Str)) = false := by decide) (cx : (x == ("__classdict__" : Str)) = false := by decide) (dy : (y == ("__debug__" : Str)) = false := by decide) (cy : (y == ("__classdict__" : Str)) = false := by decide)
    (ax : ∀ v, assign (.Subscript (.Name x px) (.Constant (.int k1) c1 pj1) ps1) X.env v = (do
      let ov ← holding [v] (eval (.Name x px) X.env)
      let iv ← holding [v, ov] (eval (.Constant (.int k1) c1 pj1) X.env)
      standAt ps1
      holding [v, ov, iv] (setItem ov iv v)
      release [v, ov, iv] []) := by intro _; rfl)
    (ay : ∀ v, assign (.Subscript (.Name y py) (.Constant (.int k2) c2 pj2) ps2) X.env v = (do
      let ov ← holding [v] (eval (.Name y py) X.env)
      let iv ← holding [v, ov] (eval (.Constant (.int k2) c2 pj2) X.env)
      standAt ps2
      holding [v, ov, iv] (setItem ov iv v)
      release [v, ov, iv] []) := by intro _; rfl)
    (hs : swapsWithSole [.Tuple [.Subscript (.Name x px) (.Constant (.int k1) c1 pj1) ps1, .Subscript (.Name y py) (.Constant (.int k2) c2 pj2) ps2] kt pt] (.Tuple es kt2 pt2) pos.line X.env = pure false := by rfl)
    (hw : swappedStores [.Tuple [.Subscript (.Name x px) (.Constant (.int k1) c1 pj1) ps1, .Subscript (.Name y py) (.Constant (.int k2) c2 pj2) ps2] kt pt] (.Tuple es kt2 pt2) X.env = pure none := by rfl)
    (h1 : (assignEach [.Tuple [.Subscript (.Name x px) (.Constant (.int k1) c1 pj1) ps1, .Subscript (.Name y py) (.Constant (.int k2) c2 pj2) ps2] kt pt] X.env).map (·.2) = [assign (.Tuple [.Subscript (.Name x px) (.Constant (.int k1) c1 pj1) ps1, .Subscript (.Name y py) (.Constant (.int k2) c2 pj2) ps2] kt pt) X.env] := by rfl)
    (g1 : (assignEach [.Subscript (.Name x px) (.Constant (.int k1) c1 pj1) ps1, .Subscript (.Name y py) (.Constant (.int k2) c2 pj2) ps2] X.env).map (·.2) = assign (.Subscript (.Name x px) (.Constant (.int k1) c1 pj1) ps1) X.env :: (assignEach [.Subscript (.Name y py) (.Constant (.int k2) c2 pj2) ps2] X.env).map (·.2) := by rfl)
    (g2 : (assignEach [.Subscript (.Name y py) (.Constant (.int k2) c2 pj2) ps2] X.env).map (·.2) = assign (.Subscript (.Name y py) (.Constant (.int k2) c2 pj2) ps2) X.env :: (assignEach [] X.env).map (·.2) := by rfl)
    (hn : (assignEach [.Subscript (.Name x px) (.Constant (.int k1) c1 pj1) ps1, .Subscript (.Name y py) (.Constant (.int k2) c2 pj2) ps2] X.env).length = 2 := by rfl) (hst : (assignEach [.Subscript (.Name x px) (.Constant (.int k1) c1 pj1) ps1, .Subscript (.Name y py) (.Constant (.int k2) c2 pj2) ps2] X.env).findIdx? (·.1) = none := by rfl) :
    MS X T W (.Assign [.Tuple [.Subscript (.Name x px) (.Constant (.int k1) c1 pj1) ps1, .Subscript (.Name y py) (.Constant (.int k2) c2 pj2) ps2] kt pt] (.Tuple es kt2 pt2) pos) (setL2M i1 i2 k1 k2 m) := by
  refine ps_imp (ps_asg (pe_tupP he) (pg_tup (n := 2) hc (pgs_cons (pg_sub (pe_var hx vx dx cx) pe_int set_list ax) (pgs_cons (pg_sub (pe_var hy vy dy cy) pe_int set_list ay) pgs_nil g2) g1) hn hst) hs hw h1) fun D σ H ⟨A, F, G, β, s, p⟩ => ?_
  refine ⟨A, F, G, β, s, PostS.bindA p fun ds β1 vs G1 H1 e1 s1 r1 p1 => ?_⟩
  dsimp only at p1
  split at p1
  rotate_left
  · exact p1.elim
  rename_i d1 d2 q1 ds1 q2 ds2 hb1 hb2
  obtain ⟨v, w, rfl, rv, rw'⟩ := r1.two
  cases hk1 : ixN ds1.length k1 with
  | none => rw [hk1] at p1; exact p1.elim
  | some n1 =>
    cases hk2 : ixN ds2.length k2 with
    | none => rw [hk1, hk2] at p1; exact p1.elim
    | some n2 =>
      rw [hk1, hk2] at p1
      dsimp only at p1
      split at p1
      · exact p1.elim
      rename_i hne
      refine ⟨by show (2 : Nat) ≤ sizeLine; decide, fun l o hl ho => ?_⟩
      have s2 : SI T A F G1 (upd H1 l (.frz o (.tup [v, w]))) σ β1 := s1.grow (Grow.side s1.gh (Evl.Ex.new hl))
      obtain ⟨a1, hv1, ga1, fa1, xs1, hx1, rx1⟩ := s2.ownAt hb1 rfl
      have s3 := s2.put (b' := .ol q1 (ds1.set n1 d1)) hb1 rfl hv1 ga1 rfl rfl ⟨_, upd_same, rx1.set rv n1⟩
      have hb2' : (β1.set i1 (some (.ol q1 (ds1.set n1 d1))))[i2]? = some (some (.ol q2 ds2)) := by rw [List.getElem?_set_ne hne]; exact hb2
      obtain ⟨a2, hv2, ga2, fa2, xs2, hx2, rx2⟩ := s3.ownAt hb2' rfl
      have s4 := s3.put (b' := .ol q2 (ds2.set n2 d2)) hb2' rfl hv2 ga2 rfl rfl ⟨_, upd_same, rx2.set rw' n2⟩
      refine ⟨l, [v, w], rfl, .inl (.inr ⟨o, upd_same⟩), rfl, v, [w], rfl, .ref a1, hv1, a1, xs1, k1, n1, rfl, rfl, hx1, by rw [rx1.length]; exact hk1, ?_⟩
      exact ⟨w, [], rfl, .ref a2, hv2, a2, xs2, k2, n2, rfl, rfl, hx2, by rw [rx2.length]; exact hk2, rfl, p1 σ G1 _ (Ex.refl _) s4⟩
end
end Fw
end

section
set_option Elab.async false
set_option linter.all false
set_option maxRecDepth 100000
set_option maxHeartbeats 4000000
set_option autoImplicit false
/-! # helpers for printed texts -/
namespace Fw
open PySem PySem.Spec L2 Evl
section
variable {X : Cx} {T : Tx} {W : WishX} {k : Nat} {C g : Addr} {c : Str} {fm : List D → Res D} {a b : Expr} {m1 m2 : MM D} {pos : Pos}
theorem me_eqO (hK : X.K = T.K) (CO : ClsOk T) (S : SubOk T) (hc : T.cl c = some C) (M : Meth X.K C "__eq__" g) (F : FnG X.prog X.w X.K X.mg X.base k g [] (spF T 2 fm)) (hr : Rm k X.A) (tk : Takes X W) (ha : ME X T W a m1) (hb : ME X T W b m2) (hm : behindInMarks .Eq b = false := by rfl) :
    ME X T W (.Compare a [.Eq] [b] pos) (dun2 c okBl fm m1 m2) := pe_cmp (pc_cmpO (op := .Eq) (fun _ _ => rfl) hK CO S hc M F hr tk ha hb) hm
theorem mt_eqO (hK : X.K = T.K) (CO : ClsOk T) (S : SubOk T) (hc : T.cl c = some C) (M : Meth X.K C "__eq__" g) (F : FnG X.prog X.w X.K X.mg X.base k g [] (spF T 2 fm)) (hr : Rm k X.A) (tk : Takes X W) (ha : ME X T W a m1) (hb : ME X T W b m2) (hm : behindInMarks .Eq b = false := by rfl) :
    MT X T W (.Compare a [.Eq] [b] pos) (truthM (dun2 c okBl fm m1 m2)) := pt_imp (pt_cmp (pc_cmpO (op := .Eq) (fun _ _ => rfl) hK CO S hc M F hr tk ha hb) hm) fun σ H Q h => tB_of h
theorem me_neO (hK : X.K = T.K) (CO : ClsOk T) (S : SubOk T) (hc : T.cl c = some C) (M : Meth X.K C "__eq__" g) (hne : PySem.W.findIn X.K (.ref C) "__ne__" = some (some (.builtin "object.__ne__"))) (F : FnG X.prog X.w X.K X.mg X.base k g [] (spF T 2 fm)) (hr : Rm (k + 1) X.A) (tk : Takes X W) (ha : ME X T W a m1) (hb : ME X T W b m2) (hm : behindInMarks .NotEq b = false := by rfl) :
    ME X T W (.Compare a [.NotEq] [b] pos) (neO c fm m1 m2) := pe_cmp (pc_neO hK CO S hc M hne F hr tk ha hb) hm
theorem mt_neO (hK : X.K = T.K) (CO : ClsOk T) (S : SubOk T) (hc : T.cl c = some C) (M : Meth X.K C "__eq__" g) (hne : PySem.W.findIn X.K (.ref C) "__ne__" = some (some (.builtin "object.__ne__"))) (F : FnG X.prog X.w X.K X.mg X.base k g [] (spF T 2 fm)) (hr : Rm (k + 1) X.A) (tk : Takes X W) (ha : ME X T W a m1) (hb : ME X T W b m2) (hm : behindInMarks .NotEq b = false := by rfl) :
    MT X T W (.Compare a [.NotEq] [b] pos) (truthM (neO c fm m1 m2)) := pt_imp (pt_cmp (pc_neO hK CO S hc M hne F hr tk ha hb) hm) fun σ H Q h => tB_of h
end
/-- isinstance(e, x) in a suite, x a class of the text or a built-in one -/
theorem relv_ref {a : Addr} (w : Value) (h : RelV (.ref a) w) : w = .ref a := h
theorem relv_ty {n : String} (w : Value) (h : RelV (.ty n) w) : w = .type n := h
theorem Fun.bindK {K : PySem.W.Frag} {x qual : Str} {st : Stmt} {f : Addr} {fd : FuncData} {ps ks : List Str} {ix : List Nat} {n1 : Nat} (F : Fun K x qual st f fd)
    (h : ∀ (kV doc pm : Value) (an : Option Addr) (cdv ct : Value) (us ws : List Value), us.length = n1 → ws.length = ks.length → bindArgs (PySem.W.fnOf x qual (defArgs st) (defBody st) (defScope st) .none kV doc pm an cdv ct) ⟨us, ks.zip ws⟩ = pure (ps.zip (perm ix (us ++ ws)))) :
    ∀ us ws : List Value, us.length = n1 → ws.length = ks.length → bindArgs fd ⟨us, ks.zip ws⟩ = pure (ps.zip (perm ix (us ++ ws))) := by
  obtain ⟨oc, od, kV, doc, pm, an, cdv, ct, osl, rfl, lk, hcd⟩ := F.ex
  exact h kV doc pm an cdv ct
end Fw
end

section
set_option Elab.async false
set_option linter.all false
set_option maxRecDepth 100000
set_option maxHeartbeats 4000000
set_option autoImplicit false
/-! # operators by own methods -/
namespace Fw
open PySem PySem.W PySem.Spec PySem.Calls PyProof.Rows
section
variable {prog : Program} {w : World} {A : Around} {E : Value → Shared → Prop} {s : Shared} {K : Frag} {x C L f : Addr} {h₀ : Heap} {m : Str → Option Value} {ox : Obj} {od : Option Obj} {T : String}
/-- x op b, b of a type of Python's own -/
theorem bin_ty {op : Operator} {b : Value} {fo ro rc : Option Value} {Q : Value → Shared → Prop} (F : Fr h₀ L s.heap m) (X₀ : K.In h₀) (I : InstAt s.heap x ox C od) (hb : Looks (model prog w) s.heap (typeOf b) (.type T)) (hc : selfFirst K C = true)
    (hs : findIn K (.ref C) (PySem.dunder op.info.2) = some (some (.ref f))) (hf : isFn K (.ref f) = true) (hr : findIn K (.ref C) (dunderR op.info.2) = some rc) (hp : rc = none ∨ ∃ g : Addr, rc = some (.ref g)) (h1 : findIn K (.type T) (PySem.dunder op.info.2) = some fo)
    (h2 : findIn K (.type T) (dunderR op.info.2) = some ro) (hsub : subIn K (.type T) (.ref C) = some false) (h : wpAny (model prog w) A (call (.ref f) [.ref x, b]) (W.CmpBack Q) E s) : wpAny (model prog w) A (binaryOp op (.ref x) b) Q E s := by
  have X := X₀.keeps F.keep
  obtain ⟨cd, rest, hcd, hm⟩ := ksp_first hc
  rcases hi : op.info with ⟨sym, n'⟩
  rw [hi] at hs hr h1 h2
  dsimp only at hs hr h1 h2
  have one := ksp_try X I hs hf h
  obtain ⟨hh, g, d, tt, os⟩ := s
  have k1 : Looks (model prog w) hh (typeOf (.ref x)) (.ref C) := I.type
  have k2 : Looks (model prog w) hh (typeOf b) (.type T) := hb
  have k3 : Looks (model prog w) hh (fillsNumberSlot (.ref C) n') true := fills_K X hcd hm hs
  have k4 : Looks (model prog w) hh (fillsNumberSlot (.type T) n') ((fo.isSome && !isSeqSlot fo) || (ro.isSome && !isSeqSlot ro)) := ksp_fillsT X h1 h2
  have k5 : Looks (model prog w) hh (isSubtype (.type T) (.ref C)) false := looks_subIn X hsub
  have k6 : Looks (model prog w) hh (numberSlotInPython (.ref C) n') true := ksp_inPy X hs hr hp
  have k7 : Looks (model prog w) hh (numberSlotInPython (.type T) n') false := Looks.of_pure rfl
  have k8 : Looks (model prog w) hh (typeLookup (.type T) (dunderR n')) ro := looks_findIn X h2
  generalize ((fo.isSome && !isSeqSlot fo) || (ro.isSome && !isSeqSlot ro)) = right at k4
  have hne : (Value.ref C == Value.type T) = false := Bool.eq_false_iff.mpr fun q => by cases beq_iff_eq.mp q
  simp only [binaryOp, hi]
  refine wpAny_holding (wpAny_bind ?_)
  unfold binaryOp1
  refine wpAny_bind (k1.at (wpAny_bind (k2.at (wpAny_bind (k3.at ?_)))))
  simp only [hne, Bool.false_eq_true, if_false]
  cases right <;>
  · ksp_lk
    refine wpAny_mono one (fun r s' hr' => ?_) fun _ _ e => e
    obtain ⟨v, rfl, hq⟩ := hr'
    ksp_lk
    exact hq
end
end Fw
namespace Fw
open PySem PySem.W PySem.Spec PySem.Calls PyProof.Rows
section
variable {prog : Program} {w : World} {A : Around} {E : Value → Shared → Prop} {s : Shared} {K : Frag} {x C dx L f f0 : Addr} {h₀ : Heap} {m : Str → Option Value} {ox : Obj} {od : Option Obj} {T : String}
/-- int * x : not by the int -/
theorem int_mul_body {M : Model} {a : Value} {Q : Fin → Shared → Prop} (ha : (∃ i t, a = .int i t) ∨ ∃ b, a = .bool b) (hx : s.heap.get? x = some (instObj C dx)) (h : Q (.done (.ret .notImplemented)) s) : wpAny M A (Builtin.«int.__mul__» ⟨[a, .ref x], []⟩) Q E s := by
  unfold Builtin.«int.__mul__» Builtin.Int.intBinary
  have fin : ∀ k : Option Int → Sem Fin, wpAny M A (k none) Q E s → wpAny M A (asInt? (.ref x) >>= k) Q E s := fun k hk => by
    refine wpAny_bind ?_
    unfold asInt?
    refine wpAny_bind (wpAny_load hx ?_)
    exact wpAny_pure hk
  rcases ha with ⟨i, t, rfl⟩ | ⟨b, rfl⟩
  · refine wpAny_bind (wpAny_of_eq (a := ((Value.int i t : Value), [(Value.ref x : Value)])) (by first | rfl | (simp only [slotArgs]; rfl)) ?_)
    refine wpAny_bind (wpAny_of_eq (a := i) (by rfl) ?_)
    refine fin _ ?_
    wp_walk
    exact h
  · refine wpAny_bind (wpAny_of_eq (a := ((Value.bool b : Value), [(Value.ref x : Value)])) (by first | rfl | (simp only [slotArgs]; rfl)) ?_)
    refine wpAny_bind (wpAny_of_eq (a := if b then 1 else 0) (by rfl) ?_)
    refine fin _ ?_
    wp_walk
    exact h
theorem tm1 {i : Int} {t : Tok} {Q : Option Value → Shared → Prop} (h : wpAny (model prog w) A (call (.builtin "int.__mul__") [.int i t, .ref x]) (fun v => Q (some v)) E s) : wpAny (model prog w) A (callSpecial? (.int i t) (PySem.dunder "mul") [.ref x]) Q E s := by
  refine wpAny_callSpecial?_slot (T := "int") (id := "int.__mul__") ?_ ?_ ?_
  · exact typeIs_int s i t
  · exact F.slot_int_mul
  · exact h
theorem tm1b {b : Bool} {Q : Option Value → Shared → Prop} (h : wpAny (model prog w) A (call (.builtin "int.__mul__") [.bool b, .ref x]) (fun v => Q (some v)) E s) : wpAny (model prog w) A (callSpecial? (.bool b) (PySem.dunder "mul") [.ref x]) Q E s := by
  refine wpAny_callSpecial?_slot (T := "bool") (id := "int.__mul__") ?_ ?_ ?_
  · exact PySem.typeIs_bool s b
  · exact F.slot_bool_mul
  · exact h
theorem tm2 {i : Int} {t : Tok} {Q : Value → Shared → Prop} (hx : s.heap.get? x = some (instObj C dx)) (h : Q .notImplemented s) : wpAny (model prog w) A (call (.builtin "int.__mul__") [.int i t, .ref x]) Q E s := by
  refine GQ.call_here (T := "int") (name := PySem.dunder "mul") (B := Builtin.«int.__mul__») F.slot_int_mul ?_ F.entry_int_mul ?_ ?_
  · exact typeIs_int s i t
  · exact F.args_int_mul_2 _ _
  · refine int_mul_body (.inl ⟨i, t, rfl⟩) hx ?_
    exact h
theorem tm2b {b : Bool} {Q : Value → Shared → Prop} (hx : s.heap.get? x = some (instObj C dx)) (h : Q .notImplemented s) : wpAny (model prog w) A (call (.builtin "int.__mul__") [.bool b, .ref x]) Q E s := by
  refine GQ.call_here (T := "bool") (name := PySem.dunder "mul") (B := Builtin.«int.__mul__») F.slot_bool_mul ?_ F.entry_int_mul ?_ ?_
  · exact PySem.typeIs_bool s b
  · exact F.args_int_mul_2 _ _
  · refine int_mul_body (.inr ⟨b, rfl⟩) hx ?_
    exact h
theorem int_mul_no {a : Value} {Q : Option Value → Shared → Prop} (ha : (∃ i t, a = .int i t) ∨ ∃ b, a = .bool b) (hx : s.heap.get? x = some (instObj C dx)) (h : Q none s) : wpAny (model prog w) A (tryMethod a (PySem.dunder "mul") (.ref x)) Q E s := by
  unfold tryMethod
  rcases ha with ⟨i, t, rfl⟩ | ⟨b, rfl⟩
  · refine wpAny_bind ?_
    refine tm1 (tm2 hx ?_)
    exact wpAny_pure h
  · refine wpAny_bind ?_
    refine tm1b (tm2b hx ?_)
    exact wpAny_pure h
/-- a * x, a of a type of Python's own: by x -/
theorem mul_r {a : Value} {Q : Value → Shared → Prop} (F : Fr h₀ L s.heap m) (X₀ : K.In h₀) (I : InstAt s.heap x (instObj C dx) C od) (ha : Looks (model prog w) s.heap (typeOf a) (.type T)) (hc : selfFirst K C = true) (h0 : findIn K (.ref C) (PySem.dunder "mul") = some (some (.ref f0)))
    (hs : findIn K (.ref C) (dunderR "mul") = some (some (.ref f))) (hf : isFn K (.ref f) = true)
    (hl : (∃ fo ro, findIn K (.type T) (PySem.dunder "mul") = some fo ∧ findIn K (.type T) (dunderR "mul") = some ro ∧ ((fo.isSome && !isSeqSlot fo) || (ro.isSome && !isSeqSlot ro)) = false) ∨
      (((∃ i t, a = .int i t) ∨ ∃ b, a = .bool b) ∧ fillsNumberSlot (.type T) "mul" = pure true ∧ subIn K (.ref C) (.type T) = some false))
    (h : wpAny (model prog w) A (call (.ref f) [.ref x, a]) (W.CmpBack Q) E s) : wpAny (model prog w) A (binaryOp .Mult a (.ref x)) Q E s := by
  have X := X₀.keeps F.keep
  obtain ⟨cd, rest, hcd, hm⟩ := ksp_first hc
  have one := ksp_try X I hs hf h
  have hx := I.at_
  obtain ⟨hh, g, d, tt, os⟩ := s
  have k1 : Looks (model prog w) hh (typeOf a) (.type T) := ha
  have k2 : Looks (model prog w) hh (typeOf (.ref x)) (.ref C) := I.type
  have k3 : Looks (model prog w) hh (fillsNumberSlot (.ref C) "mul") true := fills_K X hcd hm h0
  have k7 : Looks (model prog w) hh (numberSlotInPython (.type T) "mul") false := Looks.of_pure rfl
  have hne : (Value.type T == Value.ref C) = false := Bool.eq_false_iff.mpr fun q => by cases beq_iff_eq.mp q
  simp only [binaryOp, Operator.info]
  refine wpAny_holding (wpAny_bind ?_)
  unfold binaryOp1
  refine wpAny_bind (k1.at (wpAny_bind (k2.at ?_)))
  rcases hl with ⟨fo, ro, h1, h2, e⟩ | ⟨hi, hfl, hsub⟩
  · have k4 : Looks (model prog w) hh (fillsNumberSlot (.type T) "mul") false := e ▸ ksp_fillsT X h1 h2
    refine wpAny_bind (k4.at ?_)
    simp only [hne, Bool.false_eq_true, if_false]
    ksp_lk
    refine wpAny_mono one (fun r s' hr' => ?_) fun _ _ e => e
    obtain ⟨v, rfl, hq⟩ := hr'
    ksp_lk
    exact hq
  · have k4 : Looks (model prog w) hh (fillsNumberSlot (.type T) "mul") true := Looks.of_pure hfl
    have k5 : Looks (model prog w) hh (isSubtype (.ref C) (.type T)) false := looks_subIn X hsub
    refine wpAny_bind (k4.at ?_)
    simp only [hne, Bool.false_eq_true, if_false]
    ksp_lk
    refine int_mul_no hi hx ?_
    ksp_lk
    refine wpAny_mono one (fun r s' hr' => ?_) fun _ _ e => e
    obtain ⟨v, rfl, hq⟩ := hr'
    ksp_lk
    exact hq
end
end Fw
end

section
set_option Elab.async false
set_option linter.all false
set_option maxRecDepth 100000
set_option maxHeartbeats 4000000
set_option autoImplicit false
/-! # operators by own methods, as mirrors -/
namespace Fw
open PySem PySem.Spec L2 Evl
abbrev sevenT : List String := ["NoneType", "bool", "int", "str", "tuple", "list", "dict"]
/-- what of the text an operator by an own method needs -/
structure BinOk (T : Tx) (C : Addr) (nm : String) : Prop where
  sf : PySem.W.selfFirst T.K C = true
  rr : ∃ rc, PySem.W.findIn T.K (.ref C) (dunderR nm) = some rc ∧ (rc = none ∨ ∃ g : Addr, rc = some (.ref g))
  ty : ∀ t ∈ sevenT, ∃ fo ro, PySem.W.findIn T.K (.type t) (PySem.dunder nm) = some fo ∧ PySem.W.findIn T.K (.type t) (dunderR nm) = some ro
/-- no instance of another class -/
def sameOr (c : Str) : D → Bool
  | .obj c' _ => decide (c' = c)
  | _ => true
def binO (c : Str) (fm : List D → Res D) (m1 m2 : MM D) : MM D := fun β => (m1 β).bind fun p => match objOf c p.1 with
  | some fs => (m2 p.2).bind fun q => if sameOr c q.1 = true then (fm [.obj c fs, q.1]).bind fun d => if okAny d = true then .ok (d, q.2) else .bad else .bad
  | none => .bad
section
variable {X : Cx} {T : Tx} {W : WishX} {k : Nat} {C g : Addr} {c : Str} {fm : List D → Res D} {a b : Expr} {m1 m2 : MM D} {pos : Pos}
/-- the types that are no class of the text, or c itself -/
theorem side_ty {G H : Hp} {d : D} {v : V} (CO : ClsOk T) (hc : T.cl c = some C) (eg : Ex G H) (r : Rep T G d v) (h : sameOr c d = true) : (∃ t ∈ sevenT, TyX T.K H v (.type t)) ∨ TyX T.K H v (.ref C) := by
  obtain ⟨t, tx, ht⟩ := tyR CO eg r
  rcases ht with ⟨t', ht, rfl⟩ | ⟨c', fs, A, rfl, hA, rfl⟩
  · exact .inl ⟨t', tyOf_mem ht, tx⟩
  · have e : c' = c := of_decide_eq_true h
    subst e
    rw [hc] at hA
    cases hA
    exact .inr tx
theorem run_bin {op : Operator} (hK : X.K = T.K) (S : SubOk T) (hc : T.cl c = some C) (B : BinOk T C op.info.2) (M : Meth X.K C (PySem.dunder op.info.2) g) {pins : List (Addr × Obj)} {s : Shared} {σ : L2.St} {H : Hp} {y dx : Addr} {fs : List (Str × V)} {z : V} {u : Value} {Q : Value → Shared → Prop}
    (I : Inv X pins σ H s) (hy : H y = some (.ins C dx fs)) (r : RelV z u) (ht : (∃ t ∈ sevenT, TyX T.K H z (.type t)) ∨ TyX T.K H z (.ref C)) (h : wpAny (model X.prog X.w) X.A (call (.ref g) [.ref y, u]) (PySem.W.CmpBack Q) X.xe s) : wpAny (model X.prog X.w) X.A (binaryOp op (.ref y) u) Q X.xe s := by
  obtain ⟨ox, od, J⟩ := inst_of I hy
  obtain ⟨mm, fr⟩ := I.fr
  obtain ⟨sf, ⟨rc, hrc, hp⟩, ty⟩ := B
  rw [← hK] at sf hrc ty ht
  rcases ht with ⟨t, ht, tx⟩ | tx
  · obtain ⟨P, Z, hz, _⟩ := kit_of I r tx
    obtain ⟨fo, ro, h1, h2⟩ := ty t ht
    have hs := S.st c C t hc ht
    rw [← hK] at hs
    exact bin_ty fr I.ok.mod.kin J (Z.ty _ _ I.kIn hz) sf M.at_ M.fn hrc hp h1 h2 hs h
  · obtain ⟨P, Z, hz, _⟩ := kit_of I r tx
    exact PySem.W.binop_K fr I.ok.mod.kin J (Z.ty _ _ I.kIn hz) sf M.at_ M.fn h
theorem cmp_back {pins : List (Addr × Obj)} {σ : L2.St} {Q : VK} {u : Value} {s : Shared} (h : EP X pins σ Q u s) : PySem.W.CmpBack (EP X pins σ Q) u s := by
  cases u <;> first | exact h | skip
  obtain ⟨v, H, I, r, q⟩ := h
  cases v <;> first | (cases r; done) | (obtain ⟨_, r⟩ := r; cases r; done)
/-- x op y, x an instance -/
theorem me_binO {op : Operator} (hK : X.K = T.K) (CO : ClsOk T) (S : SubOk T) (hc : T.cl c = some C) (B : BinOk T C op.info.2) (M : Meth X.K C (PySem.dunder op.info.2) g) (F : FnG X.prog X.w X.K X.mg X.base k g [] (spF T 2 fm)) (hr : Rm k X.A) (tk : Takes X W) (ha : ME X T W a m1) (hb : ME X T W b m2) :
    ME X T W (.BinOp a op b pos) (binO c fm m1 m2) := by
  refine ⟨fun pins s σ H Q I ⟨A, F0, G, β, si, po⟩ => ?_⟩
  refine wpAny_BinOp (thn (ha.run pins s σ H (fun x H1 => ∃ y, x = .ref y ∧ tM T W m2 σ H1 fun z H2 => (∃ dx fs, H2 y = some (.ins C dx fs)) ∧ ((∃ t ∈ sevenT, TyX T.K H2 z (.type t)) ∨ TyX T.K H2 z (.ref C)) ∧ spF T 2 fm [.ref y, z] H2 (fun v H' => ∃ d G', okAny d = true ∧ Rep T G' d v ∧ Q v H') (WE W σ)) I ⟨A, F0, G, β, si, ?_⟩) fun u s1 ⟨x, H1, I1, r1, y, ex, q1⟩ => ?_)
  · refine PostE.bindE po fun d β1 v G1 H1 e1 s1 r1 p1 => ?_
    cases ho : objOf c d with
    | none => dsimp only at p1; rw [ho] at p1; exact p1.elim
    | some fs =>
      dsimp only at p1
      rw [ho] at p1
      obtain ⟨rfl, y, dx, ys, rfl, hy⟩ := objOf_rep hc ho r1
      refine ⟨y, rfl, A, F0, G1, β1, s1, PostE.bindE p1 fun d2 β2 v2 G2 H2 e2 s2 r2 p2 => ?_⟩
      dsimp only at p2
      split at p2
      · rename_i hs
        exact ⟨⟨dx, ys, s2.gh _ _ (e2 _ _ hy)⟩, side_ty CO hc s2.gh r2 hs, dun_sp s2 (ds := [.obj c fs, d2]) ⟨_, _, rfl, r1.mono e2, _, _, rfl, r2, rfl⟩ rfl p2⟩
      · exact p2.elim
  · subst ex
    cases r1
    refine thn (hb.run pins s1 σ H1 _ I1 q1) fun w s2 ⟨z, H2, I2, r2, ⟨dx, fs, hy⟩, ht, sp⟩ => ?_
    refine run_bin hK S hc B M I2 hy r2 ht (wpAny_mono (run_G0 (vs := [.ref y, z]) F hr tk I2 (.cons rfl (.cons r2 .nil)) sp) (fun u s3 ⟨v, H3, I3, rv, d, G', hd, rd, q⟩ => cmp_back ⟨v, H3, I3, rv, q⟩) fun _ _ z => z)
/-- a * x by x's own -/
structure RmulOk (T : Tx) (C : Addr) : Prop where
  sf : PySem.W.selfFirst T.K C = true
  ty : ∀ t ∈ (["NoneType", "str", "tuple", "list", "dict"] : List String), ∃ fo ro, PySem.W.findIn T.K (.type t) (PySem.dunder "mul") = some fo ∧ PySem.W.findIn T.K (.type t) (dunderR "mul") = some ro ∧ ((fo.isSome && !isSeqSlot fo) || (ro.isSome && !isSeqSlot ro)) = false
  sub : ∀ t ∈ (["int", "bool"] : List String), PySem.W.subIn T.K (.ref C) (.type t) = some false
/-- x * y, one of them an instance -/
def mulO (c : Str) (fm fr : List D → Res D) (m1 m2 : MM D) : MM D := fun β => (m1 β).bind fun p => (m2 p.2).bind fun q => match objOf c p.1 with
  | some fs => if sameOr c q.1 = true then (fm [.obj c fs, q.1]).bind fun d => if okAny d = true then .ok (d, q.2) else .bad else .bad
  | none => match objOf c q.1, tyOf p.1 with
    | some gs, some _ => (fr [.obj c gs, p.1]).bind fun d => if okAny d = true then .ok (d, q.2) else .bad
    | _, _ => .bad
theorem run_rmul {g0 gr : Addr} (hK : X.K = T.K) (R : RmulOk T C) (M0 : Meth X.K C (PySem.dunder "mul") g0) (M : Meth X.K C (dunderR "mul") gr) {pins : List (Addr × Obj)} {s : Shared} {σ : L2.St} {H : Hp} {y dx : Addr} {fs : List (Str × V)} {t : String} {z : V} {u : Value} {Q : Value → Shared → Prop}
    (I : Inv X pins σ H s) (hy : H y = some (.ins C dx fs)) (r : RelV z u) (ht : t ∈ sevenT) (tx : TyX T.K H z (.type t)) (hi : t = "int" → ∃ i, z = .int i) (hb : t = "bool" → ∃ k, z = .bl k) (h : wpAny (model X.prog X.w) X.A (call (.ref gr) [.ref y, u]) (PySem.W.CmpBack Q) X.xe s) : wpAny (model X.prog X.w) X.A (binaryOp .Mult u (.ref y)) Q X.xe s := by
  obtain ⟨mA, O, rr, _, _, _⟩ := ins_get I.hok hy
  obtain ⟨od, J, hl⟩ := O.look
  obtain ⟨mm, fr⟩ := I.fr
  obtain ⟨sf, ty, sub⟩ := R
  rw [← hK] at sf ty tx sub
  obtain ⟨P, Z, hz, _⟩ := kit_of I r tx
  refine mul_r fr I.ok.mod.kin J (Z.ty _ _ I.kIn hz) sf M0.at_ M.at_ M.fn ?_ h
  have five : t ∈ (["NoneType", "str", "tuple", "list", "dict"] : List String) ∨ t = "int" ∨ t = "bool" := by
    simp only [sevenT, List.mem_cons, List.not_mem_nil, or_false] at ht ⊢
    rcases ht with h | h | h | h | h | h | h <;> simp [h]
  rcases five with h5 | h5 | h5
  · exact .inl (ty t h5)
  · obtain ⟨i, rfl⟩ := hi h5
    obtain ⟨tk, rfl⟩ := r
    subst h5
    exact .inr ⟨.inl ⟨i, tk, rfl⟩, F.fills_int_mul, sub "int" (by simp)⟩
  · obtain ⟨i, rfl⟩ := hb h5
    cases r
    subst h5
    exact .inr ⟨.inr ⟨i, rfl⟩, F.fills_bool_mul, sub "bool" (by simp)⟩
theorem ty_int {G : Hp} {d : D} {v : V} {t : String} (h : tyOf d = some t) (r : Rep T G d v) : (t = "int" → ∃ i, v = .int i) ∧ (t = "bool" → ∃ k, v = .bl k) := by
  cases d <;> first | (cases (show none = some t from h); done) | (cases h; refine ⟨fun e => ?_, fun e => ?_⟩ <;> first | exact absurd e (by decide) | exact ⟨_, r⟩)
theorem me_mulO {gr : Addr} {fr : List D → Res D} {k2 : Nat} (hK : X.K = T.K) (CO : ClsOk T) (S : SubOk T) (hc : T.cl c = some C) (B : BinOk T C "mul") (R : RmulOk T C) (M : Meth X.K C (PySem.dunder "mul") g) (M2 : Meth X.K C (dunderR "mul") gr) (F : FnG X.prog X.w X.K X.mg X.base k g [] (spF T 2 fm)) (hr : Rm k X.A)
    (F2 : FnG X.prog X.w X.K X.mg X.base k2 gr [] (spF T 2 fr)) (hr2 : Rm k2 X.A) (tk : Takes X W) (ha : ME X T W a m1) (hb : ME X T W b m2) : ME X T W (.BinOp a .Mult b pos) (mulO c fm fr m1 m2) := by
  refine ⟨fun pins s σ H Q I ⟨A, F0, G, β, si, po⟩ => ?_⟩
  refine wpAny_BinOp (thn (ha.run pins s σ H (fun x H1 => tM T W m2 σ H1 fun z H2 =>
      (∃ y dx fs, x = .ref y ∧ H2 y = some (.ins C dx fs) ∧ ((∃ t ∈ sevenT, TyX T.K H2 z (.type t)) ∨ TyX T.K H2 z (.ref C)) ∧ spF T 2 fm [.ref y, z] H2 (fun v H' => ∃ d G', okAny d = true ∧ Rep T G' d v ∧ Q v H') (WE W σ)) ∨
      (∃ y dx fs t, z = .ref y ∧ H2 y = some (.ins C dx fs) ∧ t ∈ sevenT ∧ TyX T.K H2 x (.type t) ∧ (t = "int" → ∃ i, x = .int i) ∧ (t = "bool" → ∃ k, x = .bl k) ∧ spF T 2 fr [.ref y, x] H2 (fun v H' => ∃ d G', okAny d = true ∧ Rep T G' d v ∧ Q v H') (WE W σ))) I ⟨A, F0, G, β, si, ?_⟩) fun u s1 ⟨x, H1, I1, r1, q1⟩ => ?_)
  · refine PostE.bindE po fun d β1 v G1 H1 e1 s1 r1 p1 => ⟨A, F0, G1, β1, s1, PostE.bindE p1 fun d2 β2 v2 G2 H2 e2 s2 r2 p2 => ?_⟩
    dsimp only at p2
    cases ho : objOf c d with
    | some fs =>
      rw [ho] at p2
      obtain ⟨rfl, y, dx, ys, rfl, hy⟩ := objOf_rep hc ho r1
      dsimp only at p2
      split at p2
      · rename_i hs
        exact .inl ⟨y, dx, ys, rfl, s2.gh _ _ (e2 _ _ hy), side_ty CO hc s2.gh r2 hs, dun_sp s2 (ds := [.obj c fs, d2]) ⟨_, _, rfl, r1.mono e2, _, _, rfl, r2, rfl⟩ rfl p2⟩
      · exact p2.elim
    | none =>
      rw [ho] at p2
      dsimp only at p2
      cases h2 : objOf c d2 with
      | none => rw [h2] at p2; exact p2.elim
      | some gs =>
        cases ht : tyOf d with
        | none => rw [h2, ht] at p2; exact p2.elim
        | some t =>
          rw [h2, ht] at p2
          dsimp only at p2
          obtain ⟨rfl, y, dx, ys, rfl, hy⟩ := objOf_rep hc h2 r2
          obtain ⟨t', tx, hh⟩ := tyR CO s2.gh (r1.mono e2)
          rcases hh with ⟨t2, ht2, rfl⟩ | ⟨c', fs, A', rfl, _, _⟩
          · rw [ht] at ht2
            cases ht2
            have q := ty_int ht r1
            exact .inr ⟨y, dx, ys, t, rfl, s2.gh _ _ hy, tyOf_mem ht, tx, q.1, q.2, dun_sp s2 (ds := [.obj c gs, d]) ⟨_, _, rfl, r2, _, _, rfl, r1.mono e2, rfl⟩ rfl p2⟩
          · cases ht
  · refine thn (hb.run pins s1 σ H1 _ I1 q1) fun w s2 ⟨z, H2, I2, r2, hq⟩ => ?_
    rcases hq with ⟨y, dx, fs, ex, hy, ht, sp⟩ | ⟨y, dx, fs, t, ez, hy, ht, tx, hi, hbo, sp⟩
    · subst ex
      cases r1
      exact run_bin (op := .Mult) hK S hc B M I2 hy r2 ht (wpAny_mono (run_G0 (vs := [.ref y, z]) F hr tk I2 (.cons rfl (.cons r2 .nil)) sp) (fun u s3 ⟨v, H3, I3, rv, d, G', hd, rd, q⟩ => cmp_back ⟨v, H3, I3, rv, q⟩) fun _ _ z => z)
    · subst ez
      cases r2
      exact run_rmul hK R M M2 I2 hy r1 ht tx hi hbo (wpAny_mono (run_G0 (vs := [.ref y, x]) F2 hr2 tk I2 (.cons rfl (.cons r1 .nil)) sp) (fun u s3 ⟨v, H3, I3, rv, d, G', hd, rd, q⟩ => cmp_back ⟨v, H3, I3, rv, q⟩) fun _ _ z => z)
end
end Fw
end

section
set_option Elab.async false
set_option linter.all false
set_option maxRecDepth 100000
set_option maxHeartbeats 4000000
set_option autoImplicit false
/-! # x op= y by own methods -/
namespace Fw
open PySem PySem.Spec L2 Evl
def augO (i : Nat) (c : Str) (fm : List D → Res D) (m : MM D) : MM Fl := fun β => match β[i]? with
  | some (some (.im d0)) => match objOf c d0 with
    | some fs => (m β).bind fun q => match fm [.obj c fs, q.1] with
      | .ok d => (setB i (.im d) q.2).bindB fun β' => .ok (.nx, β')
      | _ => .bad
    | none => .bad
  | _ => .bad
section
variable {X : Cx} {T : Tx} {W : WishX} {k : Nat} {C g : Addr} {c : Str} {fm : List D → Res D} {b : Expr} {m : MM D} {pos : Pos}
def tiO (T : Tx) (C : Addr) (fm : List D → Res D) : TIp := fun x y H Q => ∃ a dx fs, x = .ref a ∧ H a = some (.ins C dx fs) ∧ spF T 2 fm [x, y] H Q (fun _ _ _ => False)
theorem pip_O {op : Operator} (hK : X.K = T.K) (sf : PySem.W.selfFirst T.K C = true) (M : Meth X.K C (dunderI op.info.2) g) (F : FnG X.prog X.w X.K X.mg X.base k g [] (spF T 2 fm)) (hr : Rm k X.A) : PIp X op (tiO T C fm) := by
  intro pins s σ H x y v u Q I rx ry ⟨a, dx, fs, ex, ha, sp⟩
  subst ex
  cases rx
  obtain ⟨ox, od, J⟩ := inst_of I ha
  obtain ⟨mm, fr⟩ := I.fr
  rw [← hK] at sf
  exact PySem.W.ksp_inplace fr I.ok.mod.kin J sf M.at_ M.fn (wpAny_mono (run_G0 (W := fun _ _ _ _ => False) (vs := [.ref a, y]) F hr LamX.takes0 I (.cons rfl (.cons ry .nil)) sp) (fun u s3 h => cmp_back h) fun _ _ z => z)
theorem ms_augO {op : Operator} {i : Nat} {x : Str} {pos' : Pos} (hK : X.K = T.K) (hc : T.cl c = some C) (sf : PySem.W.selfFirst T.K C = true) (M : Meth X.K C (dunderI op.info.2) g) (F : FnG X.prog X.w X.K X.mg X.base k g [] (spF T 2 fm)) (hr : Rm k X.A) (hN : X.N.Nodup) (hi : X.N[i]? = some x) (hx : Loc X.env.scope x) (hb : ME X T W b m)
    (hf : X.fn x = true ∨ X.env.scope.names.lookup x = some .local := by first | exact .inl rfl | exact .inr rfl | assumption) : MS X T W (.AugAssign (.Name x pos') op b pos) (augO i c fm m) := by
  refine ps_imp (ps_aug hN hi hx hb (pip_O hK sf M F hr) hf) fun D σ H ⟨A, F0, G, β, s, p⟩ => ?_
  unfold augO at p
  split at p
  · rename_i d0 hd0
    obtain ⟨v0, hv0, r0⟩ := s.im hd0
    cases ho : objOf c d0 with
    | none => rw [ho] at p; exact p.elim
    | some fs =>
      rw [ho] at p
      obtain ⟨rfl, y, dx, ys, rfl, hy⟩ := objOf_rep hc ho r0
      refine ⟨_, hv0, A, F0, G, β, s, ?_⟩
      dsimp only at p
      refine p.bindE fun d β1 v G1 H1 e1 s1 r1 p1 => ?_
      dsimp only at p1
      refine ⟨y, dx, ys, rfl, s1.gh _ _ (e1 _ _ hy), rfl, G1, [.obj c fs, d], s1.gg, ⟨_, _, rfl, r0.mono e1, _, _, rfl, r1, rfl⟩, ?_⟩
      cases hf : fm [.obj c fs, d] with
      | exc c2 f2 => rw [hf] at p1; exact p1.elim
      | bad => rw [hf] at p1; exact p1.elim
      | ok d2 =>
        rw [hf] at p1
        dsimp only at p1
        intro v2 G2 H2 gr r2
        cases h : setB i (.im d2) β1 with
        | ok β2 =>
          rw [h] at p1
          exact p1 _ G2 H2 gr.gg ((s1.grow gr).setIm h r2)
        | exc c fs =>
          unfold setB at h
          split at h <;> (try split at h) <;> cases h
        | bad =>
          rw [h] at p1
          exact p1.elim
  · exact p.elim
end
end Fw
end

section
set_option Elab.async false
set_option linter.all false
set_option maxRecDepth 100000
set_option maxHeartbeats 4000000
set_option autoImplicit false
/-! # == and != of lists whose items are compared by own methods -/
namespace Fw
open PySem PySem.SeqAt
open AutoSeq1 (wpAny_loadPart')
open MeetsSeq MeetsSeq2 MeetsSeq3 SeqRoads2
section
variable {prog : Program} {w : World} {A : Around} {R : Result → Shared → Prop}
abbrev opNE (ne : Bool) : CmpOp := if ne then .NotEq else .Eq
abbrev cdNE (ne : Bool) : Int := if ne then 3 else 2
/-- the two lists, N items each -/
def Two (l b : Addr) (N : Nat) (s : Shared) (items items2 : Array Value) : Prop :=
  ∃ n n2, s.heap.get? l = some { cls := .type "list", data := .seq items n } ∧ s.heap.get? b = some { cls := .type "list", data := .seq items2 n2 } ∧ items.size = N ∧ items2.size = N
def TurnJ (prog : Program) (w : World) (A : Around) (E : Value → Shared → Prop) (l b : Addr) (N : Nat) (I : Nat → Shared → Prop) (Z : Shared → Prop) : Prop :=
  ∀ i s, I i s → ∃ items items2, Two l b N s items items2 ∧ ∀ (h1 : i < items.size) (h2 : i < items2.size), wpAny (model prog w) A.in1 (eqBool items[i] items2[i]) (fun r s' => (r = true ∧ I (i + 1) s') ∨ (r = false ∧ Z s')) E s
theorem eq_loop2 (ne : Bool) (l b : Addr) (N : Nat) (I : Nat → Shared → Prop) (Z : Shared → Prop) (hl : TurnJ prog w A (fun e s' => R (.error e) s') l b N I Z) (hz : ∀ s, Z s → (∃ items items2, Two l b N s items items2) ∧ R (.ok (.ret (.bool ne))) s)
    (fin : ∀ s, I N s → R (.ok (.ret (.bool !ne))) s) (k : Nat) :
    ∀ i : Nat, N - i = k → i ≤ N → ∀ s, I i s → wpAny (model prog w) A.in1 (Builtin.«list.__eq__.loop» ⟨[.ref l, .ref b, rawInt i, rawInt (cdNE ne)], []⟩) (GQ.FinOf prog w A R) (fun e s' => R (.error e) s') s := by
  induction k with
  | zero =>
    intro i hk hi s h
    obtain ⟨items, items2, ⟨n, n2, hl1, hb1, hs1, hs2⟩, _⟩ := hl _ _ h
    have hi' : i = N := by omega
    have hR := fin s (hi' ▸ h)
    obtain ⟨hp, g, d, tk, os⟩ := s
    have hi1 : items[((i : Nat) : Int).toNat]? = none := by simp; omega
    have hi2 : items2[((i : Nat) : Int).toNat]? = none := by simp; omega
    cases ne
    · wp_walk using wpAny_loadPart' hl1, wpAny_loadPart' hb1
      rw [hi1, hi2]
      wp_walk using wpAny_loadPart' hl1, wpAny_loadPart' hb1
      show R (.ok (.ret (.bool (items.size == items2.size)))) _
      rw [hs1, hs2]
      simpa using hR
    · wp_walk using wpAny_loadPart' hl1, wpAny_loadPart' hb1
      rw [hi1, hi2]
      wp_walk using wpAny_loadPart' hl1, wpAny_loadPart' hb1
      show R (.ok (.ret (.bool (items.size != items2.size)))) _
      rw [hs1, hs2]
      simpa using hR
  | succ k ih =>
    intro i hk hi s h
    obtain ⟨items, items2, ⟨n, n2, hl1, hb1, hs1, hs2⟩, turn⟩ := hl _ _ h
    have hlt : i < items.size := by omega
    have hlt2 : i < items2.size := by omega
    have ht := turn hlt hlt2
    obtain ⟨hp, g, d, tk, os⟩ := s
    have hi1 : items[((i : Nat) : Int).toNat]? = some items[i] := by simp [hlt]
    have hi2 : items2[((i : Nat) : Int).toNat]? = some items2[i] := by simp [hlt2]
    have hc : ((i : Int) + 1) = ((i + 1 : Nat) : Int) := by omega
    cases ne
    · wp_walk using wpAny_loadPart' hl1, wpAny_loadPart' hb1
      rw [hi1, hi2]
      refine wpAny_bind (wpAny_mono ht (fun r s2 h2 => ?_) fun _ _ x => x)
      rcases h2 with ⟨hr, h2⟩ | ⟨hr, h2⟩
      · subst hr
        have hrec := ih (i + 1) (by omega) (by omega) s2 h2
        obtain ⟨hp2, g2, d2, tk2, os2⟩ := s2
        wp_walk
        rw [hc]
        exact ⟨plainId_quiet plain_eq_loop _, codeAny_builtin entry_eq_loop (by
          rw [Around.under_plainId plain_eq_loop _]
          exact hrec)⟩
      · subst hr
        obtain ⟨⟨xs, ys, n3, n4, hl3, hb3, hs3, hs4⟩, hR⟩ := hz s2 h2
        obtain ⟨hp2, g2, d2, tk2, os2⟩ := s2
        have hj1 : xs[((i : Nat) : Int).toNat]? = some (xs[i]'(by omega)) := by simp
        have hj2 : ys[((i : Nat) : Int).toNat]? = some (ys[i]'(by omega)) := by simp
        wp_walk using wpAny_loadPart' hl3, wpAny_loadPart' hb3
        rw [hj1, hj2]
        wp_walk
        exact hR
    · wp_walk using wpAny_loadPart' hl1, wpAny_loadPart' hb1
      rw [hi1, hi2]
      refine wpAny_bind (wpAny_mono ht (fun r s2 h2 => ?_) fun _ _ x => x)
      rcases h2 with ⟨hr, h2⟩ | ⟨hr, h2⟩
      · subst hr
        have hrec := ih (i + 1) (by omega) (by omega) s2 h2
        obtain ⟨hp2, g2, d2, tk2, os2⟩ := s2
        wp_walk
        rw [hc]
        exact ⟨plainId_quiet plain_eq_loop _, codeAny_builtin entry_eq_loop (by
          rw [Around.under_plainId plain_eq_loop _]
          exact hrec)⟩
      · subst hr
        obtain ⟨⟨xs, ys, n3, n4, hl3, hb3, hs3, hs4⟩, hR⟩ := hz s2 h2
        obtain ⟨hp2, g2, d2, tk2, os2⟩ := s2
        have hj1 : xs[((i : Nat) : Int).toNat]? = some (xs[i]'(by omega)) := by simp
        have hj2 : ys[((i : Nat) : Int).toNat]? = some (ys[i]'(by omega)) := by simp
        wp_walk using wpAny_loadPart' hl3, wpAny_loadPart' hb3
        rw [hj1, hj2]
        wp_walk
        exact hR
theorem list_eq2 (l b : Addr) (N : Nat) (I : Nat → Shared → Prop) (Z : Shared → Prop) (hl : TurnJ prog w A (fun e s' => R (.error e) s') l b N I Z) (hz : ∀ s, Z s → (∃ items items2, Two l b N s items items2) ∧ R (.ok (.ret (.bool false))) s)
    (fin : ∀ s, I N s → R (.ok (.ret (.bool true))) s) {s : Shared} (h : I 0 s) : wpAny (model prog w) A.in1 (Builtin.«list.__eq__» ⟨[.ref l, .ref b], []⟩) (GQ.FinOf prog w A R) (fun e s' => R (.error e) s') s := by
  obtain ⟨items, items2, ⟨n, n2, hl1, hb1, hs1, hs2⟩, _⟩ := hl _ _ h
  have hrec := eq_loop2 (A := A) (R := R) false l b N I Z hl hz fin _ 0 rfl (Nat.zero_le _) s h
  obtain ⟨hp, g, d, tk, os⟩ := s
  have f3 := AutoSeq1.sub_list_list
  have hne : ¬ (items.size != items2.size) = true := by simp [hs1, hs2]
  wp_walk using wpAny_loadPart' hl1, wpAny_loadPart' hb1
  exact ⟨plainId_quiet plain_eq_loop _, codeAny_builtin entry_eq_loop (by
    rw [Around.under_plainId plain_eq_loop _]
    exact hrec)⟩
theorem list_ne2 (l b : Addr) (N : Nat) (I : Nat → Shared → Prop) (Z : Shared → Prop) (hl : TurnJ prog w A (fun e s' => R (.error e) s') l b N I Z) (hz : ∀ s, Z s → (∃ items items2, Two l b N s items items2) ∧ R (.ok (.ret (.bool true))) s)
    (fin : ∀ s, I N s → R (.ok (.ret (.bool false))) s) {s : Shared} (h : I 0 s) : wpAny (model prog w) A.in1 (Builtin.«list.__ne__» ⟨[.ref l, .ref b], []⟩) (GQ.FinOf prog w A R) (fun e s' => R (.error e) s') s := by
  obtain ⟨items, items2, ⟨n, n2, hl1, hb1, hs1, hs2⟩, _⟩ := hl _ _ h
  have hrec := eq_loop2 (A := A) (R := R) true l b N I Z hl hz fin _ 0 rfl (Nat.zero_le _) s h
  obtain ⟨hp, g, d, tk, os⟩ := s
  have f3 := AutoSeq1.sub_list_list
  have hne : ¬ (items.size != items2.size) = true := by simp [hs1, hs2]
  wp_walk using wpAny_loadPart' hl1, wpAny_loadPart' hb1
  exact ⟨plainId_quiet plain_eq_loop _, codeAny_builtin entry_eq_loop (by
    rw [Around.under_plainId plain_eq_loop _]
    exact hrec)⟩
/-- of unlike lengths -/
theorem list_len2 (ne : Bool) (l b : Addr) {items items2 : Array Value} {n n2 : Nat} {s : Shared} (hl1 : s.heap.get? l = some { cls := .type "list", data := .seq items n }) (hb1 : s.heap.get? b = some { cls := .type "list", data := .seq items2 n2 }) (hs : items.size ≠ items2.size) (hR : R (.ok (.ret (.bool ne))) s) :
    wpAny (model prog w) A.in1 (if ne then Builtin.«list.__ne__» ⟨[.ref l, .ref b], []⟩ else Builtin.«list.__eq__» ⟨[.ref l, .ref b], []⟩) (GQ.FinOf prog w A R) (fun e s' => R (.error e) s') s := by
  obtain ⟨hp, g, d, tk, os⟩ := s
  have f3 := AutoSeq1.sub_list_list
  have hne : (items.size != items2.size) = true := by simp [hs]
  cases ne
  · simp only [Bool.false_eq_true, if_false]
    wp_walk using wpAny_loadPart' hl1, wpAny_loadPart' hb1
    exact hR
  · simp only [if_true]
    wp_walk using wpAny_loadPart' hl1, wpAny_loadPart' hb1
    exact hR
end
section
variable {prog : Program} {w : World} {A : Around} {E : Value → Shared → Prop} {s : Shared}
theorem rc_list2 {ne : Bool} {l b : Addr} {N : Nat} {Q : Value → Shared → Prop} (hu : A.units < cLine) (I : Nat → Shared → Prop) (Z : Shared → Prop) (hl : TurnJ prog w A E l b N I Z) (hz : ∀ s, Z s → (∃ items items2, Two l b N s items items2) ∧ Q (.bool ne) s)
    (fin : ∀ s, I N s → Q (.bool !ne) s) (h : I 0 s) : wpAny (model prog w) A (richCompare (opNE ne) (.ref l) (.ref b)) Q E s := by
  obtain ⟨items, items2, ⟨n, n2, hl1, hb1, _, _⟩, _⟩ := hl _ _ h
  cases ne
  · refine wpAny_richCompare_same_room (op := .Eq) ⟨_, hl1, rfl⟩ ⟨_, hb1, rfl⟩ F.slot_list_eq (GQ.call_here (T := "list") F.slot_list_eq ⟨_, hl1, rfl⟩ F.entry_list_eq (F.args_list_eq_2 _ _) ?_) hu
    exact list_eq2 (R := wants (fun v s' => v ≠ .notImplemented ∧ Q v s') E) l b N I Z hl (fun s' q => ⟨(hz s' q).1, (fun x => nomatch x), (hz s' q).2⟩) (fun s' q => ⟨(fun x => nomatch x), fin s' q⟩) h
  · refine wpAny_richCompare_same_room (op := .NotEq) ⟨_, hl1, rfl⟩ ⟨_, hb1, rfl⟩ F.slot_list_ne (GQ.call_here (T := "list") F.slot_list_ne ⟨_, hl1, rfl⟩ F.entry_list_ne (F.args_list_ne_2 _ _) ?_) hu
    exact list_ne2 (R := wants (fun v s' => v ≠ .notImplemented ∧ Q v s') E) l b N I Z hl (fun s' q => ⟨(hz s' q).1, (fun x => nomatch x), (hz s' q).2⟩) (fun s' q => ⟨(fun x => nomatch x), fin s' q⟩) h
theorem rc_len2 {ne : Bool} {l b : Addr} {items items2 : Array Value} {n n2 : Nat} {Q : Value → Shared → Prop} (hu : A.units < cLine) (hl1 : s.heap.get? l = some { cls := .type "list", data := .seq items n }) (hb1 : s.heap.get? b = some { cls := .type "list", data := .seq items2 n2 }) (hs : items.size ≠ items2.size)
    (hQ : Q (.bool ne) s) : wpAny (model prog w) A (richCompare (opNE ne) (.ref l) (.ref b)) Q E s := by
  cases ne
  · refine wpAny_richCompare_same_room (op := .Eq) ⟨_, hl1, rfl⟩ ⟨_, hb1, rfl⟩ F.slot_list_eq (GQ.call_here (T := "list") F.slot_list_eq ⟨_, hl1, rfl⟩ F.entry_list_eq (F.args_list_eq_2 _ _) ?_) hu
    exact list_len2 (R := wants (fun v s' => v ≠ .notImplemented ∧ Q v s') E) false l b hl1 hb1 hs ⟨(fun x => nomatch x), hQ⟩
  · refine wpAny_richCompare_same_room (op := .NotEq) ⟨_, hl1, rfl⟩ ⟨_, hb1, rfl⟩ F.slot_list_ne (GQ.call_here (T := "list") F.slot_list_ne ⟨_, hl1, rfl⟩ F.entry_list_ne (F.args_list_ne_2 _ _) ?_) hu
    exact list_len2 (R := wants (fun v s' => v ≠ .notImplemented ∧ Q v s') E) true l b hl1 hb1 hs ⟨(fun x => nomatch x), hQ⟩
end
end Fw
end

section
set_option Elab.async false
set_option linter.all false
set_option maxRecDepth 100000
set_option maxHeartbeats 4000000
set_option autoImplicit false
/-! # == and != by data: own methods within lists -/
namespace Fw
open PySem PySem.Spec L2 Evl
mutual
/-- may they be one thing -/
def sameD : D → D → Bool
  | .int i, .int j => i == j
  | .str x, .str y => x == y
  | .bl a, .bl b => a == b
  | .tup xs, .tup ys => sameL xs ys
  | .lst xs, .lst ys => sameL xs ys
  | .obj _ fs, .obj _ gs => sameF fs gs
  | _, _ => true
def sameL : List D → List D → Bool
  | [], [] => true
  | x :: xs, y :: ys => sameD x y && sameL xs ys
  | _, _ => false
def sameF : List (Str × D) → List (Str × D) → Bool
  | [], [] => true
  | (_, x) :: xs, (_, y) :: ys => sameD x y && sameF xs ys
  | _, _ => false
end
section
variable {X : Cx} {T : Tx} {pins : List (Addr × Obj)} {σ : L2.St} {G H : Hp} {s : Shared}
theorem plt_inj {a : Addr} {xs ys : List V} (hK : X.K = T.K) (I : Inv X pins σ H s) (h1 : PlT T.K H a xs) (h2 : PlT T.K H a ys) : xs = ys := by
  rw [← hK] at h1 h2
  obtain ⟨is, v1, p1, _⟩ := plain_of I h1
  obtain ⟨js, v2, p2, _⟩ := plain_of I h2
  obtain ⟨o, n, g1, _, _, d1⟩ := p1
  obtain ⟨o', n', g2, _, _, d2⟩ := p2
  rw [g1] at g2
  cases g2
  rw [d1] at d2
  have e : is = js := by
    injection d2 with e _
    exact Array.toList_inj.mpr e |> fun z => by simpa using z
  rw [e] at v1
  exact v1.inj v2
mutual
theorem same_of (hK : X.K = T.K) (I : Inv X pins σ H s) (eg : Ex G H) : ∀ {d e : D} {v : V}, Rep T G d v → Rep T G e v → sameD d e = true
  | .int i, .int j, v, h1, h2 => by
    have e := (show v = .int i from h1).symm.trans (show v = .int j from h2)
    cases e
    simp [sameD]
  | .str i, .str j, v, h1, h2 => by
    have e := (show v = .str i from h1).symm.trans (show v = .str j from h2)
    cases e
    simp [sameD]
  | .bl i, .bl j, v, h1, h2 => by
    have e := (show v = .bl i from h1).symm.trans (show v = .bl j from h2)
    cases e
    simp [sameD]
  | .tup xs, .tup ys, v, h1, h2 => by
    obtain ⟨a, vs, e1, p1, r1⟩ := h1
    obtain ⟨b, ws, e2, p2, r2⟩ := h2
    subst e1
    cases e2
    have e := plt_inj hK I (p1.mono eg) (p2.mono eg)
    subst e
    rw [sameD]
    exact same_ofL hK I eg r1 r2
  | .lst xs, .lst ys, v, h1, h2 => by
    obtain ⟨a, vs, e1, p1, r1⟩ := h1
    obtain ⟨b, ws, e2, p2, r2⟩ := h2
    subst e1
    cases e2
    rw [p1] at p2
    cases p2
    rw [sameD]
    exact same_ofL hK I eg r1 r2
  | .obj _ fs, .obj _ gs, v, h1, h2 => by
    obtain ⟨a, C, dx, vs, e1, _, p1, r1⟩ := h1
    obtain ⟨b, C', dx', ws, e2, _, p2, r2⟩ := h2
    subst e1
    cases e2
    rw [p1] at p2
    cases p2
    rw [sameD]
    exact same_ofF hK I eg r1 r2
  | .non, e, v, _, _ => by cases e <;> simp [sameD]
  | .scr _, e, v, _, _ => by cases e <;> simp [sameD]
  | .dic _ _, e, v, _, _ => by cases e <;> simp [sameD]
  | .int _, .non, _, _, _ | .int _, .bl _, _, _, _ | .int _, .str _, _, _, _ | .int _, .tup _, _, _, _ | .int _, .lst _, _, _, _ | .int _, .scr _, _, _, _ | .int _, .dic _ _, _, _, _ | .int _, .obj _ _, _, _, _ => by simp [sameD]
  | .str _, .non, _, _, _ | .str _, .bl _, _, _, _ | .str _, .int _, _, _, _ | .str _, .tup _, _, _, _ | .str _, .lst _, _, _, _ | .str _, .scr _, _, _, _ | .str _, .dic _ _, _, _, _ | .str _, .obj _ _, _, _, _ => by simp [sameD]
  | .bl _, .non, _, _, _ | .bl _, .int _, _, _, _ | .bl _, .str _, _, _, _ | .bl _, .tup _, _, _, _ | .bl _, .lst _, _, _, _ | .bl _, .scr _, _, _, _ | .bl _, .dic _ _, _, _, _ | .bl _, .obj _ _, _, _, _ => by simp [sameD]
  | .tup _, .non, _, _, _ | .tup _, .bl _, _, _, _ | .tup _, .int _, _, _, _ | .tup _, .str _, _, _, _ | .tup _, .lst _, _, _, _ | .tup _, .scr _, _, _, _ | .tup _, .dic _ _, _, _, _ | .tup _, .obj _ _, _, _, _ => by simp [sameD]
  | .lst _, .non, _, _, _ | .lst _, .bl _, _, _, _ | .lst _, .int _, _, _, _ | .lst _, .str _, _, _, _ | .lst _, .tup _, _, _, _ | .lst _, .scr _, _, _, _ | .lst _, .dic _ _, _, _, _ | .lst _, .obj _ _, _, _, _ => by simp [sameD]
  | .obj _ _, .non, _, _, _ | .obj _ _, .bl _, _, _, _ | .obj _ _, .int _, _, _, _ | .obj _ _, .str _, _, _, _ | .obj _ _, .tup _, _, _, _ | .obj _ _, .lst _, _, _, _ | .obj _ _, .scr _, _, _, _ | .obj _ _, .dic _ _, _, _, _ => by simp [sameD]
theorem same_ofL (hK : X.K = T.K) (I : Inv X pins σ H s) (eg : Ex G H) : ∀ {d e : List D} {v : List V}, RepL T G d v → RepL T G e v → sameL d e = true
  | [], [], _, _, _ => by simp [sameL]
  | [], _ :: _, v, h1, h2 => by
    obtain rfl : v = [] := h1
    obtain ⟨_, _, z, _⟩ := h2
    cases z
  | _ :: _, [], v, h1, h2 => by
    obtain rfl : v = [] := h2
    obtain ⟨_, _, z, _⟩ := h1
    cases z
  | x :: xs, y :: ys, v, h1, h2 => by
    obtain ⟨a, r, e1, p1, q1⟩ := h1
    obtain ⟨b, t, e2, p2, q2⟩ := h2
    subst e1
    cases e2
    rw [sameL, same_of hK I eg p1 p2, same_ofL hK I eg q1 q2]
    rfl
theorem same_ofF (hK : X.K = T.K) (I : Inv X pins σ H s) (eg : Ex G H) : ∀ {d e : List (Str × D)} {v : List (Str × V)}, RepF T G d v → RepF T G e v → sameF d e = true
  | [], [], _, _, _ => by simp [sameF]
  | [], (_, _) :: _, v, h1, h2 => by
    obtain rfl : v = [] := h1
    obtain ⟨_, _, z, _⟩ := h2
    cases z
  | (_, _) :: _, [], v, h1, h2 => by
    obtain rfl : v = [] := h2
    obtain ⟨_, _, z, _⟩ := h1
    cases z
  | (_, x) :: xs, (_, y) :: ys, v, h1, h2 => by
    obtain ⟨a, r, e1, p1, q1⟩ := h1
    obtain ⟨b, t, e2, p2, q2⟩ := h2
    subst e1
    cases e2
    rw [sameF, same_of hK I eg p1 p2, same_ofF hK I eg q1 q2]
    rfl
end
end
end Fw
end

section
set_option Elab.async false
set_option linter.all false
set_option maxRecDepth 100000
set_option maxHeartbeats 4000000
set_option autoImplicit false
/-! # == and != by data, own methods within lists: the mirror -/
namespace Fw
open PySem PySem.Spec L2 Evl
def eqL (f : D → D → Option Bool) : List D → List D → Option Bool
  | [], [] => some true
  | x :: xs, y :: ys => match f x y with
    | some true => eqL f xs ys
    | some false => some false
    | none => none
  | _, _ => none
/-- where they may be one thing, only True is told -/
def sure (d e : D) (r : Option Bool) : Option Bool := match r with
  | some k => if (k || !sameD d e) = true then some k else none
  | none => none
/-- two dicts, the items data -/
def eqDk (kws : List (Key × D)) : List (Key × D) → Option Bool
  | [] => some true
  | (k, v) :: r => match valD kws k with
    | none => some false
    | some w => match eqP v w, eqDk kws r with
      | some e, some b => some (e && b)
      | _, _ => none
def eqDic (kvs kws : List (Key × D)) : Option Bool := if kvs.length = kws.length then eqDk kws kvs else some false
def eqF (cs : Str → Option (List D → Res D)) : Nat → D → D → Option Bool
  | 0, d, e => eqP d e
  | n + 1, d, e => match eqP d e with
    | some k => some k
    | none => match d, e with
      | .obj c fs, .obj c' gs => match cs c with
        | some fm => match fm [.obj c fs, .obj c' gs] with
          | .ok (.bl k) => sure (.obj c fs) (.obj c' gs) (some k)
          | _ => none
        | none => none
      | .lst xs, .lst ys => sure (.lst xs) (.lst ys) (if xs.length = ys.length then eqL (eqF cs n) xs ys else some false)
      | .dic true xs, .dic true ys => sure (.dic true xs) (.dic true ys) (eqDic xs ys)
      | _, _ => none
/-- at the top -/
def eqF0 (cs : Str → Option (List D → Res D)) (n : Nat) (d e : D) : Option Bool := match eqP d e with
  | some k => some k
  | none => match d, e with
    | .lst xs, .lst ys => if xs.length = ys.length then eqL (eqF cs n) xs ys else some false
    | _, _ => none
theorem sure_some {d e : D} {r : Option Bool} {k : Bool} (h : sure d e r = some k) : r = some k ∧ (k = true ∨ sameD d e = false) := by
  unfold sure at h
  split at h
  · split at h
    · rename_i hk
      cases h
      refine ⟨rfl, ?_⟩
      cases k
      · right
        simpa using hk
      · exact .inl rfl
    · cases h
  · cases h
def EqAtD (X : Cx) (T : Tx) (n : Nat) (d e : D) (r : Bool) : Prop :=
  ∀ (A' : Around) (pins : List (Addr × Obj)) (s : Shared) (σ : L2.St) (G H : Hp) (x y : V) (u v : Value), Rm n A' → A'.frames = X.A.frames → Inv X pins σ H s → RelV x u → RelV y v → Gh T G H → Rep T G d x → Rep T G e y →
    wpAny (model X.prog X.w) A' (eqBool u v) (fun r' s' => r' = r ∧ ∃ G' H', Inv X pins σ H' s' ∧ Grow T G H G' H') X.xe s
/-- the classes' own == -/
def EqCs (X : Cx) (T : Tx) (k : Nat) (cs : Str → Option (List D → Res D)) : Prop := ∀ c fm, cs c = some fm → ∃ C g, T.cl c = some C ∧ Meth X.K C "__eq__" g ∧ FnG X.prog X.w X.K X.mg X.base k g [] (spF T 2 fm)
section
variable {X : Cx} {T : Tx} {k : Nat} {cs : Str → Option (List D → Res D)}
theorem eqAt_P (hK : X.K = T.K) {n : Nat} {d e : D} {r : Bool} (h : eqP d e = some r) : EqAtD X T n d e r := by
  intro A' pins s σ G H x y u v hr hf I rx ry gh rd re
  obtain ⟨p, q, hp, hq, sp, sq, ev⟩ := eqP_some h
  have d1 := dp_mono gh.gh (rd.dp hp)
  have d2 := dp_mono gh.gh (re.dp hq)
  rw [← hK] at d1 d2
  obtain ⟨as, r1⟩ := Dp.reads I p x u d1 rx
  obtain ⟨bs, r2⟩ := Dp.reads I q y v d2 ry
  have := SeqAt.eqAt_reads p q A' s u v as bs r1 r2 (SeqAt.canLay_of_shaped sp) (SeqAt.canLay_of_shaped sq) (SeqAt.room_of_shaped sp (by have := hr.r.un; omega))
  rw [ev] at this
  exact this X.prog X.w X.xe _ ⟨rfl, G, H, I, Grow.refl gh.gh⟩
theorem eqP_at (hK : X.K = T.K) {n : Nat} {d e : D} {r : Bool} (h : eqP d e = some r) {A' : Around} {pins : List (Addr × Obj)} {s : Shared} {σ : L2.St} {G H : Hp} {x y : V} {u v : Value} (hr : Rm n A') (I : Inv X pins σ H s) (rx : RelV x u) (ry : RelV y v) (gh : Gh T G H) (rd : Rep T G d x) (re : Rep T G e y) : SeqAt.EqP X.prog X.w A'.in1 s u v r := by
  obtain ⟨p, q, hp, hq, sp, sq, ev⟩ := eqP_some h
  have d1 := dp_mono gh.gh (rd.dp hp)
  have d2 := dp_mono gh.gh (re.dp hq)
  rw [← hK] at d1 d2
  obtain ⟨as, r1⟩ := Dp.reads I p x u d1 rx
  obtain ⟨bs, r2⟩ := Dp.reads I q y v d2 ry
  have := SeqAt.eqAt_reads p q A'.in1 s u v as bs r1 r2 (SeqAt.canLay_of_shaped sp) (SeqAt.canLay_of_shaped sq) (SeqAt.room_of_shaped sp (by have := hr.r.un; show A'.units + 1 + 64 < cLine; omega))
  rw [ev] at this
  exact this.eqP
theorem hits_of (hK : X.K = T.K) {n : Nat} {A' : Around} {pins : List (Addr × Obj)} {s : Shared} {σ : L2.St} {G H : Hp} {kws : List (Key × D)} {zs : List (Key × V)} {vs2 : List (Key × Value)} (hr : Rm n A') (I : Inv X pins σ H s) (gh : Gh T G H) (r2 : RepK T G kws zs) (kv2 : KV zs vs2) :
    ∀ (kvs : List (Key × D)) (ys : List (Key × V)) (vs : List (Key × Value)) (r : Bool), RepK T G kvs ys → KV ys vs → eqDk kws kvs = some r → PySem.W.KeqHitsP X.prog X.w A'.in1 s vs2 vs r
  | [], ys, vs, r, rk, kv, h => by
    obtain rfl : ys = [] := rk
    cases kv
    cases h
    exact .nil
  | (k, d) :: kvs, ys, vs, r, rk, kv, h => by
    obtain ⟨v, t, rfl, rv, rt⟩ := rk
    cases kv with
    | cons h1 h2 =>
      rename_i q qs
      obtain ⟨kk, u⟩ := q
      obtain ⟨e1, ru⟩ := h1
      cases e1
      unfold eqDk at h
      have hv := valD_rep k r2
      have hu := KV.val kv2 k
      cases hw : valD kws k with
      | none =>
        rw [hw] at h hv
        cases h
        cases hz : valV zs k with
        | some z => rw [hz] at hv; exact hv.elim
        | none =>
          rw [hz] at hu
          cases hq : valueAt vs2 k with
          | some z => rw [hq] at hu; exact hu.elim
          | none => exact .miss hq
      | some w =>
        rw [hw] at h hv
        dsimp only at h
        split at h
        · rename_i e b he hb
          cases h
          cases hz : valV zs k with
          | none => rw [hz] at hv; exact hv.elim
          | some z =>
            rw [hz] at hu hv
            cases hq : valueAt vs2 k with
            | none => rw [hq] at hu; exact hu.elim
            | some y =>
              rw [hq] at hu
              exact .hit hq (eqP_at hK he hr I ru hu gh rv hv) (hits_of hK hr I gh r2 kv2 kvs t qs b rt h2 hb)
        · cases h
theorem eqAt_dic (hK : X.K = T.K) {n : Nat} {kvs kws : List (Key × D)} {r : Bool} (h : eqDic kvs kws = some r) (hs : r = true ∨ sameD (.dic true kvs) (.dic true kws) = false) : EqAtD X T n (.dic true kvs) (.dic true kws) r := by
  intro A' pins s σ G H x y u v hr hf I rx ry gh rd re
  obtain ⟨a, ys, ex, ha, r1⟩ := id rd
  obtain ⟨b, zs, ey, hb, r2⟩ := id re
  subst ex ey
  cases rx
  cases ry
  by_cases hab : a = b
  · subst hab
    have e : r = true := hs.elim id fun z => by
      rw [same_of hK I gh.gh rd re] at z
      cases z
    subst e
    exact SeqAt.EqAt.same (A := A') (s := s) (.ref a) X.prog X.w X.xe _ ⟨rfl, G, H, I, Grow.refl gh.gh⟩
  · refine GQ.eqBool_refG hab ?_
    obtain ⟨o1, h1⟩ := ha.2 rfl
    obtain ⟨o2, h2⟩ := hb.2 rfl
    obtain ⟨s1, _, _, es, ep, vs, _, _, kv, hat⟩ := I.frzK (gh.gh _ _ h1)
    obtain ⟨s2, _, _, es2, ep2, vs2, _, _, kv2, hat2⟩ := I.frzK (gh.gh _ _ h2)
    have l1 : vs.length = kvs.length := by rw [← KV.length kv, r1.length]
    have l2 : vs2.length = kws.length := by rw [← KV.length kv2, r2.length]
    unfold eqDic at h
    by_cases hl : kvs.length = kws.length
    · rw [if_pos hl] at h
      refine PySem.W.rcP_dicts (knd := mixKind X.prog X.w) (r := r) s1 s2 hat.dictOf hat2.dictOf hr.r.units0 (fun _ => hits_of hK hr I gh r2 kv2 kvs ys vs r r1 kv h) _ _ ?_
      rw [l1, l2, hl, beq_self_eq_true, Bool.true_and]
      exact ⟨r, rfl, rfl, G, H, I, Grow.refl gh.gh⟩
    · rw [if_neg hl] at h
      cases h
      refine PySem.W.rcP_dicts (knd := mixKind X.prog X.w) (r := true) s1 s2 hat.dictOf hat2.dictOf hr.r.units0 (fun z => absurd (l1 ▸ l2 ▸ z) hl) _ _ ?_
      rw [l1, l2, beq_eq_false_iff_ne.mpr hl, Bool.false_and]
      exact ⟨false, rfl, rfl, G, H, I, Grow.refl gh.gh⟩
theorem run_at {A' : Around} {f : Addr} {sp : Sp} {n : Nat} {pins : List (Addr × Obj)} {σ : L2.St} {H : Hp} {s : Shared} {Q : VK} {us : List Value} {vs : List V} (F : FnG X.prog X.w X.K X.mg X.base n f [] sp) (hr : Rm n A') (hf : A'.frames = X.A.frames)
    (I : Inv X pins σ H s) (r : Vals vs us) (h : sp vs H Q (fun _ _ _ => False)) : wpAny (model X.prog X.w) A' (call (.ref f) us) (EP X pins σ Q) X.xe s := by
  have e := I.env0
  have e0 : Env0 X.prog X.w X.K X.mg X.base A' X.stack s H := ⟨by rw [hf]; exact e.frames, e.mod, e.bs, e.bsz, e.funs, e.frf, e.hok, e.bare⟩
  refine wpAny_call (codeAny_mono (F A' X.stack s H us [] vs [] Q (fun _ _ _ => False) hr e0 r .nil rfl (by rw [List.append_nil]; exact h)) fun r s' hq => ?_)
  match r, hq with
  | .error e, hq => exact passAt (W := fun _ _ _ _ => False) LamX.takes0 σ pins H s e s' I hq
  | .ok (.ret u), hq => exact I.after hq
  | .ok .next, hq => exact hq
  | .ok .brk, hq => exact hq
  | .ok .cont, hq => exact hq
theorem eqAt_obj (hK : X.K = T.K) (CO : ClsOk T) (S : SubOk T) {c c' : Str} {fs gs : List (Str × D)} {C g : Addr} {fm : List D → Res D} {r : Bool} (hc : T.cl c = some C) (M : Meth X.K C "__eq__" g) (F : FnG X.prog X.w X.K X.mg X.base k g [] (spF T 2 fm)) (hm : fm [.obj c fs, .obj c' gs] = .ok (.bl r))
    (hs : r = true ∨ sameD (.obj c fs) (.obj c' gs) = false) : EqAtD X T k (.obj c fs) (.obj c' gs) r := by
  intro A' pins s σ G H x y u v hr hf I rx ry gh rd re
  obtain ⟨a, C1, dx, vs, ex, hc1, ha, rf⟩ := id rd
  obtain ⟨b, C2, dy, ws, ey, hc2, hb, rg⟩ := id re
  rw [hc] at hc1
  cases hc1
  subst ex ey
  cases rx
  cases ry
  by_cases hab : a = b
  · subst hab
    have e : r = true := hs.elim id fun z => by
      rw [same_of hK I gh.gh rd re] at z
      cases z
    subst e
    exact SeqAt.EqAt.same (A := A') (s := s) (.ref a) X.prog X.w X.xe _ ⟨rfl, G, H, I, Grow.refl gh.gh⟩
  · refine GQ.eqBool_refG hab ?_
    obtain ⟨ox, od, J⟩ := inst_of I (gh.gh _ _ ha)
    obtain ⟨mm, fr⟩ := I.fr
    obtain ⟨t, tx, ht⟩ := tyR CO gh.gh re
    have hn := notFirst_of (G := G) (H := H) (v := .ref b) S hc ht
    rw [← hK] at tx hn
    obtain ⟨P, Z, hp, _⟩ := kit_of I (show RelV (.ref b) (.ref b) from rfl) tx
    have spx : spF T 2 fm [.ref a, .ref b] H (fun v H' => v = .bl r ∧ ∃ G', Grow T G H G' H') (fun _ _ _ => False) := by
      refine ⟨rfl, G, [.obj c fs, .obj c' gs], gh, ⟨_, _, rfl, rd, _, _, rfl, re, rfl⟩, ?_⟩
      rw [hm]
      exact fun v G' H' gr rv => ⟨rv, G', gr⟩
    refine PySem.W.cmp_K (op := .Eq) (hr.r.units0) fr I.ok.mod.kin J (Z.ty _ _ I.kIn hp) hn M.at_ M.fn (wpAny_mono (run_at (vs := [.ref a, .ref b]) F hr hf I (.cons rfl (.cons rfl .nil)) spx) (fun u s3 h => ?_) fun _ _ z => z)
    obtain ⟨v, H3, I3, rv, ev, G3, gr⟩ := h
    subst ev
    cases rv
    exact ⟨r, rfl, rfl, G3, H3, I3, gr⟩
/-- what the loop over two lists keeps -/
def LoopD (X : Cx) (T : Tx) (cs : Str → Option (List D → Res D)) (n : Nat) (pins : List (Addr × Obj)) (σ : L2.St) (G H : Hp) (xs ys : List D) (r : Bool) (i : Nat) (s' : Shared) : Prop :=
  eqL (eqF cs n) (xs.drop i) (ys.drop i) = some r ∧ ∃ G' H', Inv X pins σ H' s' ∧ Grow T G H G' H'
def EndD (X : Cx) (T : Tx) (pins : List (Addr × Obj)) (σ : L2.St) (G H : Hp) (r : Bool) (s' : Shared) : Prop := r = false ∧ ∃ G' H', Inv X pins σ H' s' ∧ Grow T G H G' H'
theorem two_of {pins : List (Addr × Obj)} {σ : L2.St} {H : Hp} {s : Shared} {a b : Addr} {vs ws : List V} (I : Inv X pins σ H s) (ha : H a = some (.lst vs)) (hb : H b = some (.lst ws)) (hl : vs.length = ws.length) :
    ∃ its its2 : List Value, Vals vs its ∧ Vals ws its2 ∧ Two a b vs.length s its.toArray its2.toArray := by
  obtain ⟨z, its, k, r, e⟩ := I.hok a _ ha
  obtain ⟨z2, its2, k2, r2, e2⟩ := I.hok b _ hb
  exact ⟨its, its2, r, r2, k, k2, e, e2, by rw [List.size_toArray, ← r.length], by rw [List.size_toArray, ← r2.length, hl]⟩
theorem RepL.at {G : Hp} : ∀ {ds : List D} {vs : List V} {i : Nat} {v : V}, RepL T G ds vs → vs[i]? = some v → ∃ d, ds[i]? = some d ∧ Rep T G d v
  | [], vs, i, v, r, h => by
    obtain rfl : vs = [] := r
    simp at h
  | d :: ds, vs, i, v, r, h => by
    obtain ⟨w, t, rfl, a, b⟩ := r
    cases i with
    | zero => simp at h; subst h; exact ⟨d, rfl, a⟩
    | succ i => simp at h; obtain ⟨e, h1, h2⟩ := RepL.at b h; exact ⟨e, by simpa using h1, h2⟩
theorem turnD {n m : Nat} (ih : ∀ d e r, eqF cs n d e = some r → EqAtD X T m d e r) {A' : Around} (hr : Rm (m + 1) A') (hf : A'.frames = X.A.frames) {pins : List (Addr × Obj)} {σ : L2.St} {G H : Hp} {a b : Addr} {xs ys : List D} {vs ws : List V} {r : Bool} (gh : Gh T G H)
    (ha : G a = some (.lst vs)) (hb : G b = some (.lst ws)) (rx : RepL T G xs vs) (ry : RepL T G ys ws) (hl : vs.length = ws.length) :
    TurnJ X.prog X.w A' X.xe a b vs.length (LoopD X T cs n pins σ G H xs ys r) (EndD X T pins σ G H r) := by
  intro i s' ⟨he, G', H', I, gr⟩
  obtain ⟨its, its2, r1, r2, two⟩ := two_of I (gr.gh _ _ (gr.gg _ _ ha)) (gr.gh _ _ (gr.gg _ _ hb)) hl
  refine ⟨_, _, two, fun h1 h2 => ?_⟩
  have g1 : its[i]? = some its.toArray[i] := by
    have h1' : i < its.length := by simpa using h1
    rw [List.getElem?_eq_getElem h1'] <;> simp
  have g2 : its2[i]? = some its2.toArray[i] := by
    have h2' : i < its2.length := by simpa using h2
    rw [List.getElem?_eq_getElem h2'] <;> simp
  have k1 : i < vs.length := by rw [r1.length]; simpa using h1
  have k2 : i < ws.length := by rw [r2.length]; simpa using h2
  obtain ⟨u, hu, ru⟩ := r1.get (List.getElem?_eq_getElem k1)
  obtain ⟨v, hv, rv⟩ := r2.get (List.getElem?_eq_getElem k2)
  rw [g1] at hu
  rw [g2] at hv
  rw [Option.some.inj hu, Option.some.inj hv]
  obtain ⟨d, hd, rd⟩ := RepL.at rx (List.getElem?_eq_getElem k1)
  obtain ⟨e, hde, re⟩ := RepL.at ry (List.getElem?_eq_getElem k2)
  have dx : xs.drop i = d :: xs.drop (i + 1) := by
    obtain ⟨h, rfl⟩ := List.getElem?_eq_some_iff.mp hd
    exact List.drop_eq_getElem_cons h
  have dy : ys.drop i = e :: ys.drop (i + 1) := by
    obtain ⟨h, rfl⟩ := List.getElem?_eq_some_iff.mp hde
    exact List.drop_eq_getElem_cons h
  rw [dx, dy, eqL] at he
  cases hq : eqF cs n d e with
  | none => rw [hq] at he; cases he
  | some kk =>
    rw [hq] at he
    refine wpAny_mono (ih d e kk hq A'.in1 pins s' σ G' H' _ _ u v hr.in1 hf I ru rv (gh.grow gr) (rd.mono gr.gg) (re.mono gr.gg)) (fun r' s2 hz => ?_) fun _ _ z => z
    obtain ⟨er, G2, H2, I2, gr2⟩ := hz
    cases kk with
    | true => exact .inl ⟨er, he, G2, H2, I2, gr.trans gr2⟩
    | false =>
      cases he
      exact .inr ⟨er, rfl, G2, H2, I2, gr.trans gr2⟩
/-- two lists -/
theorem rcD {n m : Nat} (ih : ∀ d e r, eqF cs n d e = some r → EqAtD X T m d e r) (ne : Bool) {A' : Around} (hr : Rm (m + 1) A') (hf : A'.frames = X.A.frames) {pins : List (Addr × Obj)} {σ : L2.St} {s : Shared} {G H : Hp} {a b : Addr} {xs ys : List D} {vs ws : List V} {r : Bool} (I : Inv X pins σ H s) (gh : Gh T G H)
    (ha : G a = some (.lst vs)) (hb : G b = some (.lst ws)) (rx : RepL T G xs vs) (ry : RepL T G ys ws) (h : (if xs.length = ys.length then eqL (eqF cs n) xs ys else some false) = some r) :
    wpAny (model X.prog X.w) A' (richCompare (opNE ne) (.ref a) (.ref b)) (fun u s' => u = .bool (r != ne) ∧ ∃ G' H', Inv X pins σ H' s' ∧ Grow T G H G' H') X.xe s := by
  have hl1 := rx.length
  have hl2 := ry.length
  split at h
  · rename_i hl
    have hl' : vs.length = ws.length := by rw [hl1, hl2, hl]
    refine rc_list2 (hr.r.units0) (LoopD X T cs n pins σ G H xs ys r) (EndD X T pins σ G H r) (turnD ih hr hf gh ha hb rx ry hl') (fun s' ⟨er, G', H', I', gr⟩ => ?_) (fun s' ⟨he, G', H', I', gr⟩ => ?_) ⟨by rw [List.drop_zero, List.drop_zero]; exact h, G, H, I, Grow.refl gh.gh⟩
    · obtain ⟨its, its2, _, _, two⟩ := two_of I' (gr.gh _ _ (gr.gg _ _ ha)) (gr.gh _ _ (gr.gg _ _ hb)) hl'
      subst er
      exact ⟨⟨_, _, two⟩, by cases ne <;> rfl, G', H', I', gr⟩
    · rw [hl1, List.drop_length, hl, List.drop_length, eqL] at he
      cases he
      exact ⟨by cases ne <;> rfl, G', H', I', gr⟩
  · rename_i hl
    cases h
    obtain ⟨z, its, k, r, e⟩ := I.hok a _ (gh.gh _ _ ha)
    obtain ⟨z2, its2, k2, r2, e2⟩ := I.hok b _ (gh.gh _ _ hb)
    refine rc_len2 (hr.r.units0) e e2 (by rw [List.size_toArray, List.size_toArray, ← r.length, ← r2.length, hl1, hl2]; exact hl) ⟨by cases ne <;> rfl, G, H, I, Grow.refl gh.gh⟩
theorem eqAtD (hK : X.K = T.K) (CO : ClsOk T) (S : SubOk T) (hE : EqCs X T k cs) : ∀ (n : Nat) (d e : D) (r : Bool), eqF cs n d e = some r → EqAtD X T (k + n) d e r
  | 0, d, e, r, h => eqAt_P hK h
  | n + 1, d, e, r, h => by
    unfold eqF at h
    split at h
    · rename_i kk hk
      cases h
      exact eqAt_P hK hk
    · split at h
      · rename_i c fs c' gs _
        split at h
        · rename_i fm hfm
          split at h
          · rename_i kk hm
            obtain ⟨e1, hs⟩ := sure_some h
            cases e1
            obtain ⟨C, g, hc, M, F⟩ := hE c fm hfm
            intro A' pins s σ G H x y u v hr hf
            exact eqAt_obj hK CO S hc M F hm hs A' pins s σ G H x y u v (hr.mono (by omega)) hf
          · cases h
        · cases h
      · rename_i xs ys _
        obtain ⟨e1, hs⟩ := sure_some h
        intro A' pins s σ G H x y u v hr hf I rx ry gh rd re
        obtain ⟨a, vs, ex, ha, r1⟩ := id rd
        obtain ⟨b, ws, ey, hb, r2⟩ := id re
        subst ex ey
        cases rx
        cases ry
        by_cases hab : a = b
        · subst hab
          have e : r = true := hs.elim id fun z => by
            rw [same_of hK I gh.gh rd re] at z
            cases z
          subst e
          exact SeqAt.EqAt.same (A := A') (s := s) (.ref a) X.prog X.w X.xe _ ⟨rfl, G, H, I, Grow.refl gh.gh⟩
        · refine GQ.eqBool_refG hab ?_
          refine wpAny_mono (rcD (m := k + n) (eqAtD hK CO S hE n) false hr hf I gh ha hb r1 r2 e1) (fun u s' ⟨hu, G', H', I', gr⟩ => ⟨r, ?_, rfl, G', H', I', gr⟩) fun _ _ z => z
          rw [hu]
          cases r <;> rfl
      · rename_i xs ys _
        obtain ⟨e1, hs⟩ := sure_some h
        exact eqAt_dic hK e1 hs
      · cases h
end
end Fw
end

section
set_option Elab.async false
set_option linter.all false
set_option maxRecDepth 100000
set_option maxHeartbeats 4000000
set_option autoImplicit false
/-! # == and != by data, own methods within lists: the rules -/
namespace Fw
open PySem PySem.Spec L2 Evl
def eqX (ne : Bool) (cs : Str → Option (List D → Res D)) (n : Nat) (m1 m2 : MM D) : MM D := fun β => (m1 β).bind fun p => (m2 p.2).bind fun q => match eqF0 cs n p.1 q.1 with
  | some k => .ok (.bl (k != ne), q.2)
  | none => .bad
section
variable {X : Cx} {T : Tx} {W : WishX} {k n : Nat} {cs : Str → Option (List D → Res D)} {a b : Expr} {m1 m2 : MM D} {pos : Pos}
theorem pc_eqX (ne : Bool) (hK : X.K = T.K) (CO : ClsOk T) (S : SubOk T) (hE : EqCs X T k cs) (hr : Rm (k + n + 1) X.A) (ha : ME X T W a m1) (hb : ME X T W b m2) : PC X (opNE ne) a b (tM T W (eqX ne cs n m1 m2)) := by
  refine ⟨fun pins s σ H Q I ⟨A, F0, G, β, si, po⟩ => ?_⟩
  refine thn (ha.run pins s σ H (fun x H1 => tM T W m2 σ H1 fun y H2 => ∃ A F0 G β d e r, SI T A F0 G H2 σ β ∧ Rep T G d x ∧ Rep T G e y ∧ eqF0 cs n d e = some r ∧ ∀ G' H', Grow T G H2 G' H' → Q (.bl (r != ne)) H') I ⟨A, F0, G, β, si, ?_⟩) fun u s1 ⟨x, H1, I1, r1, q1⟩ => thn (hb.run pins s1 σ H1 _ I1 q1) fun v s2 ⟨y, H2, I2, r2, A, F0, G, β, d, e, r, si, rd, re, hk, q⟩ => ?_
  · refine PostE.bindE po fun d β1 v G1 H1 e1 s1 r1 p1 => ⟨A, F0, G1, β1, s1, PostE.bindE p1 fun d2 β2 v2 G2 H2 e2 s2 r2 p2 => ?_⟩
    dsimp only at p2
    cases hk : eqF0 cs n d d2 with
    | none => rw [hk] at p2; exact p2.elim
    | some kk =>
      rw [hk] at p2
      exact ⟨A, F0, G2, β2, d, d2, kk, s2, r1.mono e2, r2, hk, fun G' H' gr => p2 _ G' H' gr.gg (s2.grow gr) rfl⟩
  · have key : wpAny (model X.prog X.w) X.A (richCompare (opNE ne) u v) (fun u s' => u = .bool (r != ne) ∧ ∃ G' H', Inv X pins σ H' s' ∧ Grow T G H2 G' H') X.xe s2 := by
      unfold eqF0 at hk
      split at hk
      · rename_i kk hkk
        cases hk
        obtain ⟨p, q', hp, hq, sp, sq, ev⟩ := eqP_some hkk
        have d1 := dp_mono si.gh (rd.dp hp)
        have d2 := dp_mono si.gh (re.dp hq)
        rw [← hK] at d1 d2
        obtain ⟨as, w1⟩ := Dp.reads I2 p x u d1 r1
        obtain ⟨bs, w2⟩ := Dp.reads I2 q' y v d2 r2
        have hu : X.A.units + 64 < cLine := by have := hr.r.un; omega
        subst ev
        cases ne
        · exact SeqAt.compareEq_shaped w1 w2 sp sq hu ⟨by cases PyData.eqv p q' <;> rfl, G, H2, I2, Grow.refl si.gh⟩
        · exact SeqAt.compareNe_shaped w1 w2 sp sq hu ⟨by cases PyData.eqv p q' <;> rfl, G, H2, I2, Grow.refl si.gh⟩
      · split at hk
        · rename_i xs ys _
          obtain ⟨a, vs, ex, ha, rx⟩ := rd
          obtain ⟨b, ws, ey, hb, ry⟩ := re
          subst ex ey
          cases r1
          cases r2
          exact rcD (m := k + n) (eqAtD hK CO S hE n) ne hr rfl I2 si.gg ha hb rx ry hk
        · cases hk
    have hop : compareOp (opNE ne) u v = richCompare (opNE ne) u v := by cases ne <;> rfl
    rw [hop]
    refine wpAny_mono key (fun z s3 h => ?_) fun _ _ z => z
    obtain ⟨ez, G', H', I', gr⟩ := h
    subst ez
    exact ⟨.bl (r != ne), H', I', rfl, q G' H' gr⟩
theorem me_eqX (hK : X.K = T.K) (CO : ClsOk T) (S : SubOk T) (hE : EqCs X T k cs) (hr : Rm (k + n + 1) X.A) (ha : ME X T W a m1) (hb : ME X T W b m2) : ME X T W (.Compare a [.Eq] [b] pos) (eqX false cs n m1 m2) := pe_cmp (pc_eqX false hK CO S hE hr ha hb) (nomark _)
theorem me_neX (hK : X.K = T.K) (CO : ClsOk T) (S : SubOk T) (hE : EqCs X T k cs) (hr : Rm (k + n + 1) X.A) (ha : ME X T W a m1) (hb : ME X T W b m2) : ME X T W (.Compare a [.NotEq] [b] pos) (eqX true cs n m1 m2) := pe_cmp (pc_eqX true hK CO S hE hr ha hb) (nomark _)
theorem mt_eqX (hK : X.K = T.K) (CO : ClsOk T) (S : SubOk T) (hE : EqCs X T k cs) (hr : Rm (k + n + 1) X.A) (ha : ME X T W a m1) (hb : ME X T W b m2) : MT X T W (.Compare a [.Eq] [b] pos) (truthM (eqX false cs n m1 m2)) := pt_imp (pt_cmp (pc_eqX false hK CO S hE hr ha hb) (nomark _)) fun σ H Q h => tB_of h
theorem mt_neX (hK : X.K = T.K) (CO : ClsOk T) (S : SubOk T) (hE : EqCs X T k cs) (hr : Rm (k + n + 1) X.A) (ha : ME X T W a m1) (hb : ME X T W b m2) : MT X T W (.Compare a [.NotEq] [b] pos) (truthM (eqX true cs n m1 m2)) := pt_imp (pt_cmp (pc_eqX true hK CO S hE hr ha hb) (nomark _)) fun σ H Q h => tB_of h
end
end Fw
end

section
set_option Elab.async false
set_option linter.all false
set_option maxRecDepth 100000
set_option maxHeartbeats 4000000
set_option autoImplicit false
/-! # dict comprehensions -/
namespace Fw
open PySem PySem.Spec L2 Evl
def dcLoop (vs : List Nat) (g : GM) (tt : MM Bool) (tk tv : MM D) : List D → List (Key × D) → En → Res (List (Key × D) × En)
  | [], acc, β => .ok (acc, β)
  | d :: r, acc, β => (g d β).bindB fun β1 => (tt β1).bindB fun p =>
    if p.1 = true then (tk p.2).bindB fun q => (tv q.2).bindB fun z => match keyD q.1 with
      | some k => dcLoop vs g tt tk tv r (putD acc k z.1) (wipeB z.2 vs)
      | none => .bad
    else dcLoop vs g tt tk tv r acc (wipeB p.2 vs)
def dcM (mi : MM (List D)) (vs : List Nat) (g : GM) (tt : MM Bool) (tk tv : MM D) : MM D := fun β => (mi β).bind fun p =>
  if p.1.length ≤ 1000000 then (dcLoop vs g tt tk tv p.1 [] (wipeB p.2 vs)).bind fun q => .ok (.dic true q.1, q.2) else .bad
section
variable {T : Tx} {W : WishX} {mi : MM (List D)} {vs : List Nat} {g : GM} {tt : MM Bool} {tk tv : MM D}
theorem PostE.bindI {A : Nat → Option Addr} {F G : Hp} {σ : L2.St} {r : Res (List D × En)} {k : List D × En → Res (D × En)} {Q : VK} {Q1 : It → Hp → Prop} (h : PostE T A W F G σ (r.bind k) Q)
    (f : ∀ ds β' J G' H', Ex G G' → SI T A F G' H' σ β' → Yields T G' J ds → PostE T A W F G' σ (k (ds, β')) Q → Q1 J H') : PostI T A W F G σ r Q1 := by
  match r, h with
  | .ok (d, β'), h => exact fun J G2 H2 e2 s rp => f d β' J G2 H2 e2 s rp (PostE.mono e2 h)
  | .exc _ fs, h => exact h
  | .bad, h => exact h
theorem dc_sound {σ : L2.St} {H : Hp} {Q : VK} (h : tM T W (dcM mi vs g tt tk tv) σ H Q) :
    tDc (tI T W mi) (tG T vs g) (tT T W0 tt) (tM T W0 tk) (tM T W0 tv) vs σ H (fun v H1 => ∃ p u, v = .ref p ∧ H1 p = some u ∧ Mut (some u) ∧ ∀ od, Q v (upd H1 p (.frz od u))) := by
  obtain ⟨A, F, G, β, s, p⟩ := h
  refine ⟨A, F, G, β, s, PostE.bindI p fun ds β1 J G1 H1 e1 s1 y1 p1 => ?_⟩
  dsimp only at p1
  split at p1
  rotate_left
  · exact p1.elim
  rename_i hz
  intro Dl hD
  obtain ⟨s2, g0, f0, no⟩ := s1.fresh (o := .dK []) hD
  refine ⟨fun i n H' => n = ds.length - i ∧ i ≤ ds.length ∧ ∃ G' β' acc xs, Ex G1 G' ∧ SI T A F G' H' (L2.wipe σ vs) (wipeB β' vs) ∧ H' Dl = some (.dK xs) ∧ G' Dl = none ∧ NotOwn (L2.wipe σ vs) (wipeB β' vs) Dl ∧ RepK T G' acc xs ∧ xs.length ≤ i ∧ PostE T A W F G' σ ((dcLoop vs g tt tk tv (ds.drop i) acc (wipeB β' vs)).bind fun q => .ok (.dic true q.1, q.2)) Q,
    ⟨ds.length, by simp, Nat.zero_le _, G1, β1, [], [], Ex.refl _, s2.wipe vs, upd_same, g0, fun j b hb ho hv => ?_, rfl, Nat.le_refl _, p1⟩, ?_⟩
  · obtain ⟨h1, h2⟩ := wipeB_some hb
    rw [wipe_out h2] at hv
    exact no j b h1 ho hv
  rintro i n H' ⟨hn, hi', G', β', acc, xs, e', s', hx, gx, nx, rl, la, p'⟩
  by_cases hlt : i < ds.length
  · obtain ⟨d, hd⟩ : ∃ d, ds[i]? = some d := ⟨ds[i], by simp [hlt]⟩
    have hdrop : ds.drop i = d :: ds.drop (i + 1) := by
      obtain ⟨_, e⟩ := List.getElem?_eq_some_iff.mp hd
      rw [List.drop_eq_getElem_cons hlt, e]
    refine .inr ⟨y1.go i H' (e'.trans s'.gh) hlt, fun H2 => ∃ G' β' acc xs, Ex G1 G' ∧ SI T A F G' H2 (L2.wipe σ vs) (wipeB β' vs) ∧ H2 Dl = some (.dK xs) ∧ G' Dl = none ∧ NotOwn (L2.wipe σ vs) (wipeB β' vs) Dl ∧ RepK T G' acc xs ∧ xs.length ≤ i + 1 ∧ PostE T A W F G' σ ((dcLoop vs g tt tk tv (ds.drop (i + 1)) acc (wipeB β' vs)).bind fun q => .ok (.dic true q.1, q.2)) Q, fun H2 h => ⟨ds.length - (i + 1), by omega, rfl, hlt, h⟩, fun x H2 hy => ?_⟩
    obtain ⟨G2, gr, rx⟩ := y1.yld i d G' H' x H2 e' s'.gh hd hy
    rw [hdrop] at p'
    unfold dcLoop at p'
    have s2 := (s'.grow gr).wide (gr.hh _ _ hx) (gr.ap Dl (by rw [hx]; exact fun z => nomatch z) gx) nx f0
    refine ⟨A, upd F Dl (.dK xs), G2, wipeB β' vs, d, s2, rx, ?_⟩
    cases hgd : g d (wipeB β' vs) with
    | exc _ _ => rw [hgd] at p'; exact p'.elim
    | bad => rw [hgd] at p'; exact p'.elim
    | ok β2 =>
      rw [hgd] at p'
      dsimp only [Res.bindB_ok] at p'
      intro σ3 G3 H3 e3 s3 hw
      refine ⟨by rw [hw]; exact wipe_wipe, ?_⟩
      refine ⟨A, upd F Dl (.dK xs), G3, β2, s3, ?_⟩
      cases ht : tt β2 with
      | exc _ _ => rw [ht] at p'; exact p'.elim
      | bad => rw [ht] at p'; exact p'.elim
      | ok q =>
        obtain ⟨k, β3⟩ := q
        rw [ht] at p'
        dsimp only [Res.bindB_ok] at p'
        intro G4 H4 e4 s4
        have e14 : Ex G1 G4 := ((e'.trans gr.gg).trans e3).trans e4
        have e'4 : Ex G' G4 := (gr.gg.trans e3).trans e4
        have hw' : L2.wipe σ3 vs = L2.wipe σ vs := by rw [hw]; exact wipe_wipe
        cases k with
        | false =>
          refine iteF ?_
          obtain ⟨s5, h5, g5, n5⟩ := s4.narrow f0
          refine ⟨G4, β3, acc, xs, e14, hw' ▸ s5.wipe vs, h5, g5, fun j b hb ho hv => ?_, rl.mono e'4, by omega, PostE.mono e'4 p'⟩
          obtain ⟨h1, h2⟩ := wipeB_some hb
          rw [wipe_out h2, ← wipe_wipe_eq hw' h2] at hv
          exact n5 j b h1 ho hv
        | true =>
          refine iteT ?_
          refine ⟨A, upd F Dl (.dK xs), G4, β3, s4, ?_⟩
          simp only [if_true] at p'
          cases he : tk β3 with
          | exc _ _ => rw [he] at p'; exact p'.elim
          | bad => rw [he] at p'; exact p'.elim
          | ok q =>
            obtain ⟨d5, β5⟩ := q
            rw [he] at p'
            dsimp only [Res.bindB_ok] at p'
            intro v5 G5 H5 e5 s5 r5
            refine ⟨A, upd F Dl (.dK xs), G5, β5, s5, ?_⟩
            cases hv : tv β5 with
            | exc _ _ => rw [hv] at p'; exact p'.elim
            | bad => rw [hv] at p'; exact p'.elim
            | ok q =>
              obtain ⟨d6, β6⟩ := q
              rw [hv] at p'
              dsimp only [Res.bindB_ok] at p'
              intro v6 G6 H6 e6 s6 r6
              cases hk : keyD d5 with
              | none => rw [hk] at p'; exact p'.elim
              | some kk =>
                rw [hk] at p'
                dsimp only at p'
                obtain ⟨s7, h7, g7, n6⟩ := s6.narrow f0
                have e'6 : Ex G' G6 := (e'4.trans e5).trans e6
                have n7 : NotOwn (L2.wipe σ vs) (wipeB β6 vs) Dl := fun j b hb ho hv => by
                  obtain ⟨h1, h2⟩ := wipeB_some hb
                  rw [wipe_out h2, ← wipe_wipe_eq hw' h2] at hv
                  exact n6 j b h1 ho hv
                have hl := length_putK xs kk v6
                refine ⟨xs, kk, keyD_rep r5 hk, h7, ?_, G6, β6, putD acc kk d6, putK xs kk v6, (e14.trans e5).trans e6, (hw' ▸ s7.wipe vs).other h7 g7 f0 n7, upd_same, g7, n7, putD_rep (rl.mono e'6) r6, by omega, PostE.mono e'6 p'⟩
                exact Nat.lt_of_le_of_lt la (Nat.lt_of_lt_of_le hlt (sz_ok hz))
  · have e : i = ds.length := by omega
    subst e
    rw [List.drop_length] at p'
    refine .inl ⟨y1.stop _ H' (e'.trans s'.gh) (Nat.le_refl _), Dl, .dK xs, rfl, hx, True.intro, fun od => ?_⟩
    have nx' : NotOwn σ (wipeB β' vs) Dl := fun j b hb ho hv => by
      obtain ⟨h1, h2⟩ := wipeB_some hb
      exact nx j b hb ho (by rw [wipe_out h2]; exact hv)
    have s8 := (s'.unwipe.other (o := .frz od (.dK xs)) hx gx f0 nx').freeze upd_same gx f0 nx'
    exact p' _ (upd G' Dl (.frz od (.dK xs))) _ (Ex.new gx) s8 ⟨Dl, xs, rfl, ⟨.inr ⟨od, upd_same⟩, fun _ => ⟨od, upd_same⟩⟩, rl.mono (Ex.new gx)⟩
end
section
variable {X : Cx} {T : Tx} {W : WishX} {kx vx tg iter : Expr} {ifs : List Expr} {scope : Scope} {own : List (Str × Nat)} {pos : Pos} {mi : MM (List D)} {g : GM} {tt : MM Bool} {tk tv : MM D}
theorem me_dc (hc : X.calm = true) (hN : X.N.Nodup) (hi : MI X T W tg iter mi) (ok : BlkOk X.N X.env.scope scope own)
    (hg : ∀ (s : Shared) (H : Hp) (C : Addr) (cl : List (Str × Addr)) (fp : List Addr), MG (X.blk s H scope (compEnvC scope cl C X.env) fp) T (own.map (·.2)) tg g) (ht : ∀ (s : Shared) (H : Hp) (C : Addr) (cl : List (Str × Addr)) (fp : List Addr), MTs (X.blk s H scope (compEnvC scope cl C X.env) fp) T W0 ifs tt)
    (hk : ∀ (s : Shared) (H : Hp) (C : Addr) (cl : List (Str × Addr)) (fp : List Addr), ME (X.blk s H scope (compEnvC scope cl C X.env) fp) T W0 kx tk) (he : ∀ (s : Shared) (H : Hp) (C : Addr) (cl : List (Str × Addr)) (fp : List Addr), ME (X.blk s H scope (compEnvC scope cl C X.env) fp) T W0 vx tv)
    (hs : ∀ x, foldedSetIterable iter X.env x = pure x := by intro _; rfl) : ME X T W (.DictComp kx vx [⟨tg, iter, ifs, 0⟩] scope pos) (dcM mi (own.map (·.2)) g tt tk tv) :=
  pe_imp (pe_plock (pe_dc hc hN hi ok hg ht hk he hs)) fun σ H Q h => dc_sound h
end
end Fw
end

section
set_option Elab.async false
set_option linter.all false
set_option maxRecDepth 100000
set_option maxHeartbeats 4000000
set_option autoImplicit false
/-! # stars in displays -/
namespace Fw
open PySem PySem.Spec L2 Evl
section
variable {X : Cx} {pins : List (Addr × Obj)} {σ : L2.St} {H : Hp} {s : Shared}
theorem star_dk {a : Addr} {o : Obj} {kvs : List (Key × V)} {E : Value → Shared → Prop} {Q : List Value → Shared → Prop} (hc : X.calm = true) (I : Inv X pins σ H s) (h : H a = some (.frz o (.dK kvs)))
    (hQ : ∀ us s', Inv X pins σ H s' → Vals (kvs.map fun kv => kV kv.1) us → Q us s') : PySem.W.StarOf (model X.prog X.w) X.A E (.ref a) Q s := by
  obtain ⟨hs, hgd, hx, es, ep, vs, hdt, hsz, kv, hat⟩ := I.frzK h
  have z : kvs.length ≤ sizeLine := by
    obtain ⟨_, z, _⟩ := (show ObjOk X.prog X.w H s.heap a (.frz o (.dK kvs)) from I.hok a _ h)
    exact z
  have hl : kvs.length = vs.length := Paired.length kv
  have hcol : wpAny (model X.prog X.w) X.A (collect (.ref a)) Q E s := by
    refine PySem.W.kdu_collect (PySem.W.kdl_dict (knd := mixKind X.prog X.w) (kvs := vs) (ep := ep) hs) (I.ok.hd hc) hat (by rw [← hl]; exact z) fun h' tk acc hkeep hacc => ?_
    refine hQ acc.toList _ (I.kept (t' := tk) hkeep) ?_
    have el : acc.toList.length = acc.size := by simp
    refine vals_of_at (by rw [List.length_map, el, hacc.1, hl]) fun j x w h1 h2 => ?_
    obtain ⟨k, y, hky, hi⟩ := hacc.2 j w (by rw [← Array.getElem?_toList]; exact h2)
    have e1 : (kvs.map (·.1))[j]? = some k := by rw [KV.keys kv, List.getElem?_map, hky]; rfl
    have e2 : (kvs.map fun kv => kV kv.1)[j]? = some (kV k) := by
      have e3 : (kvs.map fun kv => kV kv.1) = (kvs.map (·.1)).map kV := by rw [List.map_map]; rfl
      rw [e3, List.getElem?_map, e1]; rfl
    rw [e2] at h1
    cases h1
    exact keyIs_rel hi
  unfold PySem.W.StarOf notIterableAtAll
  exact wpAny_bind (wpAny_specialOf (T := "dict") hat.dictOf.typeIs PySem.F.slot_dict_iter.lookup (wpAny_pure ⟨rfl, hcol⟩))
end
def starIt (d : D) : Option (List D) := match d with
  | .dic true kvs => some (kvs.map fun kv => keyAs kv.1)
  | .lst ds => some ds
  | .tup ds => some ds
  | _ => none
def starEM (m : MM D) (ms : MM (List D)) : MM (List D) := fun β => (m β).bind fun p => match starIt p.1 with
  | some ds => (ms p.2).bind fun q => .ok (ds ++ q.1, q.2)
  | none => .bad
section
variable {X : Cx} {T : Tx} {W : WishX} {e : Expr} {es : List Expr} {m : MM D} {ms : MM (List D)} {p : Pos}
theorem repL_keys {G : Hp} : ∀ {ds : List (Key × D)} {vs : List (Key × V)}, RepK T G ds vs → RepL T G (ds.map fun kv => keyAs kv.1) (vs.map fun kv => kV kv.1)
  | [], vs, r => by
    obtain rfl : vs = [] := r
    exact rfl
  | (k, d) :: ds, vs, r => by
    obtain ⟨v, t, rfl, _, b⟩ := r
    exact ⟨kV k, _, rfl, keyAs_rep k, repL_keys b⟩
theorem ma_star (hK : X.K = T.K) (hc : X.calm = true) (he : ME X T W e m) (hr : MA X T W es ms) (hs : starEach (.Starred e p :: es) X.env = (true, eval e X.env) :: starEach es X.env := by rfl) : MA X T W (.Starred e p :: es) (starEM m ms) := by
  refine ⟨fun pos pins s σ H Q I ⟨A, F, G, β, si, po⟩ => ?_⟩
  refine PySem.W.items_star (thn (he.run pins s σ H (fun x H1 => ∃ a xs, x = .ref a ∧ ((SqT X.K H1 a xs ∨ SqL X.K H1 a xs) ∨ ∃ o kvs, H1 a = some (.frz o (.dK kvs)) ∧ xs = kvs.map fun kv => kV kv.1) ∧ tA T W ms σ H1 fun ys H2 => Q (xs ++ ys) H2) I ⟨A, F, G, β, si, ?_⟩) fun v s1 ⟨y, H1, I1, ry, a, xs, ey, hx, q⟩ => ?_) hs
  · unfold starEM at po
    cases h1 : m β with
    | exc c fs => rw [h1] at po; exact po
    | bad => rw [h1] at po; exact po
    | ok q =>
      obtain ⟨d, β1⟩ := q
      rw [h1] at po
      intro v G1 H1 e1 s1 r1
      have p1 := PostA.mono e1 po
      dsimp only [Res.bind_ok] at p1
      cases hi : starIt d with
      | none => rw [hi] at p1; exact p1.elim
      | some ds =>
        rw [hi] at p1
        dsimp only at p1
        have key : ∀ xs, RepL T G1 ds xs → tA T W ms σ H1 fun ys H2 => Q (xs ++ ys) H2 := fun xs rx => ⟨A, F, G1, β1, s1, p1.bindA fun d2 β2 v2 G2 H2 e2 s2 r2 p2 => p2 _ G2 H2 (Ex.refl _) s2 ((rx.mono e2).append r2)⟩
        cases d with
        | lst xs =>
          cases hi
          obtain ⟨a, vs, rfl, ha, rl⟩ := r1
          exact ⟨a, vs, rfl, .inl (.inr (.inl (.inl (s1.gh _ _ ha)))), key vs rl⟩
        | tup xs =>
          cases hi
          obtain ⟨a, vs, rfl, ha, rl⟩ := r1
          exact ⟨a, vs, rfl, .inl (.inl (hK ▸ (ha.mono s1.gh).sq)), key vs rl⟩
        | dic l kvs =>
          cases l with
          | false => cases hi
          | true =>
            cases hi
            obtain ⟨a, ys, rfl, ha, rk⟩ := r1
            obtain ⟨o, ho⟩ := ha.2 rfl
            exact ⟨a, _, rfl, .inr ⟨o, ys, s1.gh _ _ ho, rfl⟩, key _ (repL_keys rk)⟩
        | _ => cases hi
  · subst ey
    obtain rfl : v = Value.ref a := ry
    rcases hx with hx | ⟨o, kvs, ho, ex⟩
    · refine StX.star_any I1 hx fun us s2 I2 rv => ?_
      exact thn (hr.run pos pins s2 σ H1 _ I2 q) fun ws s3 ⟨vs, H3, I3, r3, q3⟩ => ⟨xs ++ vs, H3, I3, rv.append r3, q3⟩
    · subst ex
      refine star_dk hc I1 ho fun us s2 I2 rv => ?_
      exact thn (hr.run pos pins s2 σ H1 _ I2 q) fun ws s3 ⟨vs, H3, I3, r3, q3⟩ => ⟨_ ++ vs, H3, I3, rv.append r3, q3⟩
end
end Fw
end

section
set_option Elab.async false
set_option linter.all false
set_option maxRecDepth 100000
set_option maxHeartbeats 4000000
set_option autoImplicit false
/-! # own exceptions over other bases than ValueError -/
namespace Fw
open PySem Builtin Builtin.ObjectAttr
abbrev exTail (B : String) : List Value := [.type B, .type "Exception", .type "BaseException", .type "object"]
/-- own classes, then the base's -/
def ownThen (B : String) : List Value → Bool
  | .ref _ :: r => ownThen B r
  | l => l == exTail B
theorem own_cases {B : String} : ∀ l : List Value, ownThen B l = true → (∃ c r, l = .ref c :: r ∧ ownThen B r = true) ∨ l = exTail B := by
  intro l e
  cases l with
  | nil => exact .inr (beq_iff_eq.mp e)
  | cons a r => cases a <;> first | exact .inl ⟨_, r, rfl, e⟩ | exact .inr (beq_iff_eq.mp e)
theorem own_pass {B : String} {self : Value} (hp : refuseLoop self "__setattr__" (exTail B) = pure ()) : ∀ l : List Value, ownThen B l = true → refuseLoop self "__setattr__" l = pure ()
  | [], e => absurd (beq_iff_eq.mp e) (by simp)
  | a :: r, e => by
    rcases own_cases (a :: r) e with ⟨c, r', q, h⟩ | q
    · injection q with q1 q2
      subst q1 q2
      rw [refuseLoop_ref]
      exact own_pass hp r h
    · rw [q]
      exact hp
theorem own_has {B : String} (Y : String) : ∀ l : List Value, ownThen B l = true → l.contains (.type Y) = (exTail B).contains (.type Y)
  | [], e => absurd (beq_iff_eq.mp e) (by simp)
  | a :: r, e => by
    rcases own_cases (a :: r) e with ⟨c, r', q, h⟩ | q
    · injection q with q1 q2
      subst q1 q2
      rw [List.contains_cons, own_has Y r h]
      rfl
    · rw [q]
theorem own_ne {B : String} {l : List Value} (e : ownThen B l = true) : l.isEmpty = false := by
  cases l with
  | nil => exact absurd (beq_iff_eq.mp e) (by simp)
  | cons _ _ => rfl
theorem passes_LE (self : Value) : refuseLoop self "__setattr__" (exTail "LookupError") = pure () := by kernel_rfl
theorem passes_AE (self : Value) : refuseLoop self "__setattr__" (exTail "ArithmeticError") = pure () := by kernel_rfl
section
variable {prog : Program} {w : World} {A : Around} {E : Value → Shared → Prop} {R : Result → Shared → Prop} {hp : Heap} {g : Array GenState} {d : Drawn} {t : Nat} {os : OsState}
theorem osa_own {B : String} (hpass : ∀ self, refuseLoop self "__setattr__" (exTail B) = pure ()) {K : W.Frag} {name : Str} {tk : Tok} {v : Value} {x C : Addr} {fv : Array Value} {cd : ClassData} (X : K.In hp) (hx : hp.get? x = some { cls := .ref C, data := .fields fv })
    (hcd : W.clsIn K C = some cd) (hm : ownThen B cd.mro = true) (hh : cd.hasDict = true) (ha : W.findIn K (.ref C) name = some none)
    (hq : ∀ h' tk' dx, (∀ b o, b ≠ x → hp.get? b = some o → h'.get? b = some o) → hp.objs.size ≤ dx → dx ≠ x → h'.get? x = some { cls := .ref C, dict := some dx, data := .fields fv } → h'.Ns1 dx (fun y => if y = name then some v else none) → R (.ok (.ret .none)) ⟨h', g, d, tk', os⟩) :
    codeAny (model prog w) A (.call (.builtin "object.__setattr__") ⟨[.ref x, .str name tk, v], []⟩) R ⟨hp, g, d, t, os⟩ := by
  have J : W.InstAt hp x { cls := .ref C, data := .fields fv } C none := ⟨hx, rfl, rfl, trivial⟩
  have O := F.store_object
  have hob : cd.mro.contains (.type "object") = true := (own_has "object" _ hm).trans (by simp [exTail])
  have hxs : x ≠ hp.objs.size := Nat.ne_of_lt (Heap.lt_size hx)
  have hmro : W.mroIn K C (.type "object") = some true := by
    unfold W.mroIn
    rw [hcd, Option.bind_some, if_neg (by rw [own_ne hm]; decide), hob]
  have isO : W.Looks (model prog w) hp (isInstance (.ref x) (.type "object")) true := J.type.andThen (W.looks_mroIn X hmro)
  refine codeAny_call_builtin O.slot.plain O.entry (@W.check_slot (model prog w) _ _ ⟨hp, g, d, t, os⟩ "object.__setattr__" "object" "__setattr__" (.ref x) [.str name tk, v] [] _ O.kind O.split isO (O.args (.ref x) (.str name tk) v) ?_)
  have k1 : W.Looks (model prog w) hp (mroOf (.ref C)) cd.mro := (W.looks_clsIn X hcd).andThen .now
  have k2 : W.Looks (model prog w) hp (storeTaker? none) none := .now
  have k3 : W.Looks (model prog w) hp (classData C) cd := W.looks_clsIn X hcd
  rw [W.osa_eq, refuse_eq]
  refine wpAny_bind (wpAny_bind (J.type.at (wpAny_bind (k1.at ?_))))
  rw [own_pass (hpass _) _ hm]
  refine wpAny_pure (wpAny_bind (J.type.at (wpAny_bind ((W.looks_findIn X ha).at (wpAny_bind (k2.at ?_))))))
  show wpAny _ _ (storeInOwnDict (.ref x) (.ref C) (.str name tk) name v false) _ _ _
  obtain ⟨nm, bs, mro, ns, qn, hd, sn, sb, ab, col, del⟩ := cd
  dsimp only at hh
  subst hh
  unfold storeInOwnDict ownDictForStores
  repeat (first | with_reducible refine PySem.HandSPX.store_in_new ?_ ?_ | with_reducible refine wpAny_loadPart_at hx ?_ | with_reducible refine k3.at ?_ | wp_step)
  · exact ⟨_, #[], _, (Heap.get?_update_ne _ _ _ _ hxs.symm).trans (Heap.get?_push_at rfl rfl), rfl, fun e he => absurd he (by simp), fun _ => rfl⟩
  · intro h' tk' hn' hs
    have hx1 : (hp.push { cls := .type "dict", data := .dict #[] }).get? x = some { cls := .ref C, data := .fields fv } := Heap.get?_push_of_some _ hx
    refine hq h' tk' hp.objs.size (fun b o hb ho => ?_) (Nat.le_refl _) hxs.symm ?_ hn'
    · exact (hs.2 b (Nat.ne_of_lt (Heap.lt_size ho))).trans ((Heap.get?_update_ne _ _ _ _ hb).trans (Heap.get?_push_of_some _ ho))
    · exact (hs.2 x hxs).trans (Heap.get?_update_self _ hx1 rfl)
end
end Fw
namespace Fw
open PySem PySem.Spec L2 Evl
/-- an own exception class over B -/
structure OexB (K : PySem.W.Frag) (C : Addr) (B nid iid : String) : Prop where
  cls : ∃ nm q N bs bm sn sub ab col dd k0 k1 k2 k3 k5, K.lookup C = some (excClassObj nm q C N bs bm true sn sub ab col dd k0 k1 k2 k3 k5 nid) ∧ ownThen B bm = true
  fac : ExcBaseFacts B nid iid (exTail B)
  pas : ∀ self, refuseLoop self "__setattr__" (exTail B) = pure ()
  sa : PySem.W.findIn K (.ref C) "__setattr__" = some (some (.builtin "object.__setattr__"))
  exC : PySem.W.subIn K (.ref C) (.type "BaseException") = some true
  tyC : PySem.W.typeIn K (.ref C) = some (.type "type")
  kC : PySem.W.keepIn K (.ref C) = true
section
variable {X : Cx} {B nid iid : String} {pins : List (Addr × Obj)} {σ : St} {H : Hp} {s : Shared} {a C dx : Addr} {f : Str} {y : V} {u : Value} {Q : Unit → Shared → Prop} {E : Value → Shared → Prop} {A : Around}
theorem og_new (O : OexB X.K C B nid iid) (I : Inv X pins σ H s) (e : H a = some (exo a C none)) (hno : PySem.W.findIn X.K (.ref C) f = some none) (ry : RelV y u)
    (h : ∀ dx s', H dx = none → dx ≠ a → Inv X pins σ (upd (upd H dx (exd dx [(f, y)])) a (exo a C (some dx))) s' → Q () s') : wpAny (model X.prog X.w) A (setAttr (.ref a) f u) Q E s := by
  obtain ⟨nm, q, N, bs, bm, sn, sub, ab, col, dd, k0, k1, k2, k3, k5, hC, hbm⟩ := O.cls
  have hcl : PySem.W.clsIn X.K C = some { name := nm, bases := bs, mro := .ref C :: bm, ns := N, qualname := q, hasDict := true, slotNames := sn, subclasses := sub, abstract := ab, collection := col, hasDel := false } := by
    unfold PySem.W.clsIn
    rw [hC]
  obtain ⟨t1, ho⟩ := exo_at I.hok e
  obtain ⟨hp, g, d, t, os⟩ := s
  refine PySem.W.set_plain I.kIn (ox := { cls := .ref C, dict := none, data := .fields #[.ref t1, .none, .none, .none, .bool false, .none] }) (od := none) ⟨ho, rfl, rfl, trivial⟩ O.sa ?_
  refine osa_own O.pas I.kIn ho hcl (show ownThen B (.ref C :: bm) = true from hbm) rfl hno (fun h' tk' dx k dn dne hx hn => ?_)
  have hnd : H dx = none := I.hok.fresh dn
  have ndx : ∀ {b : Addr} {o : Obj}, hp.get? b = some o → b ≠ dx := fun {b o} q => Nat.ne_of_lt (Nat.lt_of_lt_of_le (Heap.lt_size q) dn)
  have nda : ∀ {b : Addr}, H b = none → b ≠ a := fun {b} n z => by rw [z, e] at n; cases n
  have un : Un X.fs [] H (upd (upd H dx (exd dx [(f, y)])) a (exo a C (some dx))) hp h' := {
    keep := fun b o q n _ _ => k b o (nda n) q
    slot := fun b o q n _ _ => ⟨o.slots, k b o (nda n) q⟩
    free := fun b o q n _ => by rw [upd_ne (nda n), upd_ne (ndx q)]; exact n
    there := fun b o q _ => by
      by_cases hb : b = a
      · exact ⟨_, hb ▸ hx⟩
      · exact ⟨o, k b o hb q⟩
    tups := fun b xs q => by rw [upd_ne (at_ne e q exo_tup), upd_ne (ne_of_none q hnd)]; exact q
    frzs := fun b o v q => by rw [upd_ne (at_ne e q exo_frz), upd_ne (ne_of_none q hnd)]; exact q
    tbls := fun b ps q => ⟨#[], by rw [upd_ne (at_ne e q exo_tbl), upd_ne (ne_of_none q hnd), q]; simp⟩ }
  refine h dx _ hnd dne (I.un (t' := tk') un fun b o q => ?_)
  by_cases hb : b = a
  · subst hb
    rw [upd_same] at q
    cases q
    exact exo_ok hx
  · rw [upd_ne hb] at q
    by_cases hd : b = dx
    · subst hd
      rw [upd_same] at q
      cases q
      exact exd_ok hn (relO_put (fs := []) ry fun g => True.intro)
    · rw [upd_ne hd] at q
      refine (I.hok b o q).stay (fun c v hc z => k c v ?_ z) (fun c hc => ?_) (fun c xs hc => ?_)
      · rcases hc with hc | hc
        · rw [hc]; exact hb
        · exact at_ne e hc exo_own
      · rw [upd_ne (at_ne e hc exo_own), upd_ne (ne_of_none hc hnd)]; exact hc
      · rw [upd_ne (at_ne e hc exo_tup), upd_ne (ne_of_none hc hnd)]; exact hc
end
def spXB (K : PySem.W.Frag) (B nid iid : String) (f : Str) : Sp := fun vs H Q E => ∃ a C v, vs = [.ref a, v] ∧ OexB K C B nid iid ∧ PySem.W.findIn K (.ref C) f = some none ∧ H a = some (exo a C none) ∧ ∀ dx, H dx = none → dx ≠ a → Q .non (upd (upd H dx (exd dx [(f, v)])) a (exo a C (some dx)))
def tOgB (K : PySem.W.Frag) (B nid iid : String) (f : Str) (to te : TE) : TS := fun D σ H => te σ H fun y H1 => to σ H1 fun x H2 => ∃ a C : Addr, x = .ref a ∧ OexB K C B nid iid ∧ PySem.W.findIn K (.ref C) f = some none ∧ H2 a = some (exo a C none) ∧ ∀ dx, H2 dx = none → dx ≠ a → D.nx σ (upd (upd H2 dx (exd dx [(f, y)])) a (exo a C (some dx)))
theorem ps_og {X : Cx} {B nid iid : String} {o e : Expr} {to te : TE} {f : Str} {p' pos : Pos} (ho : PE X o to) (he : PE X e te) (hs : swapsWith e (some (.Attribute o f p')) pos.line X.env = pure false := by rfl) : PS X (.Assign [.Attribute o f p'] e pos) (tOgB X.K B nid iid f to te) := by
  refine ⟨fun pins s σ H D I h => ?_⟩
  refine plainObj_wpAny_Assign_Attribute (thn (he.run pins s σ H _ I h) fun v s1 ⟨y, H1, I1, r1, q1⟩ => thn (ho.run pins s1 σ H1 _ I1 q1) fun u s2 ⟨x, H2, I2, r2, a, C, ex, O, hno, ea, q⟩ => ?_) hs
  subst ex
  obtain rfl : u = Value.ref a := r2
  exact og_new O I2 ea hno r1 fun dx s' n ne J => ⟨σ, _, J, q dx n ne⟩
section
variable {P : Program} {w : World} {K : PySem.W.Frag} {mg : Str → Option Value} {base : Heap} {x qual f s1 s2 : Str} {st : Stmt} {g : Addr} {fd : FuncData} {k : Nat} {p1 p2 p3 p4 : Pos} {B nid iid : String}
theorem fn_XB (F : Fun K x qual st g fd) (S : FnScope [s1, s2] [s1, s2] (defScope st)) (hbd : ∀ us : List Value, us.length = 2 → bindArgs fd ⟨us, []⟩ = pure ([s1, s2].zip us)) (hbody : defBody st = [.Assign [.Attribute (.Name s1 p1) f p2] (.Name s2 p3) p4])
    (v1 : Vis (defScope st) s1) (v2 : Vis (defScope st) s2) (d1 : (s1 == ("__debug__" : Str)) = false) (d2 : (s1 == ("__classdict__" : Str)) = false) (d3 : (s2 == ("__debug__" : Str)) = false) (d4 : (s2 == ("__classdict__" : Str)) = false) : FnG P w K mg base (k + 1) g [] (spXB K B nid iid f) := by
  refine fn_P (ps := [s1, s2]) F S hbd (fun vs H Q E ⟨a, C, v, e, _⟩ => by rw [e]; rfl) (fun cdv A outer s H vs Q E hr h => ?_)
  rw [hbody]
  refine ⟨_, pss_one (ps_og (B := B) (nid := nid) (iid := iid) (pe_var (i := 0) rfl v1 d1 d2) (pe_var (i := 1) rfl v2 d3 d4) (by rfl)), ?_⟩
  obtain ⟨a, C, v, rfl, T, hno, ha, q⟩ := h
  exact ⟨v, rfl, .ref a, rfl, a, C, rfl, T, hno, ha, q⟩
end
section
open PyProof.Rows (envOfC)
variable {X : Cx} {T : Tx} {W : WishX} {x c f : Str} {C fI : Addr} {k : Nat} {e : Expr} {m : MM D} {p pos rpos : Pos} {B nid iid : String}
theorem pmk_XB (O : OexB X.K C B nid iid) (iC : PySem.W.findIn X.K (.ref C) "__init__" = some (some (.ref fI))) (tI : PySem.W.typeIn X.K (.ref fI) = some (.type "function")) (hno : PySem.W.findIn X.K (.ref C) f = some none)
    (F1 : FnG X.prog X.w X.K X.mg X.base k fI [] (spXB X.K B nid iid f)) (hr : Rm (k + 1) X.A) (tk0 : Takes X (fun _ _ _ _ => False)) (hg : Gl X x) (hm : X.mg x = some (.ref C)) {te : TE} (he : PE X e te)
    (hdb : (x == ("__debug__" : Str)) = false := by decide) (hs : starEach [e] X.env = [(false, eval e X.env)] := by rfl) :
    PMk X (.Call (.Name x p) [e] [] pos) (fun σ H Q => te σ H fun v H1 => ∀ a d, H1 a = none → H1 d = none → d ≠ a → Q (.ref C) (some d) (upd H1 d (.xd [(f, v)]))) := by
  intro pins s σ H Q I h
  obtain ⟨nm, q, N, bs, bm, sn, sub, ab, col, dd, k0, k1, k2, k3, k5, hC, hbm⟩ := O.cls
  refine wpAny_Call_Name_kw (ld_glob I hg hm ?_ hdb)
  refine PySem.W.callWith_K (h₀ := X.base) I.ok.mod.kin O.kC (thn ((pa_cons he pa_nil hs).run pos pins s σ H (fun vs H1 => match vs with
    | [v] => ∀ a d, H1 a = none → H1 d = none → d ≠ a → Q (.ref C) (some d) (upd H1 d (.xd [(f, v)]))
    | _ => False) I h) fun us s1 ⟨vs, H1, I1, r1, q1'⟩ => ⟨I1.kIn, ?_⟩) hs rfl
  obtain ⟨v, ev, q1⟩ : ∃ v, vs = [v] ∧ ∀ a d, H1 a = none → H1 d = none → d ≠ a → Q (.ref C) (some d) (upd H1 d (.xd [(f, v)])) := by
    match vs, q1' with
    | [v], q => exact ⟨v, rfl, q⟩
  subst ev
  show wpAny _ _ (call (.ref C) us) _ _ _
  obtain ⟨hp, g, dr, tk, os⟩ := s1
  have hsz : hp.objs.size ≤ hp.objs.size + 1 := Nat.le_succ _
  have hn : H1 (hp.objs.size + 1) = none := I1.hok.fresh hsz
  have kk : ∀ b o, hp.get? b = some o → ((hp.push (PySem.W.kdv_tup us)).push (PySem.HandSPX.excO C hp.objs.size)).get? b = some o := fun b o e => Heap.get?_push_of_some _ (Heap.get?_push_of_some _ e)
  have hget : ((hp.push (PySem.W.kdv_tup us)).push (PySem.HandSPX.excO C hp.objs.size)).get? (hp.objs.size + 1) = some (PySem.HandSPX.excO C hp.objs.size) := by heap_get
  have I2 : Inv X pins σ (upd H1 (hp.objs.size + 1) (exo (hp.objs.size + 1) C none)) ⟨(hp.push (PySem.W.kdv_tup us)).push (PySem.HandSPX.excO C hp.objs.size), g, dr, tk, os⟩ :=
    I1.laid (t' := tk) (a := hp.objs.size + 1) (o := exo (hp.objs.size + 1) C none) (h' := (hp.push (PySem.W.kdv_tup us)).push (PySem.HandSPX.excO C hp.objs.size)) kk hsz (exo_ok hget)
  have r2 : Vals [V.ref (hp.objs.size + 1), v] (Value.ref (hp.objs.size + 1) :: us) := .cons rfl r1
  have hus : us.length ≤ sizeLine := by
    rw [← Paired.length r1, sizeLine_eq]
    simp
  have hsp : spXB X.K B nid iid f ([V.ref (hp.objs.size + 1), v] ++ []) (upd H1 (hp.objs.size + 1) (exo (hp.objs.size + 1) C none))
      (fun u H2 => u = .non ∧ ∃ (d : Addr) (fs : List (Str × V)), H2 (hp.objs.size + 1) = some (exo (hp.objs.size + 1) C (some d)) ∧ H2 d = some (exd d fs) ∧ H1 d = none ∧ Q (.ref C) (some d) (upd (del H2 (hp.objs.size + 1)) d (.xd fs))) (fun _ _ _ => False) := by
    refine ⟨hp.objs.size + 1, C, v, rfl, O, hno, upd_same, fun dx h1 h2 => ⟨rfl, dx, [(f, v)], upd_same, ?_, ?_, ?_⟩⟩
    · rw [upd_ne h2, upd_same]
    · rw [upd_ne h2] at h1; exact h1
    · rw [upd_ne h2] at h1
      have e : upd (del (upd (upd (upd H1 (hp.objs.size + 1) (exo (hp.objs.size + 1) C none)) dx (exd dx [(f, v)])) (hp.objs.size + 1) (exo (hp.objs.size + 1) C (some dx))) (hp.objs.size + 1)) dx (.xd [(f, v)]) = upd H1 dx (.xd [(f, v)]) := by
        funext b
        by_cases z : b = dx
        · subst z; rw [upd_same, upd_same]
        · rw [upd_ne z, upd_ne z]
          by_cases z2 : b = hp.objs.size + 1
          · subst z2; rw [del_same, hn]
          · rw [del_ne z2, upd_ne z2, upd_ne z, upd_ne z2]
      rw [e]
      exact q1 _ dx hn h1 h2
  refine wpAny_call (PySem.HandSPX.call_own O.fac (fun Y => own_has Y bm hbm) (I1.kIn _ _ hC) (PySem.W.looks_findIn I1.kIn iC) (fun self => PySem.W.bind_fn I1.kIn self tI) hus
    (codeAny_mono (F1 _ X.stack _ _ (Value.ref (hp.objs.size + 1) :: us) [] _ [] _ (fun _ _ _ => False) (hr.make C us []) (I2.env0.make C us []) r2 .nil rfl hsp) fun r s' hq' => ?_))
  cases r with
  | error er => exact passAt tk0 σ pins _ _ er s' I2 hq'
  | ok fl =>
    cases fl with
    | ret u =>
      obtain ⟨v', H2, os2, bare2, un2, hok2, rv, ev, d, fs, ea, ed, hd1, q2⟩ := hq'
      subst ev
      obtain ⟨h2, g2, d2, t2, os'⟩ := s'
      exact ⟨rv, mk_end (raises_own O.exC O.tyC) I1 hsz kk un2 hok2 os2 bare2 ea ed hd1 q2⟩
    | next => exact False.elim hq'
    | brk => exact False.elim hq'
    | cont => exact False.elim hq'
theorem ms_raiseB (O : OexB X.K C B nid iid) (iC : PySem.W.findIn X.K (.ref C) "__init__" = some (some (.ref fI))) (tI : PySem.W.typeIn X.K (.ref fI) = some (.type "function")) (hno : PySem.W.findIn X.K (.ref C) f = some none)
    (F1 : FnG X.prog X.w X.K X.mg X.base k fI [] (spXB X.K B nid iid f)) (hr : Rm (k + 1) X.A) (hcalm : X.calm = true) (tk0 : Takes X (fun _ _ _ _ => False)) (tk : Takes X W) (hc : T.xc c = some C) (hg : Gl X x) (hm : X.mg x = some (.ref C)) (he : ME X T W e m)
    (hdb : (x == ("__debug__" : Str)) = false := by decide) (hs : starEach [e] X.env = [(false, eval e X.env)] := by rfl) : MS X T W (.Raise (some (.Call (.Name x p) [e] [] pos)) none rpos) (raiseM c f m) := by
  refine ps_imp (ps_raise hcalm tk (pmk_XB O iC tI hno F1 hr tk0 hg hm he hdb hs)) fun D σ H ⟨A, F, G, β, s, p⟩ => ?_
  refine ⟨A, F, G, β, s, p.bindE fun d β1 v G1 H1 e1 s1 r1 p1 a dx ha hd ne => ?_⟩
  have gd : G1 dx = none := fresh_back s1.gh hd
  exact p1 σ C dx [(f, v)] G1 _ hc (Ex.refl _) (s1.gh.trans (Ex.new hd)) (s1.fh.trans (Ex.new hd)) (s1.dj.grow s1.fh (Grow.side s1.gh (Evl.Ex.new hd))) upd_same ⟨v, [], rfl, r1, rfl⟩
end
end Fw
end

section
set_option Elab.async false
set_option linter.all false
set_option maxRecDepth 100000
set_option maxHeartbeats 4000000
set_option autoImplicit false
/-! # helpers for printed texts, second part -/
namespace Fw
open PySem PySem.Spec L2 Evl
section
variable {X : Cx} {T : Tx} {W : WishX} {k : Nat} {C g : Addr} {c : Str} {fm : List D → Res D} {a b : Expr} {m1 m2 : MM D} {pos : Pos}
theorem me_cmpO {op : CmpOp} (hop : ∀ (v u : Value), compareOp op v u = richCompare op v u) (hK : X.K = T.K) (CO : ClsOk T) (S : SubOk T) (hc : T.cl c = some C) (M : Meth X.K C (cmpInfo op).2.1 g) (F : FnG X.prog X.w X.K X.mg X.base k g [] (spF T 2 fm)) (hr : Rm k X.A) (tk : Takes X W) (ha : ME X T W a m1) (hb : ME X T W b m2) (hm : behindInMarks op b = false) :
    ME X T W (.Compare a [op] [b] pos) (dun2 c okBl fm m1 m2) := pe_cmp (pc_cmpO hop hK CO S hc M F hr tk ha hb) hm
theorem mt_cmpO {op : CmpOp} (hop : ∀ (v u : Value), compareOp op v u = richCompare op v u) (hK : X.K = T.K) (CO : ClsOk T) (S : SubOk T) (hc : T.cl c = some C) (M : Meth X.K C (cmpInfo op).2.1 g) (F : FnG X.prog X.w X.K X.mg X.base k g [] (spF T 2 fm)) (hr : Rm k X.A) (tk : Takes X W) (ha : ME X T W a m1) (hb : ME X T W b m2) (hm : behindInMarks op b = false) :
    MT X T W (.Compare a [op] [b] pos) (truthM (dun2 c okBl fm m1 m2)) := pt_imp (pt_cmp (pc_cmpO hop hK CO S hc M F hr tk ha hb) hm) fun σ H Q h => tB_of h
def csOne (c : Str) (fm : List D → Res D) : Str → Option (List D → Res D) := fun c' => if c' = c then some fm else none
theorem eqcs_one (hc : T.cl c = some C) (M : Meth X.K C "__eq__" g) (F : FnG X.prog X.w X.K X.mg X.base k g [] (spF T 2 fm)) : EqCs X T k (csOne c fm) := by
  intro c' fm' h
  unfold csOne at h
  split at h
  · rename_i e
    cases h
    subst e
    exact ⟨C, g, hc, M, F⟩
  · cases h
end
theorem two_some {α β : Type} {o : Option α} {p : Option β} (h : (o.isSome && p.isSome) = true) : ∃ x y, o = some x ∧ p = some y := by
  cases o <;> cases p <;> first | exact ⟨_, _, rfl, rfl⟩ | cases h
theorem binOk_of {T : Tx} {C : Addr} {nm : String} {rc : Option Value} (sf : PySem.W.selfFirst T.K C = true) (hr : PySem.W.findIn T.K (.ref C) (dunderR nm) = some rc) (hp : rc = none ∨ ∃ g : Addr, rc = some (.ref g))
    (ty : ∀ t ∈ sevenT, ((PySem.W.findIn T.K (.type t) (PySem.dunder nm)).isSome && (PySem.W.findIn T.K (.type t) (dunderR nm)).isSome) = true) : BinOk T C nm :=
  ⟨sf, ⟨rc, hr, hp⟩, fun t ht => two_some (ty t ht)⟩
def slotNo (a b : Option (Option Value)) : Bool := match a, b with
  | some fo, some ro => !((fo.isSome && !isSeqSlot fo) || (ro.isSome && !isSeqSlot ro))
  | _, _ => false
theorem rmulOk_of {T : Tx} {C : Addr} (sf : PySem.W.selfFirst T.K C = true) (ty : ∀ t ∈ (["NoneType", "str", "tuple", "list", "dict"] : List String), slotNo (PySem.W.findIn T.K (.type t) (PySem.dunder "mul")) (PySem.W.findIn T.K (.type t) (dunderR "mul")) = true)
    (sub : ∀ t ∈ (["int", "bool"] : List String), PySem.W.subIn T.K (.ref C) (.type t) = some false) : RmulOk T C :=
  ⟨sf, (fun t ht => by
    have h := ty t ht
    unfold slotNo at h
    split at h
    · rename_i fo ro h1 h2
      exact ⟨fo, ro, h1, h2, by rw [Bool.not_eq_true'] at h; exact h⟩
    · exact absurd h Bool.false_ne_true), sub⟩
end Fw
end

section
set_option Elab.async false
set_option linter.all false
set_option maxRecDepth 100000
set_option maxHeartbeats 4000000
set_option autoImplicit false
/-! # a, b = a list -/
namespace Fw
open PySem PySem.Spec L2 Evl
def gLs (gs : GsM) : GM := fun d β => match d with
  | .lst ds => gs ds β
  | _ => .bad
theorem mg_lst {X : Cx} {T : Tx} {vs : List Nat} {es : List Expr} {k : Nat} {gs : GsM} {n : Nat} {pos : Pos} (hK : X.K = T.K) (hc : X.calm = true) (h : MGs X T vs es gs) (hl : ∀ ds β β', gs ds β = .ok β' → ds.length = n) (hn : (assignEach es X.env).length = n := by rfl) (hst : (assignEach es X.env).findIdx? (·.1) = none := by rfl) : MG X T vs (.Tuple es k pos) (gLs gs) := by
  refine pg_imp (pg_lst hc h hn hst) fun v σ H Q ⟨A, F, G, β, d, s, r, p⟩ => ?_
  cases d with
  | lst ds =>
    obtain ⟨a, xs, rfl, sq, rl⟩ := r
    refine ⟨a, xs, rfl, .inl (.inl (s.gh _ _ sq)), ?_, A, F, G, β, ds, s, rl, p⟩
    rw [rl.length]
    cases hg : gs ds β with
    | ok β1 => exact hl _ _ _ hg
    | exc _ _ => rw [show gLs gs (.lst ds) β = gs ds β from rfl, hg] at p; exact p.elim
    | bad => rw [show gLs gs (.lst ds) β = gs ds β from rfl, hg] at p; exact p.elim
  | _ => exact p.elim
/-! ### t + u, t may be empty -/
def rCat0 (K : PySem.W.Frag) : R2 := fun x y H Q => ∃ a b ys, x = .ref a ∧ y = .ref b ∧ SqT K H a [] ∧ SqT K H b ys ∧ Q y H
theorem op_cat0 {X : Cx} : OpR X (binaryOp .Add) (rCat0 X.K) := by
  intro pins s σ H x y v u Q I rx ry h
  obtain ⟨a, b, ys, rfl, rfl, ha, hb, q⟩ := h
  cases rx
  cases ry
  obtain ⟨its, r1, p1, _⟩ := I.tuple ha
  obtain ⟨its2, r2, p2, _⟩ := I.tuple hb
  cases r1
  exact cat_tup0 p1 p2 ⟨.ref b, H, I, rfl, q⟩
def addX (a b : D) : Res D := match a, b with
  | .tup [], .tup y => .ok (.tup y)
  | a, b => addD a b
theorem p_addX {T : Tx} : Prim2 T (fun x y H Q => rCat0 T.K x y H Q ∨ rAddA T.K x y H Q) addX := by
  intro G H x y a b Q e ra rb h
  unfold addX at h
  split at h
  · rename_i ys
    obtain ⟨l, xs, rfl, h1, r1⟩ := ra
    obtain ⟨l2, zs, rfl, h2, r2⟩ := id rb
    obtain rfl : xs = [] := r1
    exact .inl ⟨l, l2, zs, rfl, rfl, (h1.mono e).sq, (h2.mono e).sq, h _ G H (Grow.refl e) rb⟩
  · exact .inr (p_addA G H x y a b Q e ra rb h)
theorem me_addX {X : Cx} {T : Tx} {W : WishX} {a b : Expr} {m1 m2 : MM D} {pos : Pos} (hK : X.K = T.K) (ha : ME X T W a m1) (hb : ME X T W b m2) : ME X T W (.BinOp a .Add b pos) (opM addX m1 m2) := me_op (OpR.or op_cat0 op_addA) (hK ▸ p_addX) ha hb
end Fw
end

section
set_option Elab.async false
set_option linter.all false
set_option maxRecDepth 100000
set_option maxHeartbeats 4000000
set_option autoImplicit false
/-! # a def handed to a def -/
namespace Fw
open PySem PySem.Spec L2 Evl
open PyProof.Rows (envOfC)
def spFn (T : Tx) (q : Str) (fm : List D → Res D) : Sp := fun vs H Q E => ∃ G x d a, vs = [x, .ref a] ∧ T.fn q = some a ∧ Gh T G H ∧ Rep T G d x ∧ PostFn T G H (fm [d]) Q E
def envFn (n : Nat) (q : Str) (d : D) : En := some (.im d) :: some (.fn q) :: List.replicate (n - 2) none
def runFn (m : MM Fl) (n : Nat) (q : Str) (ds : List D) : Res D := match ds with
  | [d] => (m (envFn n q d)).bind fun p => match p.1 with
    | .rt d => .ok d
    | .nx => .ok .non
    | _ => .bad
  | _ => .bad
theorem envFn_at {n : Nat} {q : Str} {d : D} {i : Nat} {b : B} (h : (envFn n q d)[i]? = some (some b)) : (i = 0 ∧ b = .im d) ∨ (i = 1 ∧ b = .fn q) := by
  unfold envFn at h
  match i, h with
  | 0, h => cases h; exact .inl ⟨rfl, rfl⟩
  | 1, h => cases h; exact .inr ⟨rfl, rfl⟩
  | i + 2, h =>
    rw [List.getElem?_cons_succ, List.getElem?_cons_succ, List.getElem?_replicate] at h
    split at h <;> cases h
theorem si_startFn {T : Tx} {G H : Hp} {q : Str} {d : D} {x : V} {a : Addr} {N : List Str} (eg : Gh T G H) (hq : T.fn q = some a) (r : Rep T G d x) : SI T (fun _ => none) (off G H) G H (L2.start N [x, .ref a]) (envFn N.length q d) := by
  refine ⟨off_sub, eg.gh, ⟨off_dj, fun h => h⟩, ?_, fun i b hb => ?_, fun i j b c p h1 h2 o1 => ?_, fun i b hb hp => ?_, eg.tb⟩
  · rw [start_len]
    unfold envFn
    simp
    omega
  · rcases envFn_at hb with ⟨rfl, rfl⟩ | ⟨rfl, rfl⟩
    · exact ⟨x, start_at rfl, r⟩
    · exact ⟨.ref a, start_at rfl, a, rfl, hq⟩
  · rcases envFn_at h1 with ⟨rfl, rfl⟩ | ⟨rfl, rfl⟩ <;> cases o1
  · rcases envFn_at hb with ⟨rfl, rfl⟩ | ⟨rfl, rfl⟩ <;> cases hp
section
variable {P : Program} {w : World} {K : PySem.W.Frag} {mg : Str → Option Value} {base : Heap} {k : Nat} {f : Addr} {x qual : Str} {st : Stmt} {fd : FuncData} {N ps : List Str} {T : Tx} {m : MM Fl}
theorem fn_Fn {q : Str} (F : Fun K x qual st f fd) (S : FnScope N ps (defScope st)) (hps : ps.length = 2) (hbd : ∀ us : List Value, us.length = ps.length → bindArgs fd ⟨us, []⟩ = pure (ps.zip us)) (hb : ∀ (cdv : Value) (A : Around) (outer : List Env) (s : Shared) (H : Hp) (E : XK), Rm k (A.deeper (envOfC qual (defScope st) s.heap.objs.size f cdv)) →
      MSs (cxOf (L2.CX P w) P w K mg base N qual (defScope st) f cdv A outer s H E) T (wE E) (defBody st) m) : FnG P w K mg base (k + 1) f [] (spFn T q (runFn m N.length q)) := by
  refine fn_P F S hbd (fun vs H Q E h => ?_) (fun cdv A outer s H vs Q E hr h => ⟨_, hb cdv A outer s H E hr, ?_⟩)
  · obtain ⟨_, _, _, _, rfl, _⟩ := h
    exact hps.symm
  obtain ⟨G, x, d, a, rfl, hq, eg, r, p⟩ := h
  refine ⟨fun _ => none, off G H, G, envFn N.length q d, si_startFn eg hq r, ?_⟩
  unfold runFn at p
  dsimp only at p
  match m (envFn N.length q d), p with
  | .ok (.nx, β'), p => exact fun σ' G' H' e s' => p _ G' H' (off_grow eg.gh e s'.gh s'.fh s'.dj) rfl
  | .ok (.bk, β'), p => exact p.elim
  | .ok (.ct, β'), p => exact p.elim
  | .ok (.rt d, β'), p => exact fun v σ' G' H' e s' rv => p v G' H' (off_grow eg.gh e s'.gh s'.fh s'.dj) rv
  | .ok (.rf d, β'), p => exact p.elim
  | .exc c fs, p => exact fun σ' C dx ys G' H' hc e gh fh dj hx rf => p C dx ys G' H' hc (off_grow eg.gh e gh fh dj) hx rf
  | .bad, p => exact p
end
/-- the call of a slot's def -/
def lclM (i : Nat) (tab : Str → Option (List D → Res D)) (m : MM (List D)) : MM D := fun β => match β[i]? with
  | some (some (.fn q)) => match tab q with
    | some fm => callM fm m β
    | none => .bad
  | _ => .bad
def tClL (i : Nat) (f : Addr) (sp : Sp) (W : WX) (t : TA) : TE := fun σ H Q => σ[i]? = some (some (.ref f)) ∧ t σ H fun vs H1 => sp vs H1 Q (WE W σ)
section
variable {X : Cx} {T : Tx} {W : WishX} {k i n : Nat} {f : Addr} {sp : Sp} {x y : Str} {p p2 pos : Pos} {e : Expr} {es : List Expr} {t : TA} {m : MM (List D)}
theorem pe_clL {W : WX} (F : FnG X.prog X.w X.K X.mg X.base k f [] sp) (hr : Rm k X.A) (hN : X.N[i]? = some x) (hv : Vis X.env.scope x) (hk : PySem.W.keepIn X.K (.ref f) = true) (tk : Takes X W) (ha : PA X (e :: es) t)
    (hdb : (x == ("__debug__" : Str)) = false := by decide) (hcd : (x == ("__classdict__" : Str)) = false := by decide)
    (he : starEach (e :: es) X.env = (false, eval e X.env) :: starEach es X.env := by rfl) (hpl : (backTo pos (starEach es X.env)).any (·.1) = false := by rfl) : PE X (.Call (.Name x p) (e :: es) [] pos) (tClL i f sp W t) := by
  refine ⟨fun pins s σ H Q I h => ?_⟩
  obtain ⟨hs, ht⟩ := h
  refine wpAny_Call_Name_kw (thn ((pe_var (pos := p) hN hv hdb hcd).run pins s σ H (fun v H1 => v = .ref f ∧ H1 = H) I ⟨.ref f, hs, rfl, rfl⟩) fun u s1 ⟨v, H1, I1, r1, q1⟩ => ?_)
  obtain ⟨rfl, rfl⟩ := q1
  cases r1
  exact PySem.W.callWith_K (h₀ := X.base) I.ok.mod.kin hk (thn (ha.run pos pins s1 σ _ _ I1 ht) fun us s2 ⟨vs, H2, I2, r, q⟩ => ⟨I2.kIn, run_G0 F hr tk I2 r q⟩) he hpl
theorem me_lcl {tab : Str → Option (List D → Res D)} (hF : ∀ q fm, tab q = some fm → ∃ a, T.fn q = some a ∧ FnG X.prog X.w X.K X.mg X.base k a [] (spF T n fm) ∧ PySem.W.keepIn X.K (.ref a) = true) (hr : Rm k X.A) (hN : X.N[i]? = some x) (hv : Vis X.env.scope x) (tk : Takes X W)
    (ha : MA X T W (e :: es) m) (hn : ∀ β ds β', m β = .ok (ds, β') → ds.length = n) (hdb : (x == ("__debug__" : Str)) = false := by decide) (hcd : (x == ("__classdict__" : Str)) = false := by decide)
    (he : starEach (e :: es) X.env = (false, eval e X.env) :: starEach es X.env := by rfl) (hpl : (backTo pos (starEach es X.env)).any (·.1) = false := by rfl) : ME X T W (.Call (.Name x p) (e :: es) [] pos) (lclM i tab m) := by
  refine ⟨fun pins s σ H Q I ⟨A, F0, G, β, si, po⟩ => ?_⟩
  unfold lclM at po
  split at po
  · rename_i q hb
    split at po
    · rename_i fm htab
      obtain ⟨a, hfn, F, hk⟩ := hF q fm htab
      obtain ⟨v, hv1, a', e1, e2⟩ := si.at' i _ hb
      rw [hfn] at e2
      cases e2
      subst e1
      refine (pe_clL (i := i) F hr hN hv hk tk ha hdb hcd he hpl).run pins s σ H Q I ⟨hv1, A, F0, G, β, si, ?_⟩
      unfold callM at po
      cases hm : m β with
      | ok q =>
        obtain ⟨ds, β'⟩ := q
        rw [hm] at po
        intro vs G1 H1 e1 s1 r1
        exact ⟨by rw [r1.length]; exact hn _ _ _ hm, G1, ds, s1.gg, r1, PostFn.of s1 (PostE.mono e1 po)⟩
      | exc c fs => rw [hm] at po; exact po
      | bad => rw [hm] at po; exact po
    · exact po.elim
  · exact po.elim
/-- f(e, g), g a def of the text -/
theorem me_callFn {fm : List D → Res D} {q : Str} {a : Addr} {m : MM D} (F : FnG X.prog X.w X.K X.mg X.base k f [] (spFn T q fm)) (hr : Rm k X.A) (hg : Gl X x) (hm : X.mg x = some (.ref f)) (hk : PySem.W.keepIn X.K (.ref f) = true) (tk : Takes X W)
    (ha : ME X T W e m) (hg2 : Gl X y) (hm2 : X.mg y = some (.ref a)) (hfn : T.fn q = some a) (hdb : (x == ("__debug__" : Str)) = false := by decide) (hdb2 : (y == ("__debug__" : Str)) = false := by decide)
    (hs : starEach [e, .Name y p2] X.env = (false, eval e X.env) :: starEach [.Name y p2] X.env := by rfl) (hpl : (backTo pos (starEach [.Name y p2] X.env)).any (·.1) = false := by rfl) : ME X T W (.Call (.Name x p) [e, .Name y p2] [] pos) (callM fm (consM m nilM)) := by
  refine pe_imp (pe_cl F hr hg hm hk tk (pa_cons ha (pa_cons (pe_glob (v := .ref a) hg2 hm2 rfl hdb2) pa_nil (by rfl)) hs) hdb hs hpl) fun σ H Q ⟨A, F0, G, β, s, p⟩ => ?_
  unfold callM consM nilM at p
  cases hmb : m β with
  | ok r =>
    obtain ⟨d, β'⟩ := r
    rw [hmb] at p
    refine ⟨A, F0, G, β, s, ?_⟩
    rw [hmb]
    intro v G1 H1 e1 s1 r1
    exact ⟨G1, v, d, a, rfl, hfn, s1.gg, r1, PostFn.of s1 (PostE.mono e1 p)⟩
  | exc c fs =>
    rw [hmb] at p
    refine ⟨A, F0, G, β, s, ?_⟩
    rw [hmb]
    exact p
  | bad => rw [hmb] at p; exact p.elim
end
end Fw
end

section
set_option Elab.async false
set_option linter.all false
set_option maxRecDepth 100000
set_option maxHeartbeats 4000000
set_option autoImplicit false
/-! # zip of lists and tuples, each of its kind -/
namespace Fw
open PySem PySem.Spec L2 Evl PyProof.Rows
def SqG (t : Bool) (h : Heap) (a : Addr) (xs : Array Value) : Prop := match t with
  | true => h.IsTuple a xs
  | false => h.IsList a xs
def ItG (t : Bool) (h : Heap) (it l : Addr) (i : Nat) : Prop := match t with
  | true => h.IsTupleIter it l i
  | false => h.IsListIter it l i
theorem SqG.ext {t : Bool} {h h' : Heap} {a b : Addr} {xs : Array Value} (x : SqG t h a xs) (e : Heap.ExtBut b h h') (n : a ≠ b) : SqG t h' a xs := by
  cases t
  · exact Heap.IsList.extBut x e n
  · exact Heap.IsTuple.extBut x e n
theorem SqG.push {t : Bool} {h : Heap} {a : Addr} {xs : Array Value} (x : SqG t h a xs) (o : Obj) : SqG t (h.push o) a xs := by
  cases t
  · exact Heap.IsList.push x o
  · exact Heap.IsTuple.push x o
theorem ItG.ext {t : Bool} {h h' : Heap} {it b l : Addr} {i : Nat} (x : ItG t h it l i) (e : Heap.ExtBut b h h') (n : it ≠ b) : ItG t h' it l i := by
  cases t
  · exact Heap.IsListIter.extBut x e n
  · exact Heap.IsTupleIter.extBut x e n
theorem ItG.at {t : Bool} {h h' : Heap} {it l : Addr} {i : Nat} (x : ItG t h it l i) (e : ∀ o, h.get? it = some o → h'.get? it = some o) : ItG t h' it l i := by
  cases t
  · exact Heap.IsListIter.at x e
  · exact Heap.IsTupleIter.at x e
theorem ItG.obj {t : Bool} {h : Heap} {it l : Addr} {i : Nat} (x : ItG t h it l i) : ∃ o, h.get? it = some o ∧ ∀ v, o.data ≠ .cell v := by
  cases t
  · obtain ⟨o, e, _, d⟩ := x
    exact ⟨o, e, fun v q => by rw [d] at q; cases q⟩
  · obtain ⟨o, e, _, d⟩ := x
    exact ⟨o, e, fun v q => by rw [d] at q; cases q⟩
section
variable {prog : Program} {w : World} {A : Around} {E : Value → Shared → Prop} {s : Shared}
theorem next_G {t : Bool} {it l : Addr} {i : Nat} {xs : Array Value} {x : Value} {Q : Value → Shared → Prop} (hi : ItG t s.heap it l i) (hl : SqG t s.heap l xs) (hx : xs[i]? = some x)
    (k : ∀ h', ItG t h' it l (i + 1) → Heap.SameBut it s.heap h' → Q x { s with heap := h' }) : wpAny (model prog w) A (Builtin.SmallTypes.nextOf (.ref it)) Q E s := by
  cases t
  · exact wpAny_nextOf_list_item hi hl hx k
  · exact RZ.nextOf_tuple_item hi hl hx k
theorem end_G {t : Bool} {it l : Addr} {i : Nat} {xs : Array Value} {Q : Value → Shared → Prop} (hh : A.handled = none) (hi : ItG t s.heap it l i) (hl : SqG t s.heap l xs) (hx : xs[i]? = none)
    (k : ∀ h' e, Heap.ExtBut it s.heap h' → (∃ o, h'.get? e = some o ∧ o.cls = .type "StopIteration") → E (.ref e) { s with heap := h' }) : wpAny (model prog w) A (Builtin.SmallTypes.nextOf (.ref it)) Q E s := by
  cases t
  · exact wpAny_nextOf_list_end hh hi hl hx k
  · exact RZ.nextOf_tuple_end hh hi hl hx k
theorem zipG_item {t1 t2 : Bool} {z TI TO i1 i2 l1 l2 : Addr} {k1 k2 : Nat} {xs ys : Array Value} {x y a b : Value} {Q : Value → Shared → Prop} (Ap : ZipApart z TI TO i1 i2 l1 l2)
    (hz : IsZip s.heap z TI TO .none) (hTI : IsPair s.heap TI (.ref i1) (.ref i2)) (hTO : IsPair s.heap TO a b) (h1 : ItG t1 s.heap i1 l1 k1) (h2 : ItG t2 s.heap i2 l2 k2) (hl1 : SqG t1 s.heap l1 xs) (hl2 : SqG t2 s.heap l2 ys) (hx : xs[k1]? = some x) (hy : ys[k2]? = some y)
    (fin : ∀ h', IsZip h' z TI TO (rawInt s.heap.objs.size) → IsPair h' TO x y → ItG t1 h' i1 l1 (k1 + 1) → ItG t2 h' i2 l2 (k2 + 1) → IsPair h' s.heap.objs.size x y → h'.objs.size = s.heap.objs.size + 1 →
      (∀ c o, c ≠ z → c ≠ TO → c ≠ i1 → c ≠ i2 → s.heap.get? c = some o → h'.get? c = some o) → Q (.ref s.heap.objs.size) { s with heap := h' }) :
    wpAny (model prog w) A (Builtin.«zip.__next__» ⟨[.ref z], []⟩) (fun f s' => ∃ v, f = .done (.ret v) ∧ Q v s') E s := by
  show wpAny _ _ (field (.ref z) 2 >>= _) _ _ _; refine wpAny_bind (wpAny_field hz rfl (x := .bool false) rfl ?_)
  show wpAny _ _ (field (.ref z) 3 >>= _) _ _ _; refine wpAny_bind (wpAny_field hz rfl (x := .ref TI) rfl (wpAny_bind (wpAny_seqItems hTI rfl ?_)))
  show wpAny _ _ (Builtin.SmallTypes.ownedTupleIsFree (.ref z) >>= _) _ _ _; refine wpAny_bind ?_
  unfold Builtin.SmallTypes.ownedTupleIsFree; refine wpAny_bind (wpAny_field hz rfl (x := .none) rfl (wpAny_pure ?_)); simp only [if_true]
  refine wpAny_bind (wpAny_rule (wpAny_bind (wpAny_field hz rfl (x := .ref TO) rfl (wpAny_bind (wpAny_setField_rec hz (by simp) fun g1 hz1 e1 => ?_)))))
  replace hz1 : IsZip g1 z TI TO .ellipsis := hz1; refine wpAny_bind ?_; simp only [List.zipIdx_cons, List.zipIdx_nil, List.forIn_cons, List.forIn_nil]
  refine wpAny_bind (wpAny_bind (wpAny_onRaise ?_)); show wpAny _ _ (Builtin.SmallTypes.nextOf (.ref i1) >>= _) _ _ _
  refine wpAny_bind (next_G (h1.ext e1.extBut Ap.i1z) (hl1.ext e1.extBut Ap.l1z) hx fun g2 k1' e2 => wpAny_pure ?_)
  have hTO2 : IsPair g2 TO a b := e2.extBut _ _ Ap.TOi1 (e1.extBut _ _ Ap.TOz hTO)
  refine wpAny_bind (wpAny_seqItems hTO2 rfl (wpAny_bind (wpAny_updateSeq_pair hTO2 fun g3 hTO3 e3 => ?_))); replace hTO3 : IsPair g3 TO x b := hTO3
  refine wpAny_bind (wpAny_letGo (wpAny_pure ?_)); refine wpAny_bind (wpAny_bind (wpAny_onRaise ?_)); show wpAny _ _ (Builtin.SmallTypes.nextOf (.ref i2) >>= _) _ _ _
  refine wpAny_bind (next_G (((h2.ext e1.extBut Ap.i2z).ext e2.extBut Ap.i12.symm).ext e3.extBut Ap.TOi2.symm) (((hl2.ext e1.extBut Ap.l2z).ext e2.extBut Ap.l2i1).ext e3.extBut Ap.l2TO) hy fun g4 k2' e4 => wpAny_pure ?_)
  have hTO4 : IsPair g4 TO x b := e4.extBut _ _ Ap.TOi2 hTO3
  refine wpAny_bind (wpAny_seqItems hTO4 rfl (wpAny_bind (wpAny_updateSeq_pair hTO4 fun g5 hTO5 e5 => ?_))); replace hTO5 : IsPair g5 TO x y := hTO5
  refine wpAny_bind (wpAny_letGo (wpAny_pure (wpAny_pure (wpAny_bind (wpAny_seqItems hTO5 rfl (wpAny_bind (wpAny_newTuple ?_)))))))
  have sz5 : g5.objs.size = s.heap.objs.size := by rw [e5.1, e4.1, e3.1, e2.1, e1.1]
  have hz5 : IsZip g5 z TI TO .ellipsis := e5.extBut _ _ Ap.TOz.symm (e4.extBut _ _ Ap.i2z.symm (e3.extBut _ _ Ap.TOz.symm (e2.extBut _ _ Ap.i1z.symm hz1)))
  have stay5 : ∀ c o, c ≠ z → c ≠ TO → c ≠ i1 → c ≠ i2 → s.heap.get? c = some o → g5.get? c = some o := fun c o n1 n2 n3 n4 q => e5.extBut _ _ n2 (e4.extBut _ _ n4 (e3.extBut _ _ n2 (e2.extBut _ _ n3 (e1.extBut _ _ n1 q))))
  have a5 : ItG t1 g5 i1 l1 (k1 + 1) := ((k1'.ext e3.extBut Ap.TOi1.symm).ext e4.extBut Ap.i12).ext e5.extBut Ap.TOi1.symm
  have b5 : ItG t2 g5 i2 l2 (k2 + 1) := k2'.ext e5.extBut Ap.TOi2.symm
  have zlt : z < g5.objs.size := Heap.lt_size hz5
  show wpAny _ _ (Builtin.SmallTypes.ownedTupleHandOut (.ref z) (.ref g5.objs.size) >>= _) _ _ _; refine wpAny_bind ?_; unfold Builtin.SmallTypes.ownedTupleHandOut
  have hz6 : IsZip (g5.push { cls := .type "tuple", data := .seq #[x, y] }) z TI TO .ellipsis := Heap.get?_push_of_some _ hz5
  refine wpAny_bind (wpAny_setField_rec hz6 (by simp) fun g7 hz7 e7 => ?_); replace hz7 : IsZip g7 z TI TO (rawInt g5.objs.size) := hz7
  refine wpAny_setField_rec hz7 (by simp) fun g8 hz8 e8 => ?_; replace hz8 : IsZip g8 z TI TO (rawInt g5.objs.size) := hz8
  have up : ∀ c o, c ≠ z → g5.get? c = some o → g8.get? c = some o := fun c o n1 q => e8.extBut _ _ n1 (e7.extBut _ _ n1 (Heap.get?_push_of_some _ q))
  have pr8 : IsPair g8 g5.objs.size x y := e8.extBut _ _ (Nat.ne_of_gt zlt) (e7.extBut _ _ (Nat.ne_of_gt zlt) (Heap.get?_push_size _ rfl))
  have sz8 : g8.objs.size = g5.objs.size + 1 := by rw [e8.1, e7.1, Heap.size_push]
  rw [sz5] at hz8 pr8 sz8
  refine wpAny_pure ⟨_, rfl, ?_⟩
  show Q (.ref g5.objs.size) _
  rw [sz5]
  exact fin g8 hz8 (up _ _ Ap.TOz hTO5) (a5.at fun o q => up _ o Ap.i1z q) (b5.at fun o q => up _ o Ap.i2z q) pr8 sz8 fun c o n1 n2 n3 n4 q => up c o n1 (stay5 c o n1 n2 n3 n4 q)
theorem zipG_end {t1 t2 : Bool} {z TI TO i1 i2 l1 l2 : Addr} {k1 k2 : Nat} {xs ys : Array Value} {a b : Value} {Q : Fin → Shared → Prop} (hh : A.handled = none) (Ap : ZipApart z TI TO i1 i2 l1 l2)
    (hz : IsZip s.heap z TI TO .none) (hTI : IsPair s.heap TI (.ref i1) (.ref i2)) (hTO : IsPair s.heap TO a b) (h1 : ItG t1 s.heap i1 l1 k1) (h2 : ItG t2 s.heap i2 l2 k2) (hl1 : SqG t1 s.heap l1 xs) (hl2 : SqG t2 s.heap l2 ys) (hend : xs[k1]? = none ∨ ys[k2]? = none)
    (fin : ∀ h' e, (∀ c o, c ≠ z → c ≠ TO → c ≠ i1 → c ≠ i2 → s.heap.get? c = some o → h'.get? c = some o) → (∃ o, h'.get? e = some o ∧ o.cls = .type "StopIteration") → E (.ref e) { s with heap := h' }) :
    wpAny (model prog w) A (Builtin.«zip.__next__» ⟨[.ref z], []⟩) Q E s := by
  show wpAny _ _ (field (.ref z) 2 >>= _) _ _ _; refine wpAny_bind (wpAny_field hz rfl (x := .bool false) rfl ?_)
  show wpAny _ _ (field (.ref z) 3 >>= _) _ _ _; refine wpAny_bind (wpAny_field hz rfl (x := .ref TI) rfl (wpAny_bind (wpAny_seqItems hTI rfl ?_)))
  show wpAny _ _ (Builtin.SmallTypes.ownedTupleIsFree (.ref z) >>= _) _ _ _; refine wpAny_bind ?_
  unfold Builtin.SmallTypes.ownedTupleIsFree; refine wpAny_bind (wpAny_field hz rfl (x := .none) rfl (wpAny_pure ?_)); simp only [if_true]
  refine wpAny_bind (wpAny_rule (wpAny_bind (wpAny_field hz rfl (x := .ref TO) rfl (wpAny_bind (wpAny_setField_rec hz (by simp) fun g1 hz1 e1 => ?_)))))
  replace hz1 : IsZip g1 z TI TO .ellipsis := hz1; refine wpAny_bind ?_; simp only [List.zipIdx_cons, List.zipIdx_nil, List.forIn_cons, List.forIn_nil]
  refine wpAny_bind (wpAny_bind (wpAny_onRaise ?_)); show wpAny _ _ (Builtin.SmallTypes.nextOf (.ref i1) >>= _) _ _ _
  cases hx : xs[k1]? with
  | none =>
    refine wpAny_bind (end_G hh (h1.ext e1.extBut Ap.i1z) (hl1.ext e1.extBut Ap.l1z) hx fun g2 e e2 ⟨oe, he, hce⟩ => ?_)
    have hz2 : IsZip g2 z TI TO .ellipsis := e2 _ _ Ap.i1z.symm hz1
    have nez : e ≠ z := fun q => by subst q; rw [hz2] at he; cases he; simp at hce
    exact wpAny_setField_rec hz2 (by simp) fun g3 _ e3 => fin g3 e (fun c o n1 _ n3 _ q => e3.extBut _ _ n1 (e2 _ _ n3 (e1.extBut _ _ n1 q))) ⟨oe, e3.extBut _ _ nez he, hce⟩
  | some x =>
    have hy : ys[k2]? = none := hend.elim (fun q => by rw [hx] at q; cases q) id
    refine wpAny_bind (next_G (h1.ext e1.extBut Ap.i1z) (hl1.ext e1.extBut Ap.l1z) hx fun g2 k1' e2 => wpAny_pure ?_)
    have hTO2 : IsPair g2 TO a b := e2.extBut _ _ Ap.TOi1 (e1.extBut _ _ Ap.TOz hTO)
    refine wpAny_bind (wpAny_seqItems hTO2 rfl (wpAny_bind (wpAny_updateSeq_pair hTO2 fun g3 hTO3 e3 => ?_)))
    refine wpAny_bind (wpAny_letGo (wpAny_pure ?_)); refine wpAny_bind (wpAny_bind (wpAny_onRaise ?_)); show wpAny _ _ (Builtin.SmallTypes.nextOf (.ref i2) >>= _) _ _ _
    refine wpAny_bind (end_G hh (((h2.ext e1.extBut Ap.i2z).ext e2.extBut Ap.i12.symm).ext e3.extBut Ap.TOi2.symm) (((hl2.ext e1.extBut Ap.l2z).ext e2.extBut Ap.l2i1).ext e3.extBut Ap.l2TO) hy fun g4 e e4 ⟨oe, he, hce⟩ => ?_)
    have hz4 : IsZip g4 z TI TO .ellipsis := e4 _ _ Ap.i2z.symm (e3.extBut _ _ Ap.TOz.symm (e2.extBut _ _ Ap.i1z.symm hz1))
    have nez : e ≠ z := fun q => by subst q; rw [hz4] at he; cases he; simp at hce
    exact wpAny_setField_rec hz4 (by simp) fun g5 _ e5 => fin g5 e (fun c o n1 n2 n3 n4 q => e5.extBut _ _ n1 (e4 _ _ n4 (e3.extBut _ _ n2 (e2.extBut _ _ n3 (e1.extBut _ _ n1 q))))) ⟨oe, e5.extBut _ _ nez he, hce⟩
end
def itName (t : Bool) : String := if t then "tuple_iterator" else "list_iterator"
abbrev zg1 (t1 : Bool) (h : Heap) (l1 : Addr) : Heap := h.push { cls := .type (itName t1), data := .fields #[.ref l1, .int 0 0] }
abbrev zg2 (t1 t2 : Bool) (h : Heap) (l1 l2 : Addr) : Heap := (zg1 t1 h l1).push { cls := .type (itName t2), data := .fields #[.ref l2, .int 0 0] }
abbrev zg3 (t1 t2 : Bool) (h : Heap) (l1 l2 : Addr) : Heap := (zg2 t1 t2 h l1 l2).push { cls := .type "tuple", data := .seq #[.ref h.objs.size, .ref (zg1 t1 h l1).objs.size] }
abbrev zg4 (t1 t2 : Bool) (h : Heap) (l1 l2 : Addr) : Heap := (zg3 t1 t2 h l1 l2).push { cls := .type "tuple", data := .seq #[.none, .none] }
abbrev zg5 (t1 t2 : Bool) (h : Heap) (l1 l2 : Addr) : Heap := (zg4 t1 t2 h l1 l2).push { cls := .type "zip", data := .fields #[.none, .bool false, .bool false, .ref (zg2 t1 t2 h l1 l2).objs.size, .ref (zg3 t1 t2 h l1 l2).objs.size] }
theorem new_G (t1 t2 : Bool) (l1 l2 : Addr) (xs ys : Array Value) : Meets (Builtin.«zip.__new__» ⟨[.type "zip", .ref l1, .ref l2], []⟩) (fun _ R s => SqG t1 s.heap l1 xs ∧ SqG t2 s.heap l2 ys ∧ R (.ok (.ret (.ref (zg4 t1 t2 s.heap l1 l2).objs.size))) { s with heap := zg5 t1 t2 s.heap l1 l2 }) :=
  .of_wp fun prog w A R s h => by
    obtain ⟨hp, gg, dd, tk, os⟩ := s
    obtain ⟨q1, q2, h⟩ := h
    have sub := sub_zip
    have q2' := q2.push { cls := .type (itName t1), data := .fields #[.ref l1, .int 0 0] }
    cases t1 <;> cases t2
    · have a1 : Heap.IsList (Shared.heap ⟨hp, gg, dd, tk, os⟩) l1 xs := q1
      have a2 : Heap.IsList (Shared.heap ⟨hp.push { cls := .type "list_iterator", data := .fields #[.ref l1, .int 0 0] }, gg, dd, tk, os⟩) l2 ys := q2'
      wp_walk using wpAny_pyIter_list a1, wpAny_pyIter_list a2
      exact ⟨_, rfl, h⟩
    · have a1 : Heap.IsList (Shared.heap ⟨hp, gg, dd, tk, os⟩) l1 xs := q1
      have a2 : Heap.IsTuple (Shared.heap ⟨hp.push { cls := .type "list_iterator", data := .fields #[.ref l1, .int 0 0] }, gg, dd, tk, os⟩) l2 ys := q2'
      wp_walk using wpAny_pyIter_list a1, wpAny_pyIter_tuple a2
      exact ⟨_, rfl, h⟩
    · have a1 : Heap.IsTuple (Shared.heap ⟨hp, gg, dd, tk, os⟩) l1 xs := q1
      have a2 : Heap.IsList (Shared.heap ⟨hp.push { cls := .type "tuple_iterator", data := .fields #[.ref l1, .int 0 0] }, gg, dd, tk, os⟩) l2 ys := q2'
      wp_walk using wpAny_pyIter_tuple a1, wpAny_pyIter_list a2
      exact ⟨_, rfl, h⟩
    · have a1 : Heap.IsTuple (Shared.heap ⟨hp, gg, dd, tk, os⟩) l1 xs := q1
      have a2 : Heap.IsTuple (Shared.heap ⟨hp.push { cls := .type "tuple_iterator", data := .fields #[.ref l1, .int 0 0] }, gg, dd, tk, os⟩) l2 ys := q2'
      wp_walk using wpAny_pyIter_tuple a1, wpAny_pyIter_tuple a2
      exact ⟨_, rfl, h⟩
theorem itG_new {t : Bool} {h : Heap} {it l : Addr} (e : h.get? it = some { cls := .type (itName t), data := .fields #[.ref l, .int 0 0] }) : ItG t h it l 0 := by
  cases t
  · exact ⟨_, e, rfl, rfl⟩
  · exact ⟨_, e, rfl, rfl⟩
theorem call_zipG {prog : Program} {w : World} {A : Around} {E : Value → Shared → Prop} {s : Shared} {t1 t2 : Bool} {l1 l2 : Addr} {xs ys : Array Value} {Q : Value → Shared → Prop} (q1 : SqG t1 s.heap l1 xs) (q2 : SqG t2 s.heap l2 ys)
    (h : ∀ h', IsZip h' (s.heap.objs.size + 4) (s.heap.objs.size + 2) (s.heap.objs.size + 3) .none → IsPair h' (s.heap.objs.size + 2) (.ref s.heap.objs.size) (.ref (s.heap.objs.size + 1)) → IsPair h' (s.heap.objs.size + 3) .none .none → ItG t1 h' s.heap.objs.size l1 0 → ItG t2 h' (s.heap.objs.size + 1) l2 0 →
      (∀ c o, s.heap.get? c = some o → h'.get? c = some o) → Q (.ref (s.heap.objs.size + 4)) { s with heap := h' }) : wpAny (model prog w) A (call (.type "zip") [.ref l1, .ref l2]) Q E s := by
  refine callType_new F.called_zip (by decide) (F.typeCall_zip_2 _ _) (F.newCall_zip_2 _ _) (fun obj => F.args_object_init_3 obj _ _) F.entry_zip_new (new_G t1 t2 l1 l2 xs ys) ⟨q1, q2, ?_⟩
  have n1 : (zg1 t1 s.heap l1).objs.size = s.heap.objs.size + 1 := Heap.size_push ..
  have n2 : (zg2 t1 t2 s.heap l1 l2).objs.size = s.heap.objs.size + 2 := by rw [Heap.size_push, n1]
  have n3 : (zg3 t1 t2 s.heap l1 l2).objs.size = s.heap.objs.size + 3 := by rw [Heap.size_push, n2]
  have n4 : (zg4 t1 t2 s.heap l1 l2).objs.size = s.heap.objs.size + 4 := by rw [Heap.size_push, n3]
  have p5 : (zg5 t1 t2 s.heap l1 l2).get? (zg4 t1 t2 s.heap l1 l2).objs.size = some _ := Heap.get?_push_size _ rfl
  have p4 : (zg5 t1 t2 s.heap l1 l2).get? (zg3 t1 t2 s.heap l1 l2).objs.size = some _ := Heap.get?_push_of_some _ (Heap.get?_push_size _ rfl)
  have p3 : (zg5 t1 t2 s.heap l1 l2).get? (zg2 t1 t2 s.heap l1 l2).objs.size = some _ := Heap.get?_push_of_some _ (Heap.get?_push_of_some _ (Heap.get?_push_size _ rfl))
  have p2 : (zg5 t1 t2 s.heap l1 l2).get? (zg1 t1 s.heap l1).objs.size = some _ := Heap.get?_push_of_some _ (Heap.get?_push_of_some _ (Heap.get?_push_of_some _ (Heap.get?_push_size _ rfl)))
  have p1 : (zg5 t1 t2 s.heap l1 l2).get? s.heap.objs.size = some _ := Heap.get?_push_of_some _ (Heap.get?_push_of_some _ (Heap.get?_push_of_some _ (Heap.get?_push_of_some _ (Heap.get?_push_size _ rfl))))
  show _ ∧ _
  rw [n2, n3, n4] at p5
  rw [n1, n2] at p3
  rw [n3] at p4
  rw [n1] at p2
  rw [n4]
  exact ⟨⟨_, p5, rfl⟩, h _ p5 p3 p4 (itG_new p1) (itG_new p2) fun c o q => Heap.get?_push_of_some _ (Heap.get?_push_of_some _ (Heap.get?_push_of_some _ (Heap.get?_push_of_some _ (Heap.get?_push_of_some _ q))))⟩
end Fw
end

section
set_option Elab.async false
set_option linter.all false
set_option maxRecDepth 100000
set_option maxHeartbeats 4000000
set_option autoImplicit false
/-! # walking over zip and over range with a step -/
namespace Fw
open PySem PySem.Spec L2 Evl PyProof.Rows
def SqV (t : Bool) (K : PySem.W.Frag) (H : Hp) (a : Addr) (xs : List V) : Prop := match t with
  | true => SqT K H a xs
  | false => SqL K H a xs
theorem ex_v {t : Bool} {K : PySem.W.Frag} {H H' : Hp} {a : Addr} {xs : List V} (e : Ex H H') (h : SqV t K H a xs) : SqV t K H' a xs := by
  cases t
  · exact ex_l e h
  · exact ex_t e h
section
variable {X : Cx} {pins : List (Addr × Obj)} {σ : L2.St} {H : Hp} {s : Shared}
theorem seq_G {t : Bool} {a : Addr} {xs : List V} (I : Inv X pins σ H s) (h : SqV t X.K H a xs) : ∃ its : List Value, Vals xs its ∧ SqG t s.heap a its.toArray := by
  cases t
  · obtain ⟨its, r, p, _⟩ := I.list h
    exact ⟨its, r, p.isList⟩
  · obtain ⟨its, r, p, _⟩ := I.tuple h
    exact ⟨its, r, p⟩
theorem seq_inj {t : Bool} {a : Addr} {xs ys : List V} (I : Inv X pins σ H s) (h : SqV t X.K H a xs) (h' : SqV t X.K H a ys) : xs = ys := by
  cases t
  · exact I.list_inj h h'
  · exact I.tuple_inj h h'
theorem SqG.lt {t : Bool} {h : Heap} {a : Addr} {xs : Array Value} (x : SqG t h a xs) : a < h.objs.size := by
  cases t
  · obtain ⟨_, e, _⟩ := x; exact Heap.lt_size e
  · obtain ⟨_, e, _⟩ := x; exact Heap.lt_size e
end
def ItzG (t1 t2 : Bool) (K : PySem.W.Frag) (a b : Addr) : It :=
  ⟨fun i H => ∃ (xs ys : List V) (x y : V), SqV t1 K H a xs ∧ SqV t2 K H b ys ∧ xs[i]? = some x ∧ ys[i]? = some y,
    fun i H v H' => ∃ T x y, v = .ref T ∧ H T = none ∧ (∃ o : Obj, o.dict = none ∧ H' = upd H T (.frz o (.tup [x, y]))) ∧ (∀ xs, SqV t1 K H a xs → xs[i]? = some x) ∧ ∀ ys, SqV t2 K H b ys → ys[i]? = some y,
    fun i H => ∃ xs ys : List V, SqV t1 K H a xs ∧ SqV t2 K H b ys ∧ (xs.length ≤ i ∨ ys.length ≤ i)⟩
theorem in5 {α : Type} {c z t u v w : α} (h : c ∈ [z, t, u, v, w]) : c = z ∨ c = t ∨ c = u ∨ c = v ∨ c = w := by simpa using h
theorem turn_zipG {P : Program} {w : World} {K : PySem.W.Frag} {elts : List Expr} {kk : Nat} {tpos : Pos} {t1 t2 : Bool} {a b z TI TO i1 i2 : Addr} (Ap : ZipApart z TI TO i1 i2 a b) :
    Turn P w K (.Tuple elts kk tpos) (ItzG t1 t2 K a b) [z, TI, TO, i1, i2] z (fun i h => IsZip h z TI TO .none ∧ IsPair h TI (.ref i1) (.ref i2) ∧ (∃ x y, IsPair h TO x y) ∧ ItG t1 h i1 a i ∧ ItG t2 h i2 b i) where
  mem := by simp
  obj := fun i h ⟨hz, hTI, ⟨x, y, hTO⟩, k1, k2⟩ c hc => by
    rcases in5 hc with rfl | rfl | rfl | rfl | rfl
    · exact ⟨_, hz, fun v q => nomatch q⟩
    · exact ⟨_, hTI, fun v q => nomatch q⟩
    · exact ⟨_, hTO, fun v q => nomatch q⟩
    · exact k1.obj
    · exact k2.obj
  keep := fun i h h' ⟨hz, hTI, ⟨x, y, hTO⟩, k1, k2⟩ st => ⟨st z (by simp) _ hz, st TI (by simp) _ hTI, ⟨x, y, st TO (by simp) _ hTO⟩, k1.at fun o q => st i1 (by simp) o q, k2.at fun o q => st i2 (by simp) o q⟩
  item := by
    intro X hP hw hK hc i pins s σ H E I hf ⟨hz, hTI, ⟨x0, y0, hTO⟩, k1, k2⟩ ⟨xs, ys, x, y, vx, vy, hx, hy⟩
    subst hP hw hK
    obtain ⟨is1, r1, q1⟩ := seq_G I vx
    obtain ⟨is2, r2, q2⟩ := seq_G I vy
    obtain ⟨u, hu, ru⟩ := r1.get hx
    obtain ⟨u2, hu2, ru2⟩ := r2.get hy
    have zlt : z < s.heap.objs.size := Heap.lt_size hz
    have hT : s.TypeIs (.ref z) "zip" := ⟨_, hz, rfl⟩
    unfold pyNext
    refine wpAny_bind (wpAny_attempt (wpAny_callSpecial?_slot (name := Str.ofString "__next__") hT F.slot_zip_next (wpAny_call_entry F.slot_zip_next hT F.entry_zip_next
      (zipG_item Ap hz hTI hTO k1 k2 q1 q2 (x := u) (y := u2) (by simpa using hu) (by simpa using hu2) fun h' z' TO' k1' k2' pT _ st => wpAny_pure ?_) (F.args_zip_next_1 _))))
    refine ⟨_, rfl, wpAny_letOwnedTupleGo_zip (s := { s with heap := h' }) z' fun h'' z'' sb => ?_⟩
    have pT2 : h''.get? s.heap.objs.size = some { cls := .type "tuple", data := .seq #[u, u2] } := (sb.2 _ (Nat.ne_of_gt zlt)).trans pT
    have new : ObjOk X.prog X.w (upd H s.heap.objs.size (.frz ({ cls := .type "tuple", data := .seq #[u, u2] } : Obj) (.tup [x, y]))) h'' s.heap.objs.size (.frz ({ cls := .type "tuple", data := .seq #[u, u2] } : Obj) (.tup [x, y])) :=
      ⟨pT2, by show 2 ≤ sizeLine; decide, [u, u2], .cons ru (.cons ru2 .nil), ⟨_, pT2, rfl, _, rfl⟩⟩
    have I1 : Inv X pins σ (upd H s.heap.objs.size (.frz ({ cls := .type "tuple", data := .seq #[u, u2] } : Obj) (.tup [x, y]))) { s with heap := h'' } :=
      I.turnedNew (t' := s.toks) (ch := [z, TI, TO, i1, i2]) (fun c o n q => (sb.2 c fun e => n (by simp [e])).trans (st c o (fun e => n (by simp [e])) (fun e => n (by simp [e])) (fun e => n (by simp [e])) (fun e => n (by simp [e])) q)) hf (Nat.le_refl _) new
    refine ⟨.ref s.heap.objs.size, _, I1, rfl, ⟨_, x, y, rfl, I.hok.fresh (Nat.le_refl _), ⟨_, rfl, rfl⟩, fun l hl => by rw [seq_inj I hl vx]; exact hx, fun l hl => by rw [seq_inj I hl vy]; exact hy⟩, ⟨z'', ?_, ⟨u, u2, ?_⟩, ?_, ?_⟩, fun c hcm => ?_⟩
    · exact (sb.2 _ Ap.TIz).trans (st _ _ Ap.TIz Ap.TITO Ap.TIi1 Ap.TIi2 hTI)
    · exact (sb.2 _ Ap.TOz).trans TO'
    · exact k1'.at fun o q => (sb.2 _ Ap.i1z).trans q
    · exact k2'.at fun o q => (sb.2 _ Ap.i2z).trans q
    · have lt : c < s.heap.objs.size := by
        rcases in5 hcm with rfl | rfl | rfl | rfl | rfl
        · exact zlt
        · exact Heap.lt_size hTI
        · exact Heap.lt_size hTO
        · obtain ⟨_, e, _⟩ := k1.obj; exact Heap.lt_size e
        · obtain ⟨_, e, _⟩ := k2.obj; exact Heap.lt_size e
      rw [upd_ne (Nat.ne_of_lt lt)]
      exact (hf c hcm).1
  done := by
    intro X hP hw hK hc i pins s σ H E I hf ⟨hz, hTI, ⟨x0, y0, hTO⟩, k1, k2⟩ ⟨xs, ys, vx, vy, hend⟩
    subst hP hw hK
    obtain ⟨is1, r1, q1⟩ := seq_G I vx
    obtain ⟨is2, r2, q2⟩ := seq_G I vy
    have n1 := r1.length
    have n2 := r2.length
    have he : is1.toArray[i]? = none ∨ is2.toArray[i]? = none := hend.elim (fun q => .inl (by simp; omega)) fun q => .inr (by simp; omega)
    have hT : s.TypeIs (.ref z) "zip" := ⟨_, hz, rfl⟩
    unfold pyNext
    refine wpAny_bind (wpAny_attempt (wpAny_callSpecial?_slot (name := Str.ofString "__next__") hT F.slot_zip_next (wpAny_call_entry F.slot_zip_next hT F.entry_zip_next (zipG_end (I.ok.hd hc) Ap hz hTI hTO k1 k2 q1 q2 he fun h' e st ⟨o, ho, hco⟩ => ?_) (F.args_zip_next_1 _))))
    refine wpAny_bind (wpAny_isInstance (T := "StopIteration") (b := true) ⟨o, ho, hco⟩ isSubtype_stop (wpAny_pure ?_))
    exact ⟨rfl, I.turnedL (t' := s.toks) (ch := [z, TI, TO, i1, i2]) (fun c o n q => st c o (fun e => n (by simp [e])) (fun e => n (by simp [e])) (fun e => n (by simp [e])) (fun e => n (by simp [e])) q) hf⟩
  self := fun A i s Q E st h => wpAny_pyIter_zip st.1 h
def iZipG (t1 t2 : Bool) (K : PySem.W.Frag) (ta : TA) : TI := fun σ H R => ta σ H fun vs H1 => ∃ a b xs ys, vs = [.ref a, .ref b] ∧ SqV t1 K H1 a xs ∧ SqV t2 K H1 b ys ∧ R (ItzG t1 t2 K a b) H1
theorem pi_zipG {X : Cx} {t1 t2 : Bool} {e e2 : Expr} {ta : TA} {p pos tpos : Pos} {elts : List Expr} {kk : Nat} (hg : Gl X "zip") (hm : X.mg "zip" = none) (ha : PA X [e, e2] ta) (hs : starEach [e, e2] X.env = (false, eval e X.env) :: starEach [e2] X.env := by rfl) (hpl : (backTo pos (starEach [e2] X.env)).any (·.1) = false := by rfl) :
    PI X (.Tuple elts kk tpos) (.Call (.Name "zip" p) [e, e2] [] pos) (iZipG t1 t2 X.K ta) := by
  refine ⟨fun pins s σ H R I h => ?_⟩
  refine Call_ (ld_blt I hg hm PyProof.Rows.boot_zip (PyProof.Rows.callWith_type1 (thn (ha.run pos pins s σ H _ I h) fun us s1 ⟨vs, H1, I1, r1, q1⟩ => ?_) hs hpl))
  obtain ⟨a, b, xs, ys, rfl, vx, vy, q⟩ := q1
  obtain ⟨is1, _, g1⟩ := seq_G I1 vx
  obtain ⟨is2, _, g2⟩ := seq_G I1 vy
  have fr : ∀ c, c ∈ [s1.heap.objs.size + 4, s1.heap.objs.size + 2, s1.heap.objs.size + 3, s1.heap.objs.size, s1.heap.objs.size + 1] → FpOk X pins H1 c := fun c hc => by
    have le : s1.heap.objs.size ≤ c := by
      rcases in5 hc with z | z | z | z | z
      · rw [z]; exact Nat.le_add_right _ _
      · rw [z]; exact Nat.le_add_right _ _
      · rw [z]; exact Nat.le_add_right _ _
      · rw [z]; exact Nat.le_refl _
      · rw [z]; exact Nat.le_add_right _ _
    exact I1.fpOk le (I1.hok.fresh le)
  cases r1 with
  | cons r rr =>
    cases rr with
    | cons r' rr =>
      cases rr
      cases r
      cases r'
      refine call_zipG g1 g2 fun h' hz hTI hTO k1 k2 st => wpAny_pyIter_zip hz ?_
      have I2 : Inv X pins σ H1 { s1 with heap := h' } := I1.kept (t' := s1.toks) st
      exact ⟨s1.heap.objs.size + 4, [s1.heap.objs.size + 4, s1.heap.objs.size + 2, s1.heap.objs.size + 3, s1.heap.objs.size, s1.heap.objs.size + 1], _, _, H1, rfl, I2, turn_zipG (PySem.W.ktu_apart s1.heap.objs.size a b g1.lt g2.lt), ⟨hz, hTI, ⟨_, _, hTO⟩, k1, k2⟩, fr, q⟩
section
variable {T : Tx} {G : Hp}
def zipD : List D → List D → List D
  | x :: xs, y :: ys => .tup [x, y] :: zipD xs ys
  | _, _ => []
theorem zipD_get : ∀ (xs ys : List D) (i : Nat) (d : D), (zipD xs ys)[i]? = some d → ∃ x y, xs[i]? = some x ∧ ys[i]? = some y ∧ d = .tup [x, y]
  | [], _, i, d, h => by simp [zipD] at h
  | _ :: _, [], i, d, h => by simp [zipD] at h
  | x :: xs, y :: ys, 0, d, h => by simp [zipD] at h; exact ⟨x, y, rfl, rfl, h.symm⟩
  | x :: xs, y :: ys, i + 1, d, h => by
    simp only [zipD, List.getElem?_cons_succ] at h
    obtain ⟨a, b, h1, h2, h3⟩ := zipD_get xs ys i d h
    exact ⟨a, b, by simpa using h1, by simpa using h2, h3⟩
theorem zipD_len : ∀ xs ys : List D, (zipD xs ys).length = min xs.length ys.length
  | [], _ => by simp [zipD]
  | _ :: _, [] => by simp [zipD]
  | x :: xs, y :: ys => by simp only [zipD, List.length_cons, zipD_len xs ys]; omega
theorem pair_of {G1 H : Hp} {d d' : D} {x x' : V} {t : Addr} {o : Obj} (ho : o.dict = none) (e : Ex G1 H) (ht : H t = none) (r : Rep T G1 d x) (r' : Rep T G1 d' x') : ∃ G2, Grow T G1 H G2 (upd H t (.frz o (.tup [x, x']))) ∧ Rep T G2 (.tup [d, d']) (.ref t) := by
  have g1 : G1 t = none := fresh_back e ht
  exact ⟨upd G1 t (.frz o (.tup [x, x'])), Grow.new e ht, rep_tup ho (Ex.new g1) ⟨_, _, rfl, r, _, _, rfl, r', rfl⟩⟩
theorem yields_zip {t1 t2 : Bool} {a b : Addr} {xs ys : List V} {ds es : List D} (h1 : SqV t1 T.K G a xs) (h2 : SqV t2 T.K G b ys) (r1 : RepL T G ds xs) (r2 : RepL T G es ys) : Yields T G (ItzG t1 t2 T.K a b) (zipD ds es) := by
  refine ⟨fun i H e hi => ?_, fun i d G1 H x H' e1 e2 hd hy => ?_, fun i H e hi => ?_⟩
  · rw [zipD_len, ← r1.length, ← r2.length] at hi
    have i1 : i < xs.length := by omega
    have i2 : i < ys.length := by omega
    exact ⟨xs, ys, xs[i], ys[i], ex_v e h1, ex_v e h2, by simp [i1], by simp [i2]⟩
  · obtain ⟨t, x1, y1, rfl, ht, ⟨o, ho, rfl⟩, hx, hy⟩ := hy
    obtain ⟨d1, d2, g1, g2, rfl⟩ := zipD_get _ _ _ _ hd
    obtain ⟨v1, a1, b1⟩ := r1.get g1
    obtain ⟨v2, a2, b2⟩ := r2.get g2
    have q1 := hx xs (ex_v (e1.trans e2) h1)
    have q2 := hy ys (ex_v (e1.trans e2) h2)
    rw [a1] at q1
    rw [a2] at q2
    cases q1
    cases q2
    exact pair_of ho e2 ht (b1.mono e1) (b2.mono e1)
  · rw [zipD_len, ← r1.length, ← r2.length] at hi
    exact ⟨xs, ys, ex_v e h1, ex_v e h2, by omega⟩
end
/-- lists and tuples -/
def seqOf : D → Option (List D)
  | .lst ds => some ds
  | .tup ds => some ds
  | _ => none
def zipM (ms : MM (List D)) : MM (List D) := fun β => (ms β).bind fun p => match p.1 with
  | [a, b] => match seqOf a, seqOf b with
    | some xs, some ys => .ok (zipD xs ys, p.2)
    | _, _ => .bad
  | _ => .bad
def isTup : D → Bool
  | .tup _ => true
  | _ => false
theorem seq_rep {T : Tx} {G : Hp} {d : D} {v : V} {ds : List D} (h : seqOf d = some ds) (r : Rep T G d v) : ∃ a xs, v = .ref a ∧ SqV (isTup d) T.K G a xs ∧ RepL T G ds xs := by
  cases d with
  | lst es =>
    cases h
    obtain ⟨a, xs, rfl, ha, rl⟩ := r
    exact ⟨a, xs, rfl, .inl (.inl ha), rl⟩
  | tup es =>
    cases h
    obtain ⟨a, xs, rfl, ha, rl⟩ := r
    exact ⟨a, xs, rfl, ha.sq, rl⟩
  | _ => cases h
section
variable {X : Cx} {T : Tx} {W : WishX} {e e2 : Expr} {ms : MM (List D)} {p pos tpos : Pos} {elts : List Expr} {kk : Nat}
theorem mi_zip (hK : X.K = T.K) (hg : Gl X "zip") (hm : X.mg "zip" = none) (ha : MA X T W [e, e2] ms) (hs : starEach [e, e2] X.env = (false, eval e X.env) :: starEach [e2] X.env := by rfl) (hpl : (backTo pos (starEach [e2] X.env)).any (·.1) = false := by rfl) :
    MI X T W (.Tuple elts kk tpos) (.Call (.Name "zip" p) [e, e2] [] pos) (zipM ms) := by
  refine mi_by fun β => ?_
  cases h1 : ms β with
  | ok q =>
    obtain ⟨ds, β1⟩ := q
    match ds, h1 with
    | [a, b], h1 =>
      cases ha' : seqOf a with
      | none => exact ⟨_, pi_zipG (t1 := true) (t2 := true) hg hm ha hs hpl, fun A F G σ H R si po => by unfold zipM at po; rw [h1] at po; dsimp only [Res.bind_ok] at po; rw [ha'] at po; exact po.elim⟩
      | some xs =>
        cases hb' : seqOf b with
        | none => exact ⟨_, pi_zipG (t1 := true) (t2 := true) hg hm ha hs hpl, fun A F G σ H R si po => by unfold zipM at po; rw [h1] at po; dsimp only [Res.bind_ok] at po; rw [ha', hb'] at po; exact po.elim⟩
        | some ys =>
          refine ⟨_, pi_zipG (t1 := isTup a) (t2 := isTup b) hg hm ha hs hpl, fun A F G σ H R si po => ⟨A, F, G, β, si, ?_⟩⟩
          unfold zipM at po
          rw [h1] at po ⊢
          dsimp only [Res.bind_ok] at po
          rw [ha', hb'] at po
          intro vs G1 H1 e1 s1 r1
          obtain ⟨v1, t1, rfl, ra, v2, t2, rfl, rb, rn⟩ := r1
          obtain rfl : t2 = [] := rn
          obtain ⟨l1, ws1, rfl, q1, rl1⟩ := seq_rep ha' ra
          obtain ⟨l2, ws2, rfl, q2, rl2⟩ := seq_rep hb' rb
          rw [hK]
          exact ⟨l1, l2, ws1, ws2, rfl, ex_v s1.gh q1, ex_v s1.gh q2, po _ G1 H1 e1 s1 (yields_zip q1 q2 rl1 rl2)⟩
    | [], h1 => exact ⟨_, pi_zipG (t1 := true) (t2 := true) hg hm ha hs hpl, fun A F G σ H R si po => by unfold zipM at po; rw [h1] at po; exact po.elim⟩
    | [a], h1 => exact ⟨_, pi_zipG (t1 := true) (t2 := true) hg hm ha hs hpl, fun A F G σ H R si po => by unfold zipM at po; rw [h1] at po; exact po.elim⟩
    | _ :: _ :: _ :: _, h1 => exact ⟨_, pi_zipG (t1 := true) (t2 := true) hg hm ha hs hpl, fun A F G σ H R si po => by unfold zipM at po; rw [h1] at po; exact po.elim⟩
  | exc c fs =>
    refine ⟨_, pi_zipG (t1 := true) (t2 := true) hg hm ha hs hpl, fun A F G σ H R si po => ⟨A, F, G, β, si, ?_⟩⟩
    unfold zipM at po
    rw [h1] at po ⊢
    exact po
  | bad => exact ⟨_, pi_zipG (t1 := true) (t2 := true) hg hm ha hs hpl, fun A F G σ H R si po => by unfold zipM at po; rw [h1] at po; exact po.elim⟩
/-! ### range(i, j, -1) -/
def downD (i : Int) (n : Nat) : List D := (List.range n).map fun k => .int (i - ((k : Nat) : Int))
def rngF3 : List D → Res (List D)
  | [.int i, .int j, .int c] => if c = -1 ∧ -1000000 ≤ i ∧ i ≤ 1000000 ∧ -1000000 ≤ j ∧ j ≤ 1000000 then .ok (downD i (i - j).toNat) else .bad
  | _ => .bad
theorem yields_down {G : Hp} {i : Int} {n : Nat} : Yields T G (Itc i (-1) n) (downD i n) := by
  refine ⟨fun k H e hk => by show k < n; simpa [downD] using hk, fun k d G1 H x H' e1 e2 hd hy => ?_, fun k H e hk => by show n ≤ k; simpa [downD] using hk⟩
  obtain ⟨rfl, rfl⟩ := hy
  unfold downD at hd
  rw [List.getElem?_map] at hd
  cases hq : (List.range n)[k]? with
  | none => rw [hq] at hd; cases hd
  | some j =>
    rw [hq] at hd
    cases hd
    have ej : j = k := by
      obtain ⟨h, rfl⟩ := List.getElem?_eq_some_iff.mp hq
      simp
    subst ej
    refine ⟨G1, Grow.refl e2, ?_⟩
    show V.int _ = V.int _
    congr 1
    omega
theorem mi_rng3 {a b c tg : Expr} (hg : Gl X "range") (hm : X.mg "range" = none) (ha : MA X T W [a, b, c] ms) (hs : starEach [a, b, c] X.env = (false, eval a X.env) :: starEach [b, c] X.env := by rfl) (hpl : (backTo pos (starEach [b, c] X.env)).any (·.1) = false := by rfl) : MI X T W tg (.Call (.Name "range" p) [a, b, c] [] pos) (itM rngF3 ms) := by
  refine ⟨fun pins s σ H R I ⟨A, F, G, β, si, po⟩ => ?_⟩
  refine (pi_range3 hg hm ha hs hpl).run pins s σ H R I ⟨A, F, G, β, si, PostI.bindA po fun ds β1 v G1 H1 e1 s1 r1 p1 => ?_⟩
  dsimp only at p1
  unfold rngF3 at p1
  split at p1
  · rename_i i j c
    obtain ⟨w, r, rfl, rw', w2, r2, rfl, rw2, w3, r3, rfl, rw3, rn⟩ := r1
    obtain rfl : r3 = [] := rn
    obtain rfl : w = .int i := rw'
    obtain rfl : w2 = .int j := rw2
    obtain rfl : w3 = .int c := rw3
    split at p1
    · rename_i hj
      obtain ⟨rfl, h1, h2, h3, h4⟩ := hj
      exact ⟨i, j, -1, (i - j).toNat, rfl, RgC.neg (by omega) (by omega) (by omega) (by omega), p1 _ G1 H1 (Ex.refl _) s1 yields_down⟩
    · exact p1.elim
  · exact p1.elim
end
end Fw
end

section
set_option Elab.async false
set_option linter.all false
set_option maxRecDepth 100000
set_option maxHeartbeats 4000000
set_option autoImplicit false
/-! # < of lists and of tuples of integers -/
namespace Fw
open PySem PySem.Spec L2 Evl
def lexI : List Int → List Int → Bool
  | _, [] => false
  | [], _ :: _ => true
  | x :: xs, y :: ys => if x = y then lexI xs ys else decide (x < y)
theorem lexI_eq : ∀ ns ms : List Int, PyProof.Rows.lexLt PyProof.Rows.itemOrd (PySem.W.keyToksAll (ns.map PyData.int)) (PySem.W.keyToksAll (ms.map PyData.int)) = lexI ns ms
  | [], [] => by
    simp only [List.map_nil, PySem.W.keyToksAll]
    rw [PySem.W.lex_one]
    rfl
  | [], m :: ms => by
    simp only [List.map_nil, List.map_cons, PySem.W.keyToksAll]
    rw [PySem.W.lex_atom (by decide), PySem.W.lex_one]
    rfl
  | n :: ns, [] => by
    simp only [List.map_nil, List.map_cons, PySem.W.keyToksAll]
    rw [PySem.W.lex_atom (by decide), PySem.W.lex_one]
    rfl
  | n :: ns, m :: ms => by
    rw [List.map_cons, List.map_cons]
    have al : PySem.W.alike (.int n) (.int m) = true := by simp [PySem.W.alike]
    by_cases e : n = m
    · rw [PySem.W.dataLt_all_yes al (by subst e; simp [PyData.eqv]), lexI_eq ns ms, lexI, if_pos e]
    · rw [PySem.W.dataLt_all_no al (by simp [PyData.eqv, e]), PySem.W.dataLt_int, lexI, if_neg e]
theorem alike_ints : ∀ ns ms : List Int, PySem.W.alikeAll (ns.map PyData.int) (ms.map PyData.int) = true
  | [], _ => by simp [PySem.W.alikeAll]
  | _ :: _, [] => by simp [PySem.W.alikeAll]
  | n :: ns, m :: ms => by simp [PySem.W.alikeAll, PySem.W.alike, alike_ints ns ms]
theorem depth_ints : ∀ ns : List Int, PyData.depthAll (ns.map PyData.int) ≤ 1
  | [] => by simp [PyData.depthAll]
  | n :: ns => by
    have := depth_ints ns
    simp only [List.map_cons, PyData.depthAll, PyData.depth]
    omega
theorem dp_ints {K : PySem.W.Frag} {H : Hp} : ∀ ns : List Int, DpAll K H (ns.map V.int) (ns.map PyData.int)
  | [] => .nil
  | n :: ns => .cons (.int n) (dp_ints ns)
def rLtD (K : PySem.W.Frag) : R2 := fun x y H Q => ∃ (t : Bool) (a b : Addr) (ns ms : List Int), x = .ref a ∧ y = .ref b ∧ SqV t K H a (ns.map V.int) ∧ SqV t K H b (ms.map V.int) ∧ Q (.bl (lexI ns ms)) H
theorem op_ltL {X : Cx} (hu : X.A.units + 64 < cLine) : OpR X (compareOp .Lt) (rLtD X.K) := by
  intro pins s σ H x y v u Q I rx ry h
  obtain ⟨t, a, b, ns, ms, rfl, rfl, ha, hb, q⟩ := h
  cases rx
  cases ry
  cases t
  · obtain ⟨as, r1⟩ := Dp.reads I _ _ _ (.lst ha (dp_ints ns)) (show RelV (.ref a) (.ref a) from rfl)
    obtain ⟨bs, r2⟩ := Dp.reads I _ _ _ (.lst hb (dp_ints ms)) (show RelV (.ref b) (.ref b) from rfl)
    refine PySem.W.lt_data r1 r2 (by simp only [PySem.W.alike]; exact alike_ints ns ms) (fun z => nomatch z) ?_ ?_
    · have := depth_ints ns
      simp only [PyData.depth]
      omega
    · rw [PySem.W.dataLt_list, lexI_eq]
      exact ⟨.bl _, H, I, rfl, q⟩
  · obtain ⟨as, r1⟩ := Dp.reads I _ _ _ (.tup ha (dp_ints ns)) (show RelV (.ref a) (.ref a) from rfl)
    obtain ⟨bs, r2⟩ := Dp.reads I _ _ _ (.tup hb (dp_ints ms)) (show RelV (.ref b) (.ref b) from rfl)
    refine PySem.W.lt_data r1 r2 (by simp only [PySem.W.alike]; exact alike_ints ns ms) (fun z => nomatch z) ?_ ?_
    · have := depth_ints ns
      simp only [PyData.depth]
      omega
    · rw [PySem.W.dataLt_tuple, lexI_eq]
      exact ⟨.bl _, H, I, rfl, q⟩
def ltL (a b : D) : Res D := match a, b with
  | .tup xs, .tup ys => match numsD xs, numsD ys with
    | some ns, some ms => .ok (.bl (lexI ns ms))
    | _, _ => .bad
  | .lst xs, .lst ys => match numsD xs, numsD ys with
    | some ns, some ms => .ok (.bl (lexI ns ms))
    | _, _ => .bad
  | _, _ => .bad
theorem p_ltL {T : Tx} : Prim2 T (rLtD T.K) ltL := by
  intro G H x y a b Q e ra rb h
  unfold ltL at h
  split at h
  · rename_i xs ys
    obtain ⟨l, vs, rfl, h1, r1⟩ := ra
    obtain ⟨l2, ws, rfl, h2, r2⟩ := rb
    split at h
    · rename_i ns ms e1 e2
      have q1 := numsD_rep r1 e1
      have q2 := numsD_rep r2 e2
      subst q1 q2
      exact ⟨true, l, l2, ns, ms, rfl, rfl, (h1.mono e).sq, (h2.mono e).sq, h _ G H (Grow.refl e) rfl⟩
    · exact h.elim
  · rename_i xs ys
    obtain ⟨l, vs, rfl, h1, r1⟩ := ra
    obtain ⟨l2, ws, rfl, h2, r2⟩ := rb
    split at h
    · rename_i ns ms e1 e2
      have q1 := numsD_rep r1 e1
      have q2 := numsD_rep r2 e2
      subst q1 q2
      exact ⟨false, l, l2, ns, ms, rfl, rfl, .inl (.inl (e _ _ h1)), .inl (.inl (e _ _ h2)), h _ G H (Grow.refl e) rfl⟩
    · exact h.elim
  · exact h.elim
section
variable {X : Cx} {T : Tx} {W : WishX} {a b : Expr} {m1 m2 : MM D} {pos : Pos} {k : Nat}
theorem me_ltL (hK : X.K = T.K) (hr : Rm k X.A) (ha : ME X T W a m1) (hb : ME X T W b m2) : ME X T W (.Compare a [.Lt] [b] pos) (opM ltL m1 m2) := me_cmp (op_ltL (by have := hr.r.un; omega)) (hK ▸ p_ltL) ha hb (nomark _)
theorem mt_ltL (hK : X.K = T.K) (hr : Rm k X.A) (ha : ME X T W a m1) (hb : ME X T W b m2) : MT X T W (.Compare a [.Lt] [b] pos) (truthM (opM ltL m1 m2)) := mt_cmp (op_ltL (by have := hr.r.un; omega)) (hK ▸ p_ltL) ha hb (nomark _)
end
end Fw
end

section
set_option Elab.async false
set_option linter.all false
set_option maxRecDepth 100000
set_option maxHeartbeats 4000000
set_option autoImplicit false
/-! # how mirrors run: big steps -/
namespace Fw
open PySem
section
variable {β β1 β2 β3 : En} {d a b : D} {i : Nat} {m m1 m2 m3 : MM D} {ms : MM (List D)} {k1 k2 : MM Fl} {c c1 c2 : MM Bool} {ds as : List D} {r : Res (Fl × En)}
theorem e_name (h : β[i]? = some (some (.im d))) : nameM i β = .ok (d, β) := by unfold nameM; rw [h]
theorem e_op {f : D → D → Res D} (h1 : m1 β = .ok (a, β1)) (h2 : m2 β1 = .ok (b, β2)) (h : f a b = .ok d) : opM f m1 m2 β = .ok (d, β2) := by unfold opM; rw [h1]; dsimp only [Res.bind_ok]; rw [h2]; dsimp only [Res.bind_ok]; rw [h]; rfl
theorem e_un {f : D → Res D} (h1 : m β = .ok (a, β1)) (h : f a = .ok d) : unM f m β = .ok (d, β1) := by unfold unM; rw [h1]; dsimp only [Res.bind_ok]; rw [h]; rfl
theorem e_ap {f : List D → Res D} (h1 : ms β = .ok (as, β1)) (h : f as = .ok d) : apM f ms β = .ok (d, β1) := by unfold apM; rw [h1]; dsimp only [Res.bind_ok]; rw [h]; rfl
theorem e_cons (h1 : m β = .ok (a, β1)) (h2 : ms β1 = .ok (as, β2)) : consM m ms β = .ok (a :: as, β2) := by unfold consM; rw [h1]; dsimp only [Res.bind_ok]; rw [h2]; rfl
theorem e_one (h1 : m β = .ok (a, β1)) : consM m nilM β = .ok ([a], β1) := e_cons h1 rfl
theorem e_call {f : List D → Res D} (h1 : ms β = .ok (as, β1)) (h : f as = .ok d) : callM f ms β = .ok (d, β1) := by unfold callM; rw [h1]; dsimp only [Res.bind_ok]; rw [h]; rfl
theorem x_call {f : List D → Res D} {c : Str} {fs : List (Str × D)} (h1 : ms β = .ok (as, β1)) (h : f as = .exc c fs) : callM f ms β = .exc c fs := by unfold callM; rw [h1]; dsimp only [Res.bind_ok]; rw [h]; rfl
theorem e_callR {f : List D → Res (List D)} (h1 : ms β = .ok (as, β1)) (h : f as = .ok ds) : callR f ms β = .ok (ds, β1) := by unfold callR; rw [h1]; dsimp only [Res.bind_ok]; rw [h]; rfl
/-- a call that changes a list of one's own in slot i -/
theorem e_callO {f : B → List D → Res (D × B)} {q q' : Bool} {l l' : List D} (hi : ∃ x, β[i]? = some (some x)) (h1 : ms β = .ok (as, β1)) (hb : β1[i]? = some (some (.ol q l))) (h : f (.ol q l) as = .ok (d, .ol q' l')) : callO f i ms β = .ok (d, β1.set i (some (.ol q l'))) := by
  obtain ⟨x, hx⟩ := hi
  unfold callO; rw [hx]; dsimp only; rw [h1]; dsimp only [Res.bind_ok]; rw [hb]; dsimp only; rw [if_pos (show (B.ol q l).own = true from rfl), h]; rfl
theorem e_callFr {f : B → List D → Res (D × B)} {mf : MM (List D)} {b' : B} (h1 : mf β = .ok (ds, β1)) (h : f (.ol false ds) [] = .ok (d, b')) : callFr f mf β = .ok (d, β1) := by unfold callFr; rw [h1]; dsimp only [Res.bind_ok]; rw [h]; rfl
theorem e_truth {k : Bool} (h : m β = .ok (.bl k, β1)) : truthM m β = .ok (k, β1) := by unfold truthM; rw [h]; rfl
theorem e_notT {k : Bool} (h : c β = .ok (k, β1)) : notT c β = .ok (!k, β1) := by unfold notT; rw [h]; rfl
theorem e_notM {k : Bool} (h : m β = .ok (.bl k, β1)) : notM m β = .ok (.bl (!k), β1) := by unfold notM; rw [h]; rfl
theorem e_orT_t (h : c1 β = .ok (true, β1)) : orT c1 c2 β = .ok (true, β1) := by unfold orT; rw [h]; rfl
theorem e_orT_f {r : Res (Bool × En)} (h : c1 β = .ok (false, β1)) (h2 : c2 β1 = r) : orT c1 c2 β = r := by unfold orT; rw [h]; exact h2
theorem e_andT_f (h : c1 β = .ok (false, β1)) : andT c1 c2 β = .ok (false, β1) := by unfold andT; rw [h]; rfl
theorem e_andT_t {r : Res (Bool × En)} (h : c1 β = .ok (true, β1)) (h2 : c2 β1 = r) : andT c1 c2 β = r := by unfold andT; rw [h]; exact h2
theorem e_andM_f (h : m1 β = .ok (.bl false, β1)) : andM m1 m2 β = .ok (.bl false, β1) := by unfold andM; rw [h]; rfl
theorem e_andM_t {r : Res (D × En)} (h : m1 β = .ok (.bl true, β1)) (h2 : m2 β1 = r) : andM m1 m2 β = r := by unfold andM; rw [h]; exact h2
theorem e_orM_t (h : m1 β = .ok (.bl true, β1)) : orM m1 m2 β = .ok (.bl true, β1) := by unfold orM; rw [h]; rfl
theorem e_orM_f {r : Res (D × En)} (h : m1 β = .ok (.bl false, β1)) (h2 : m2 β1 = r) : orM m1 m2 β = r := by unfold orM; rw [h]; exact h2
/-- both parts leave all as it was -/
theorem e_or2 {k l : Bool} (h : m1 β = .ok (.bl k, β)) (h2 : m2 β = .ok (.bl l, β)) : orM m1 m2 β = .ok (.bl (k || l), β) := by
  cases k
  · exact e_orM_f h h2
  · exact e_orM_t h
theorem e_or2T {k l : Bool} (h : c1 β = .ok (k, β)) (h2 : k = false → c2 β = .ok (l, β)) : orT c1 c2 β = .ok (k || l, β) := by
  cases k
  · exact e_orT_f h (h2 rfl)
  · exact e_orT_t h
theorem e_and2 {k l : Bool} (h : m1 β = .ok (.bl k, β)) (h2 : k = true → m2 β = .ok (.bl l, β)) : andM m1 m2 β = .ok (.bl (k && l), β) := by
  cases k
  · exact e_andM_f h
  · exact e_andM_t h (h2 rfl)
theorem e_ite_t {r : Res (D × En)} (h : c β = .ok (true, β1)) (h2 : m1 β1 = r) : iteM c m1 m2 β = r := by unfold iteM; rw [h]; exact h2
theorem e_ite_f {r : Res (D × En)} (h : c β = .ok (false, β1)) (h2 : m2 β1 = r) : iteM c m1 m2 β = r := by unfold iteM; rw [h]; exact h2
theorem e_flat (h : m (exposeB β) = .ok (d, β1)) (hf : d.flat = true) : flatM m β = .ok (d, β) := by unfold flatM; rw [h]; dsimp only [Res.bindB]; rw [if_pos hf]
theorem e_flatT {k : Bool} (h : c (exposeB β) = .ok (k, β1)) : flatT c β = .ok (k, β) := by unfold flatT; rw [h]; rfl
theorem e_bm {t : String} {f : D → List D → Res D} (h1 : m β = .ok (a, β1)) (ht : tyD a t = true) (h2 : ms β1 = .ok (as, β2)) (h : f a as = .ok d) : bmM t f m ms β = .ok (d, β2) := by
  unfold bmM; rw [h1]; dsimp only [Res.bind_ok]; rw [if_pos ht, h2]; dsimp only [Res.bind_ok]; rw [h]; rfl
theorem tyD_str {x : Str} : tyD (.str x) "str" = true := by kernel_rfl
/-! statements -/
theorem s_nx (h1 : k1 β = .ok (.nx, β1)) (h2 : k2 β1 = r) : seqM k1 k2 β = r := by unfold seqM; rw [h1]; exact h2
theorem s_rt (h1 : k1 β = .ok (.rt d, β1)) : seqM k1 k2 β = .ok (.rt d, β1) := by unfold seqM; rw [h1]; rfl
theorem s_ex {c : Str} {fs : List (Str × D)} (h1 : k1 β = .exc c fs) : seqM k1 k2 β = .exc c fs := by unfold seqM; rw [h1]; rfl
theorem s_if_t (h : c β = .ok (true, β1)) (h2 : k1 β1 = r) : ifM c k1 k2 β = r := by unfold ifM; rw [h]; exact h2
theorem s_if_f (h : c β = .ok (false, β1)) (h2 : k2 β1 = r) : ifM c k1 k2 β = r := by unfold ifM; rw [h]; exact h2
theorem s_set (h : m β = .ok (d, β1)) (hs : setB i (.im d) β1 = .ok β2) : setM i m β = .ok (.nx, β2) := by unfold setM; rw [h]; dsimp only [Res.bind_ok]; rw [hs]; rfl
theorem x_set {c : Str} {fs : List (Str × D)} (h : m β = .exc c fs) : setM i m β = .exc c fs := by unfold setM; rw [h]; rfl
theorem s_ret (h : m β = .ok (d, β1)) : retM m β = .ok (.rt d, β1) := by unfold retM; rw [h]; rfl
theorem x_ret {c : Str} {fs : List (Str × D)} (h : m β = .exc c fs) : retM m β = .exc c fs := by unfold retM; rw [h]; rfl
theorem s_raise {c f : Str} (h : m β = .ok (d, β1)) : raiseM c f m β = .exc c [(f, d)] := by unfold raiseM; rw [h]; rfl
theorem s_own {mf : MM (List D)} (h : mf β = .ok (ds, β1)) (hs : setB i (.ol false ds) β1 = .ok β2) : ownM i mf β = .ok (.nx, β2) := by unfold ownM; rw [h]; dsimp only [Res.bind_ok]; rw [hs]; rfl
theorem s_app {q : Bool} {l : List D} (hi : ∃ (x1 : Bool) (x2 : List D), β[i]? = some (some (.ol x1 x2))) (h : m β = .ok (d, β1)) (hb : β1[i]? = some (some (.ol q l))) (hl : lenOk l.length = true) : appM i m β = .ok (.nx, β1.set i (some (.ol q (l ++ [d])))) := by
  obtain ⟨x1, x2, hx⟩ := hi
  unfold appM
  rw [hx]
  dsimp only
  rw [h]
  dsimp only [Res.bind_ok]
  rw [hb]
  dsimp only
  rw [if_pos hl]
theorem s_setL {mj : MM D} {q q0 : Bool} {l l0 : List D} {n : Int} {k : Nat} (h : m β = .ok (d, β1)) (hb0 : β1[i]? = some (some (.ol q0 l0))) (hj : mj β1 = .ok (.int n, β2)) (hb : β2[i]? = some (some (.ol q l))) (hk : L2.ixN l.length n = some k) : setLM i m mj β = .ok (.nx, β2.set i (some (.ol q (l.set k d)))) := by
  unfold setLM
  rw [h]
  dsimp only [Res.bind_ok]
  rw [hb0]
  dsimp only
  rw [hj]
  dsimp only [Res.bind_ok]
  rw [hb]
  dsimp only
  rw [hk]
theorem s_frz (h : k1 (frzB i β) = r) : frzM i k1 β = r := h
theorem s_asg {g : GM} (h : m β = .ok (d, β1)) (hg : g d β1 = .ok β2) : asgM m g β = .ok (.nx, β2) := by unfold asgM; rw [h]; dsimp only [Res.bind_ok]; rw [hg]; rfl
/-! defs -/
theorem e_runF {n : Nat} (h : k1 (env0 n ds) = .ok (.rt d, β)) : runF k1 n ds = .ok d := by unfold runF; rw [h]; rfl
theorem x_runF {n : Nat} {c : Str} {fs : List (Str × D)} (h : k1 (env0 n ds) = .exc c fs) : runF k1 n ds = .exc c fs := by unfold runF; rw [h]; rfl
theorem e_runM {n : Nat} {bb bo : B} (h : k1 (envM n bb ds) = .ok (.rt d, β)) (h0 : β[0]? = some (some bo)) (hp : bo.pin = true) : runM k1 n bb ds = .ok (d, bo) := by
  unfold runM
  rw [h]
  dsimp only [Res.bind_ok]
  rw [h0]
  unfold pinOut
  dsimp only
  rw [if_pos hp]
theorem e_runMn {n : Nat} {bb bo : B} (h : k1 (envM n bb ds) = .ok (.nx, β)) (h0 : β[0]? = some (some bo)) (hp : bo.pin = true) : runM k1 n bb ds = .ok (.non, bo) := by
  unfold runM
  rw [h]
  dsimp only [Res.bind_ok]
  rw [h0]
  unfold pinOut
  dsimp only
  rw [if_pos hp]
theorem x_runM {n : Nat} {bb : B} {c : Str} {fs : List (Str × D)} (h : k1 (envM n bb ds) = .exc c fs) : runM k1 n bb ds = .exc c fs := by unfold runM; rw [h]; rfl
/-! primitives -/
theorem modD_ok {i j : Int} (h : 0 < j) : modD (.int i) (.int j) = .ok (.int (i % j)) := by unfold modD iOp; dsimp only; rw [if_pos (decide_eq_true h)]
theorem fdivD_ok {i j : Int} (h : 0 < j) (h2 : j < 2 ^ 200) : fdivD (.int i) (.int j) = .ok (.int (i / j)) := by unfold fdivD iOp; dsimp only; rw [if_pos (by rw [decide_eq_true h, decide_eq_true h2]; rfl)]
theorem mulD_l {i j : Int} (h : -(2 ^ 64) < i) (h2 : i < 2 ^ 64) : mulD (.int i) (.int j) = .ok (.int (i * j)) := by
  show mulI (.int i) (.int j) = _
  unfold mulI iOp
  dsimp only
  rw [if_pos (by unfold mulS; rw [decide_eq_true h, decide_eq_true h2]; rfl)]
theorem mulD_r {i j : Int} (h : -(2 ^ 64) < j) (h2 : j < 2 ^ 64) : mulD (.int i) (.int j) = .ok (.int (i * j)) := by
  show mulI (.int i) (.int j) = _
  unfold mulI iOp
  dsimp only
  rw [if_pos (by unfold mulS; rw [decide_eq_true h, decide_eq_true h2, Bool.and_true, Bool.or_true])]
theorem addD_int {i j : Int} : addD (.int i) (.int j) = .ok (.int (i + j)) := rfl
/-! loops -/
theorem s_for {mi : MM (List D)} {g : GM} (h : mi β = .ok (ds, β1)) (h2 : forM g k1 ds β1 = r) : forSt mi g k1 β = r := by unfold forSt; rw [h]; exact h2
theorem f_cons {g : GM} (hg : g d β = .ok β1) (hb : k1 β1 = .ok (.nx, β2)) (h : forM g k1 ds β2 = r) : forM g k1 (d :: ds) β = r := by
  show ((g d β).bindB fun β1 => (k1 β1).bind fun p => match p.1 with
    | .nx => forM g k1 ds p.2
    | .ct => forM g k1 ds p.2
    | .bk => .ok (.nx, p.2)
    | f => .ok (f, p.2)) = r
  rw [hg]
  dsimp only [Res.bindB]
  rw [hb]
  exact h
theorem f_exc {g : GM} {c : Str} {fs : List (Str × D)} (hg : g d β = .ok β1) (hb : k1 β1 = .exc c fs) : forM g k1 (d :: ds) β = .exc c fs := by
  show ((g d β).bindB fun β1 => (k1 β1).bind fun p => match p.1 with
    | .nx => forM g k1 ds p.2
    | .ct => forM g k1 ds p.2
    | .bk => .ok (.nx, p.2)
    | f => .ok (f, p.2)) = .exc c fs
  rw [hg]
  dsimp only [Res.bindB]
  rw [hb]
  rfl
/-- an invariant over the items still to come -/
theorem f_inv {g : GM} (I : List D → En → Prop) (step : ∀ d ds β, I (d :: ds) β → ∃ β1 β2, g d β = .ok β1 ∧ k1 β1 = .ok (.nx, β2) ∧ I ds β2) : ∀ (ds : List D) (β : En), I ds β → ∃ β', forM g k1 ds β = .ok (.nx, β') ∧ I [] β'
  | [], β, h => ⟨β, rfl, h⟩
  | d :: ds, β, h => by
    obtain ⟨β1, β2, h1, h2, h3⟩ := step d ds β h
    obtain ⟨β', h4, h5⟩ := f_inv I step ds β2 h3
    exact ⟨β', f_cons h1 h2 h4, h5⟩
theorem e_lc {mi : MM (List D)} {vs : List Nat} {g : GM} {tt : MM Bool} {te : MM D} {rr : Res (List D × En)} (h : mi β = .ok (ds, β1)) (hl : ds.length ≤ 1000000) (h2 : lcLoop vs g tt te ds [] (wipeB β1 vs) = rr) : lcM mi vs g tt te β = rr := by
  unfold lcM; rw [h]; dsimp only [Res.bind_ok]; rw [if_pos hl]; exact h2
theorem lc_y {vs : List Nat} {g : GM} {tt : MM Bool} {te : MM D} {acc : List D} {rr : Res (List D × En)} (hg : g d β = .ok β1) (ht : tt β1 = .ok (true, β2)) (he : te β2 = .ok (a, β3)) (h : lcLoop vs g tt te ds (acc ++ [a]) (wipeB β3 vs) = rr) : lcLoop vs g tt te (d :: ds) acc β = rr := by
  show ((g d β).bindB fun β1 => (tt β1).bindB fun p => if p.1 = true then (te p.2).bindB fun q => lcLoop vs g tt te ds (acc ++ [q.1]) (wipeB q.2 vs) else lcLoop vs g tt te ds acc (wipeB p.2 vs)) = rr
  rw [hg]
  dsimp only [Res.bindB]
  rw [ht]
  dsimp only [Res.bindB]
  rw [if_pos rfl, he]
  exact h
theorem lc_n {vs : List Nat} {g : GM} {tt : MM Bool} {te : MM D} {acc : List D} {rr : Res (List D × En)} (hg : g d β = .ok β1) (ht : tt β1 = .ok (false, β2)) (h : lcLoop vs g tt te ds acc (wipeB β2 vs) = rr) : lcLoop vs g tt te (d :: ds) acc β = rr := by
  show ((g d β).bindB fun β1 => (tt β1).bindB fun p => if p.1 = true then (te p.2).bindB fun q => lcLoop vs g tt te ds (acc ++ [q.1]) (wipeB q.2 vs) else lcLoop vs g tt te ds acc (wipeB p.2 vs)) = rr
  rw [hg]
  dsimp only [Res.bindB]
  rw [ht]
  dsimp only [Res.bindB]
  rw [if_neg Bool.false_ne_true]
  exact h
/-- a comprehension whose parts leave all as it was -/
theorem lc_map {vs : List Nat} {g : GM} {te : MM D} {f : D → D} (h : ∀ d ∈ ds, ∃ β1, g d β = .ok β1 ∧ te β1 = .ok (f d, β1) ∧ wipeB β1 vs = β) : ∀ acc : List D, lcLoop vs g yesM te ds acc β = .ok (acc ++ ds.map f, β) := by
  induction ds with
  | nil => intro acc; rw [List.map_nil, List.append_nil]; rfl
  | cons d ds ih =>
    intro acc
    obtain ⟨β1, h1, h2, h3⟩ := h d List.mem_cons_self
    refine lc_y h1 rfl h2 ?_
    rw [h3, ih (fun x hx => h x (List.mem_cons_of_mem _ hx)), List.append_assoc]
    rfl
theorem lc_fmap {vs : List Nat} {g : GM} {tt : MM Bool} {te : MM D} {f : D → D} {p : D → Bool} (h : ∀ d ∈ ds, ∃ β1, g d β = .ok β1 ∧ tt β1 = .ok (p d, β1) ∧ (p d = true → te β1 = .ok (f d, β1)) ∧ wipeB β1 vs = β) : ∀ acc : List D, lcLoop vs g tt te ds acc β = .ok (acc ++ (ds.filter p).map f, β) := by
  induction ds with
  | nil => intro acc; rw [List.filter_nil, List.map_nil, List.append_nil]; rfl
  | cons d ds ih =>
    intro acc
    obtain ⟨β1, h1, h2, h2', h3⟩ := h d List.mem_cons_self
    have ih' := ih (fun x hx => h x (List.mem_cons_of_mem _ hx))
    cases hp : p d with
    | true =>
      rw [hp] at h2
      refine lc_y h1 h2 (h2' hp) ?_
      rw [h3, ih', List.filter_cons, hp, if_pos rfl, List.append_assoc]
      rfl
    | false =>
      rw [hp] at h2
      refine lc_n h1 h2 ?_
      rw [h3, ih', List.filter_cons, hp, if_neg Bool.false_ne_true]
/-- by an invariant -/
theorem lc_inv {vs : List Nat} {g : GM} {te : MM D} (I : List D → List D → En → Prop) (step : ∀ d ds acc β, I (d :: ds) acc β → ∃ β1 a β2, g d β = .ok β1 ∧ te β1 = .ok (a, β2) ∧ I ds (acc ++ [a]) (wipeB β2 vs)) :
    ∀ (ds acc : List D) (β : En), I ds acc β → ∃ out β', lcLoop vs g yesM te ds acc β = .ok (out, β') ∧ I [] out β'
  | [], acc, β, h => ⟨acc, β, rfl, h⟩
  | d :: ds, acc, β, h => by
    obtain ⟨β1, a, β2, h1, h2, h3⟩ := step d ds acc β h
    obtain ⟨out, β', h4, h5⟩ := lc_inv I step ds (acc ++ [a]) (wipeB β2 vs) h3
    exact ⟨out, β', lc_y h1 rfl h2 h4, h5⟩
theorem lc_mapA {α : Type} {vs : List Nat} {g : GM} {te : MM D} {src f : α → D} {l : List α} (h : ∀ a ∈ l, ∃ β1, g (src a) β = .ok β1 ∧ te β1 = .ok (f a, β1) ∧ wipeB β1 vs = β) : ∀ acc : List D, lcLoop vs g yesM te (l.map src) acc β = .ok (acc ++ l.map f, β) := by
  induction l with
  | nil => intro acc; rw [List.map_nil, List.map_nil, List.append_nil]; rfl
  | cons d ds ih =>
    intro acc
    obtain ⟨β1, h1, h2, h3⟩ := h d List.mem_cons_self
    refine lc_y h1 rfl h2 ?_
    rw [h3, ih (fun x hx => h x (List.mem_cons_of_mem _ hx)), List.append_assoc]
    rfl
/-- [e for g in mi]: each element by itself -/
theorem e_lcA {α : Type} {mi : MM (List D)} {vs : List Nat} {g : GM} {te : MM D} {src f : α → D} {l : List α} (hi : mi β = .ok (l.map src, β1)) (hl : l.length ≤ 1000000) (hw : wipeB β1 vs = β2)
    (h : ∀ a ∈ l, ∃ β3, g (src a) β2 = .ok β3 ∧ te β3 = .ok (f a, β3) ∧ wipeB β3 vs = β2) : lcM mi vs g yesM te β = .ok (l.map f, β2) := by
  refine e_lc hi (by rw [List.length_map]; exact hl) ?_
  rw [hw]
  exact lc_mapA h []
theorem e_lcF {α : Type} {mi : MM (List D)} {vs : List Nat} {g : GM} {tt : MM Bool} {te : MM D} {src f : α → D} {p : α → Bool} {l : List α} (hi : mi β = .ok (l.map src, β1)) (hl : l.length ≤ 1000000) (hw : wipeB β1 vs = β2)
    (h : ∀ a ∈ l, ∃ β3, g (src a) β2 = .ok β3 ∧ tt β3 = .ok (p a, β3) ∧ (p a = true → te β3 = .ok (f a, β3)) ∧ wipeB β3 vs = β2) : lcM mi vs g tt te β = .ok ((l.filter p).map f, β2) := by
  refine e_lc hi (by rw [List.length_map]; exact hl) ?_
  rw [hw]
  have key : ∀ (l : List α) (acc : List D), (∀ a ∈ l, ∃ β3, g (src a) β2 = .ok β3 ∧ tt β3 = .ok (p a, β3) ∧ (p a = true → te β3 = .ok (f a, β3)) ∧ wipeB β3 vs = β2) → lcLoop vs g tt te (l.map src) acc β2 = .ok (acc ++ (l.filter p).map f, β2) := by
    intro l
    induction l with
    | nil => intro acc _; rw [List.filter_nil, List.map_nil, List.map_nil, List.append_nil]; rfl
    | cons d ds ih =>
      intro acc h
      obtain ⟨β3, h1, h2, h2', h3⟩ := h d List.mem_cons_self
      have ih' := fun acc => ih acc (fun x hx => h x (List.mem_cons_of_mem _ hx))
      cases hp : p d with
      | true =>
        rw [hp] at h2
        refine lc_y h1 h2 (h2' hp) ?_
        rw [h3, ih', List.filter_cons, hp, if_pos rfl, List.append_assoc]
        rfl
      | false =>
        rw [hp] at h2
        refine lc_n h1 h2 ?_
        rw [h3, ih', List.filter_cons, hp, if_neg Bool.false_ne_true]
  exact key l [] h
theorem e_fr {mf : MM (List D)} (h : mf β = .ok (ds, β1)) : frM mf β = .ok (.lst ds, β1) := by unfold frM; rw [h]; rfl
theorem e_lsz {mf : MM (List D)} (h : mf β = .ok (ds, β1)) (hl : ds.length ≤ 1000000) : lszM mf β = .ok (ds, β1) := by unfold lszM; rw [h]; dsimp only [Res.bind_ok]; rw [if_pos hl]
end
/-! step by step to a return -/
def Rt (P : En → Prop) (k : MM Fl) (β : En) (d : D) : Prop := ∃ β', k β = .ok (.rt d, β') ∧ P β'
section
variable {P : En → Prop} {β β1 : En} {d : D} {k1 k2 : MM Fl} {m : MM D} {c : MM Bool} {i n : Nat} {ds : List D}
theorem r_nx (h1 : k1 β = .ok (.nx, β1)) (h2 : Rt P k2 β1 d) : Rt P (seqM k1 k2) β d := let ⟨β', h, p⟩ := h2; ⟨β', s_nx h1 h, p⟩
theorem r_rt (h1 : Rt P k1 β d) : Rt P (seqM k1 k2) β d := let ⟨β', h, p⟩ := h1; ⟨β', s_rt h, p⟩
theorem r_ret (h : m β = .ok (d, β1)) (p : P β1) : Rt P (retM m) β d := ⟨β1, s_ret h, p⟩
theorem r_if_t (h : c β = .ok (true, β1)) (h2 : Rt P k1 β1 d) : Rt P (ifM c k1 k2) β d := let ⟨β', h', p⟩ := h2; ⟨β', s_if_t h h', p⟩
theorem r_if_f (h : c β = .ok (false, β1)) (h2 : Rt P k2 β1 d) : Rt P (ifM c k1 k2) β d := let ⟨β', h', p⟩ := h2; ⟨β', s_if_f h h', p⟩
theorem r_frz (h : Rt P k1 (frzB i β) d) : Rt P (frzM i k1) β d := h
theorem r_lck (hl : lckB i β = some β1) (h : Rt P k1 β1 d) : Rt P (lckM i k1) β d := by
  obtain ⟨β', h', p⟩ := h
  refine ⟨β', ?_, p⟩
  unfold lckM
  rw [hl]
  exact h'
theorem r_run (h : Rt (fun _ => True) k1 (env0 n ds) d) : runF k1 n ds = .ok d := let ⟨_, h', _⟩ := h; e_runF h'
theorem r_runM {bb bo : B} (h : Rt (fun β => β[0]? = some (some bo) ∧ bo.pin = true) k1 (envM n bb ds) d) : runM k1 n bb ds = .ok (d, bo) := let ⟨_, h', a, b⟩ := h; e_runM h' a b
end
end Fw
end

section
set_option Elab.async false
open PySem PySem.W PyProof.Rows
set_option maxRecDepth 100000
set_option maxHeartbeats 0
open_top hd03 for PySem.Challenge.rw_everyload_k03_loads_in_order
end

section
set_option Elab.async false
set_option linter.all false
set_option maxRecDepth 100000
set_option maxHeartbeats 4000000
set_option autoImplicit false
namespace K03
open PySem L2 Evl Fw
def top (i : Nat) : Stmt := PySem.Challenge.pw_everyload_k03_loads_in_order.main.body.getD i (.Pass ⟨0, 0, 0, 0⟩)
def ownCls : List Str := ["Load"]
def excCls : List Str := ["ValueFault", "StateFault", "NotALoad", "InvalidName", "InvalidText", "InvalidNumber", "UnknownKind", "InvalidPairs", "InvalidKinds", "Lacking"]
def fnNames : List Str := ["is_name"]
abbrev TX (K : PySem.W.Frag) (ca fa : Str → Addr) : Tx := ⟨K, fun c => if c ∈ ownCls then some (ca c) else none, fun c => if c ∈ excCls then some (ca c) else none, [(fa "tab:_law_errors_right", (("_law_errors_right" : Str) ++ ".<locals>.") ++ "<lambda>")], fun q => if q ∈ fnNames then some (fa q) else none⟩
def flds : Str → List Str := fun c => if c = "Load" then ["pairs", "names", "size"] else []
def xflds : Str → List Str := fun c => if c = "NotALoad" then ["value"] else if c = "InvalidName" then ["value"] else if c = "InvalidText" then ["value"] else if c = "InvalidNumber" then ["value"] else if c = "UnknownKind" then ["value"] else if c = "InvalidPairs" then ["index"] else if c = "InvalidKinds" then ["index"] else if c = "Lacking" then ["name"] else []
abbrev s_InvalidPairsD_initD : Stmt := inClass (top 8) 0
abbrev s_NotALoadD_initD : Stmt := inClass (top 3) 0
abbrev s_InvalidKindsD_initD : Stmt := inClass (top 9) 0
abbrev s_UnknownKindD_initD : Stmt := inClass (top 7) 0
abbrev s_is_name : Stmt := top 15
abbrev n_is_name : List Str := ["value", "sign"]
theorem sc_is_name : FnScope n_is_name ["value"] (defScope s_is_name) := ⟨rfl, rfl, rfl, by decide +kernel, rfl, by decide +kernel, by decide +kernel⟩
abbrev s_is_whole : Stmt := top 16
abbrev n_is_whole : List Str := ["value"]
theorem sc_is_whole : FnScope n_is_whole ["value"] (defScope s_is_whole) := ⟨rfl, rfl, rfl, by decide +kernel, rfl, by decide +kernel, by decide +kernel⟩
abbrev s_is_tuple_of : Stmt := top 17
abbrev n_is_tuple_of : List Str := ["value", "count"]
theorem sc_is_tuple_of : FnScope n_is_tuple_of ["value", "count"] (defScope s_is_tuple_of) := ⟨rfl, rfl, rfl, by decide +kernel, rfl, by decide +kernel, by decide +kernel⟩
abbrev s_wrong_place : Stmt := top 18
abbrev n_wrong_place : List Str := ["values", "fits", "earlier", "index", "value"]
theorem sc_wrong_place : FnScope n_wrong_place ["values", "fits"] (defScope s_wrong_place) := ⟨rfl, rfl, rfl, by decide +kernel, rfl, by decide +kernel, by decide +kernel⟩
abbrev s_ascending : Stmt := top 19
abbrev n_ascending : List Str := ["names", "name"]
theorem sc_ascending : FnScope n_ascending ["names"] (defScope s_ascending) := ⟨rfl, rfl, rfl, by decide +kernel, rfl, by decide +kernel, by decide +kernel⟩
abbrev s_is_part : Stmt := top 22
abbrev n_is_part : List Str := ["value"]
theorem sc_is_part : FnScope n_is_part ["value"] (defScope s_is_part) := ⟨rfl, rfl, rfl, by decide +kernel, rfl, by decide +kernel, by decide +kernel⟩
abbrev s_counts_in : Stmt := top 23
abbrev n_counts_in : List Str := ["pairs", "counts", "index", "pair"]
theorem sc_counts_in : FnScope n_counts_in ["pairs"] (defScope s_counts_in) := ⟨rfl, rfl, rfl, by decide +kernel, rfl, by decide +kernel, by decide +kernel⟩
abbrev s_pairs_of : Stmt := top 24
abbrev n_pairs_of : List Str := ["counts", "name"]
theorem sc_pairs_of : FnScope n_pairs_of ["counts"] (defScope s_pairs_of) := ⟨rfl, rfl, rfl, by decide +kernel, rfl, by decide +kernel, by decide +kernel⟩
abbrev s_LoadD_initD : Stmt := inClass (top 31) 0
abbrev n_LoadD_initD : List Str := ["self", "pairs", "counts", "pair"]
theorem sc_LoadD_initD : FnScope n_LoadD_initD ["self", "pairs"] (defScope s_LoadD_initD) := ⟨rfl, rfl, rfl, by decide +kernel, rfl, by decide +kernel, by decide +kernel⟩
abbrev s_Load_of : Stmt := inClass (top 31) 1
abbrev n_Load_of : List Str := ["pairs"]
theorem sc_Load_of : FnScope n_Load_of ["pairs"] (defScope s_Load_of) := ⟨rfl, rfl, rfl, by decide +kernel, rfl, by decide +kernel, by decide +kernel⟩
abbrev s_load_of : Stmt := top 25
abbrev n_load_of : List Str := ["counts", "pairs"]
theorem sc_load_of : FnScope n_load_of ["counts"] (defScope s_load_of) := ⟨rfl, rfl, rfl, by decide +kernel, rfl, by decide +kernel, by decide +kernel⟩
abbrev s_with_both : Stmt := top 26
abbrev n_with_both : List Str := ["one", "other", "names", "name"]
theorem sc_with_both : FnScope n_with_both ["one", "other"] (defScope s_with_both) := ⟨rfl, rfl, rfl, by decide +kernel, rfl, by decide +kernel, by decide +kernel⟩
abbrev s_check_load : Stmt := top 27
abbrev n_check_load : List Str := ["value"]
theorem sc_check_load : FnScope n_check_load ["value"] (defScope s_check_load) := ⟨rfl, rfl, rfl, by decide +kernel, rfl, by decide +kernel, by decide +kernel⟩
abbrev s_check_only : Stmt := top 28
abbrev n_check_only : List Str := ["load", "kinds", "name"]
theorem sc_check_only : FnScope n_check_only ["load", "kinds"] (defScope s_check_only) := ⟨rfl, rfl, rfl, by decide +kernel, rfl, by decide +kernel, by decide +kernel⟩
abbrev s_LoadD_eqD : Stmt := inClass (top 31) 22
abbrev n_LoadD_eqD : List Str := ["self", "other"]
theorem sc_LoadD_eqD : FnScope n_LoadD_eqD ["self", "other"] (defScope s_LoadD_eqD) := ⟨rfl, rfl, rfl, by decide +kernel, rfl, by decide +kernel, by decide +kernel⟩
abbrev s_LoadD_addD : Stmt := inClass (top 31) 7
abbrev n_LoadD_addD : List Str := ["self", "other"]
theorem sc_LoadD_addD : FnScope n_LoadD_addD ["self", "other"] (defScope s_LoadD_addD) := ⟨rfl, rfl, rfl, by decide +kernel, rfl, by decide +kernel, by decide +kernel⟩
abbrev s_check_kinds : Stmt := top 32
abbrev n_check_kinds : List Str := ["value", "index"]
theorem sc_check_kinds : FnScope n_check_kinds ["value"] (defScope s_check_kinds) := ⟨rfl, rfl, rfl, by decide +kernel, rfl, by decide +kernel, by decide +kernel⟩
abbrev s_rank_of : Stmt := top 33
abbrev n_rank_of : List Str := ["load", "kinds", "counts", "kind"]
theorem sc_rank_of : FnScope n_rank_of ["load", "kinds"] (defScope s_rank_of) := ⟨rfl, rfl, rfl, by decide +kernel, rfl, by decide +kernel, by decide +kernel⟩
abbrev s_compare : Stmt := top 34
abbrev n_compare : List Str := ["one", "other", "kinds", "left", "right"]
theorem sc_compare : FnScope n_compare ["one", "other", "kinds"] (defScope s_compare) := ⟨rfl, rfl, rfl, by decide +kernel, rfl, by decide +kernel, by decide +kernel⟩
abbrev s_x_law_source : Stmt := top 36
abbrev n_x_law_source : List Str := ["_law_cells", "_law_turn", "_law_cell", "_law_seed", "_law_each", "_law_low"]
theorem sc_x_law_source : FnScope n_x_law_source ["_law_cells", "_law_turn"] (defScope s_x_law_source) := ⟨rfl, rfl, rfl, by decide +kernel, rfl, by decide +kernel, by decide +kernel⟩
abbrev s_x_law_pull : Stmt := top 37
abbrev n_x_law_pull : List Str := ["_law_source_here", "_law_width", "_law_digit", "_law_seed", "_law_step"]
theorem sc_x_law_pull : FnScope n_x_law_pull ["_law_source_here", "_law_width"] (defScope s_x_law_pull) := ⟨rfl, rfl, rfl, by decide +kernel, rfl, by decide +kernel, by decide +kernel⟩
abbrev s_x_law_tags : Stmt := top 38
abbrev n_x_law_tags : List Str := ["_law_source_here", "_law_many", "_law_small", "_law_tail", "_law_spare", "_law_spot", "_law_begin", "_law_found", "_law_k", "_law_own", "_law_words", "_law_others", "_law_word"]
theorem sc_x_law_tags : FnScope n_x_law_tags ["_law_source_here", "_law_many"] (defScope s_x_law_tags) := ⟨rfl, rfl, rfl, by decide +kernel, rfl, by decide +kernel, by decide +kernel⟩
abbrev s_x_law_error : Stmt := top 39
abbrev n_x_law_error : List Str := ["_law_ask", "_law_told", "e"]
theorem sc_x_law_error : FnScope n_x_law_error ["_law_ask"] (defScope s_x_law_error) := ⟨rfl, rfl, rfl, by decide +kernel, rfl, by decide +kernel, by decide +kernel⟩
abbrev s_x_law_sized : Stmt := top 40
abbrev n_x_law_sized : List Str := ["_law_sorts", "_law_size", "_law_found", "_law_first", "_law_more"]
theorem sc_x_law_sized : FnScope n_x_law_sized ["_law_sorts", "_law_size"] (defScope s_x_law_sized) := ⟨rfl, rfl, rfl, by decide +kernel, rfl, by decide +kernel, by decide +kernel⟩
abbrev s_x_law_load : Stmt := top 41
abbrev n_x_law_load : List Str := ["_law_sorts", "_law_counts", "_law_kind", "_law_count"]
theorem sc_x_law_load : FnScope n_x_law_load ["_law_sorts", "_law_counts"] (defScope s_x_law_load) := ⟨rfl, rfl, rfl, by decide +kernel, rfl, by decide +kernel, by decide +kernel⟩
abbrev s_x_law_great_right : Stmt := top 42
abbrev n_x_law_great_right : List Str := ["_law_source_here", "_law_sorts", "_law_low", "_law_high", "_law_sizes", "_law_due", "_law_ahead", "_law_near", "_law_far", "_law_kind", "_law_count"]
theorem sc_x_law_great_right : FnScope n_x_law_great_right ["_law_source_here", "_law_sorts"] (defScope s_x_law_great_right) := ⟨rfl, rfl, rfl, by decide +kernel, rfl, by decide +kernel, by decide +kernel⟩
abbrev s_x_law_errors_right : Stmt := top 43
abbrev n_x_law_errors_right : List Str := ["_law_source_here", "_law_sorts", "_law_some", "_law_odd", "_law_some_bad", "_law_bad", "_law_spot", "_law_far", "_law_told", "_law_due"]
theorem sc_x_law_errors_right : FnScope n_x_law_errors_right ["_law_source_here", "_law_sorts", "_law_some"] (defScope s_x_law_errors_right) := ⟨rfl, rfl, rfl, by decide +kernel, rfl, by decide +kernel, by decide +kernel⟩
abbrev s_x_law_right : Stmt := top 44
abbrev n_x_law_right : List Str := ["_law_source_here", "_law_sorts", "_law_listed", "_law_size", "_law_k", "_law_j", "_law_due", "_law_nine", "_law_counts"]
theorem sc_x_law_right : FnScope n_x_law_right ["_law_source_here"] (defScope s_x_law_right) := ⟨rfl, rfl, rfl, by decide +kernel, rfl, by decide +kernel, by decide +kernel⟩
abbrev s_law : Stmt := top 45
abbrev n_law : List Str := ["_law_cells", "_law_turn"]
theorem sc_law : FnScope n_law ["_law_cells"] (defScope s_law) := ⟨rfl, rfl, rfl, by decide +kernel, rfl, by decide +kernel, by decide +kernel⟩
theorem fnq_is_name {K : PySem.W.Frag} {ca fa : Str → Addr} : (TX K ca fa).fn "is_name" = some (fa "is_name") := by
  have h : ("is_name" : Str) ∈ fnNames := by decide +kernel
  simp only [TX]
  rw [if_pos h]
structure Txt (K : PySem.W.Frag) (mg : Str → Option Value) (base : Heap) (ca fa : Str → Addr) : Prop where
  f_InvalidPairsD_initD : ∃ fd, Fun K "__init__" "InvalidPairs.__init__" s_InvalidPairsD_initD (fa "InvalidPairs.__init__") fd
  f_NotALoadD_initD : ∃ fd, Fun K "__init__" "NotALoad.__init__" s_NotALoadD_initD (fa "NotALoad.__init__") fd
  f_InvalidKindsD_initD : ∃ fd, Fun K "__init__" "InvalidKinds.__init__" s_InvalidKindsD_initD (fa "InvalidKinds.__init__") fd
  f_UnknownKindD_initD : ∃ fd, Fun K "__init__" "UnknownKind.__init__" s_UnknownKindD_initD (fa "UnknownKind.__init__") fd
  b_isinstance : mg "isinstance" = none
  b_str : mg "str" = none
  b_len : mg "len" = none
  c_MOST_SIGNS : ∃ t, mg "MOST_SIGNS" = some (.int 8 t)
  c_FIGURES : ∃ t, mg "FIGURES" = some (.str "0123456789" t)
  c_SMALL : ∃ t, mg "SMALL" = some (.str "abcdefghijklmnopqrstuvwxyz" t)
  b_all : mg "all" = none
  f_is_name : ∃ fd, Fun K "is_name" "is_name" s_is_name (fa "is_name") fd
  b_int : mg "int" = none
  b_bool : mg "bool" = none
  f_is_whole : ∃ fd, Fun K "is_whole" "is_whole" s_is_whole (fa "is_whole") fd
  b_tuple : mg "tuple" = none
  f_is_tuple_of : ∃ fd, Fun K "is_tuple_of" "is_tuple_of" s_is_tuple_of (fa "is_tuple_of") fd
  b_enumerate : mg "enumerate" = none
  f_wrong_place : ∃ fd, Fun K "wrong_place" "wrong_place" s_wrong_place (fa "wrong_place") fd
  b_sorted : mg "sorted" = none
  b_set : mg "set" = none
  f_ascending : ∃ fd, Fun K "ascending" "ascending" s_ascending (fa "ascending") fd
  g_is_tuple_of : mg "is_tuple_of" = some (.ref (fa "is_tuple_of"))
  g_is_name : mg "is_name" = some (.ref (fa "is_name"))
  g_is_whole : mg "is_whole" = some (.ref (fa "is_whole"))
  f_is_part : ∃ fd, Fun K "is_part" "is_part" s_is_part (fa "is_part") fd
  g_is_part : mg "is_part" = some (.ref (fa "is_part"))
  ox_InvalidPairs : OexC K (ca "InvalidPairs")
  oi_InvalidPairs : PySem.W.findIn K (.ref (ca "InvalidPairs")) "__init__" = some (some (.ref (fa "InvalidPairs.__init__")))
  ot_InvalidPairs : PySem.W.typeIn K (.ref (fa "InvalidPairs.__init__")) = some (.type "function")
  on_InvalidPairs : PySem.W.findIn K (.ref (ca "InvalidPairs")) "index" = some none
  gc_InvalidPairs : mg "InvalidPairs" = some (.ref (ca "InvalidPairs"))
  f_counts_in : ∃ fd, Fun K "counts_in" "counts_in" s_counts_in (fa "counts_in") fd
  g_ascending : mg "ascending" = some (.ref (fa "ascending"))
  f_pairs_of : ∃ fd, Fun K "pairs_of" "pairs_of" s_pairs_of (fa "pairs_of") fd
  g_counts_in : mg "counts_in" = some (.ref (fa "counts_in"))
  g_pairs_of : mg "pairs_of" = some (.ref (fa "pairs_of"))
  b_sum : mg "sum" = none
  f_LoadD_initD : ∃ fd, Fun K "__init__" "Load.__init__" s_LoadD_initD (fa "Load.__init__") fd
  mk_Load : Mk K (ca "Load") (fa "Load.__init__")
  gc_Load : mg "Load" = some (.ref (ca "Load"))
  f_Load_of : ∃ fd, Fun K "of" "Load.of" s_Load_of (fa "Load.of") fd
  f_load_of : ∃ fd, Fun K "load_of" "load_of" s_load_of (fa "load_of") fd
  f_with_both : ∃ fd, Fun K "with_both" "with_both" s_with_both (fa "with_both") fd
  ox_NotALoad : OexC K (ca "NotALoad")
  oi_NotALoad : PySem.W.findIn K (.ref (ca "NotALoad")) "__init__" = some (some (.ref (fa "NotALoad.__init__")))
  ot_NotALoad : PySem.W.typeIn K (.ref (fa "NotALoad.__init__")) = some (.type "function")
  on_NotALoad : PySem.W.findIn K (.ref (ca "NotALoad")) "value" = some none
  gc_NotALoad : mg "NotALoad" = some (.ref (ca "NotALoad"))
  f_check_load : ∃ fd, Fun K "check_load" "check_load" s_check_load (fa "check_load") fd
  ox_UnknownKind : OexC K (ca "UnknownKind")
  oi_UnknownKind : PySem.W.findIn K (.ref (ca "UnknownKind")) "__init__" = some (some (.ref (fa "UnknownKind.__init__")))
  ot_UnknownKind : PySem.W.typeIn K (.ref (fa "UnknownKind.__init__")) = some (.type "function")
  on_UnknownKind : PySem.W.findIn K (.ref (ca "UnknownKind")) "value" = some none
  gc_UnknownKind : mg "UnknownKind" = some (.ref (ca "UnknownKind"))
  f_check_only : ∃ fd, Fun K "check_only" "check_only" s_check_only (fa "check_only") fd
  f_LoadD_eqD : ∃ fd, Fun K "__eq__" "Load.__eq__" s_LoadD_eqD (fa "Load.__eq__") fd
  g_check_load : mg "check_load" = some (.ref (fa "check_load"))
  g_load_of : mg "load_of" = some (.ref (fa "load_of"))
  g_with_both : mg "with_both" = some (.ref (fa "with_both"))
  b_dict : mg "dict" = none
  f_LoadD_addD : ∃ fd, Fun K "__add__" "Load.__add__" s_LoadD_addD (fa "Load.__add__") fd
  ox_InvalidKinds : OexC K (ca "InvalidKinds")
  oi_InvalidKinds : PySem.W.findIn K (.ref (ca "InvalidKinds")) "__init__" = some (some (.ref (fa "InvalidKinds.__init__")))
  ot_InvalidKinds : PySem.W.typeIn K (.ref (fa "InvalidKinds.__init__")) = some (.type "function")
  on_InvalidKinds : PySem.W.findIn K (.ref (ca "InvalidKinds")) "index" = some none
  gc_InvalidKinds : mg "InvalidKinds" = some (.ref (ca "InvalidKinds"))
  g_wrong_place : mg "wrong_place" = some (.ref (fa "wrong_place"))
  f_check_kinds : ∃ fd, Fun K "check_kinds" "check_kinds" s_check_kinds (fa "check_kinds") fd
  f_rank_of : ∃ fd, Fun K "rank_of" "rank_of" s_rank_of (fa "rank_of") fd
  g_check_kinds : mg "check_kinds" = some (.ref (fa "check_kinds"))
  g_check_only : mg "check_only" = some (.ref (fa "check_only"))
  g_rank_of : mg "rank_of" = some (.ref (fa "rank_of"))
  f_compare : ∃ fd, Fun K "compare" "compare" s_compare (fa "compare") fd
  b_abs : mg "abs" = none
  f_x_law_source : ∃ fd, Fun K "_law_source" "_law_source" s_x_law_source (fa "_law_source") fd
  f_x_law_pull : ∃ fd, Fun K "_law_pull" "_law_pull" s_x_law_pull (fa "_law_pull") fd
  g_x_law_pull : mg "_law_pull" = some (.ref (fa "_law_pull"))
  b_range : mg "range" = none
  b_list : mg "list" = none
  b_any : mg "any" = none
  b_min : mg "min" = none
  f_x_law_tags : ∃ fd, Fun K "_law_tags" "_law_tags" s_x_law_tags (fa "_law_tags") fd
  xok : XcOk (TX K ca fa) xflds
  ki_ValueFault : ∀ c C, (TX K ca fa).xc c = some C → PySem.W.kitOne K (.ref C) (.ref (ca "ValueFault")) = some (decide (c ∈ (["ValueFault", "NotALoad", "InvalidName", "InvalidText", "InvalidNumber", "UnknownKind", "InvalidPairs", "InvalidKinds"] : List Str)))
  gc_ValueFault : mg "ValueFault" = some (.ref (ca "ValueFault"))
  ki_ValueError : ∀ c C, (TX K ca fa).xc c = some C → PySem.W.kitOne K (.ref C) (.type "ValueError") = some (decide (c ∈ (["ValueFault", "NotALoad", "InvalidName", "InvalidText", "InvalidNumber", "UnknownKind", "InvalidPairs", "InvalidKinds"] : List Str)))
  b_ValueError : mg "ValueError" = none
  ex_NotALoad : ∀ c C, (TX K ca fa).xc c = some C → PySem.W.exmOne K (.ref C) (.ref (ca "NotALoad")) = some (decide (c ∈ (["NotALoad"] : List Str)))
  ex_InvalidKinds : ∀ c C, (TX K ca fa).xc c = some C → PySem.W.exmOne K (.ref C) (.ref (ca "InvalidKinds")) = some (decide (c ∈ (["InvalidKinds"] : List Str)))
  ex_UnknownKind : ∀ c C, (TX K ca fa).xc c = some C → PySem.W.exmOne K (.ref C) (.ref (ca "UnknownKind")) = some (decide (c ∈ (["UnknownKind"] : List Str)))
  g_x_law_sized : mg "_law_sized" = some (.ref (fa "_law_sized"))
  f_x_law_sized : ∃ fd, Fun K "_law_sized" "_law_sized" s_x_law_sized (fa "_law_sized") fd
  sm_Load_of : SMet K (ca "Load") "of" (fa "Load.of")
  b_zip : mg "zip" = none
  f_x_law_load : ∃ fd, Fun K "_law_load" "_law_load" s_x_law_load (fa "_law_load") fd
  b_max : mg "max" = none
  g_x_law_load : mg "_law_load" = some (.ref (fa "_law_load"))
  g_compare : mg "compare" = some (.ref (fa "compare"))
  b_repr : mg "repr" = none
  f_x_law_great_right : ∃ fd, Fun K "_law_great_right" "_law_great_right" s_x_law_great_right (fa "_law_great_right") fd
  tb_x_law_errors_right : LamX.TabB base mg (fa "code:_law_errors_right") (fa "tab:_law_errors_right")
  tm_x_law_errors_right : (fa "tab:_law_errors_right", (("_law_errors_right" : Str) ++ ".<locals>.") ++ "<lambda>") ∈ (TX K ca fa).tabs
  tu_x_law_errors_right : ∀ p ∈ (TX K ca fa).tabs, p.1 = fa "tab:_law_errors_right" → p.2 = (("_law_errors_right" : Str) ++ ".<locals>.") ++ "<lambda>"
  f_x_law_error : ∃ fd, Fun K "_law_error" "_law_error" s_x_law_error (fa "_law_error") fd
  g_x_law_error : mg "_law_error" = some (.ref (fa "_law_error"))
  sub : SubOk (TX K ca fa)
  bo_Load_add : BinOk (TX K ca fa) (ca "Load") "add"
  mt_Load_add : Meth K (ca "Load") (PySem.dunder "add") (fa "Load.__add__")
  mt_Load_eq : Meth K (ca "Load") "__eq__" (fa "Load.__eq__")
  f_x_law_errors_right : ∃ fd, Fun K "_law_errors_right" "_law_errors_right" s_x_law_errors_right (fa "_law_errors_right") fd
  cd_x_law_errors_right : CodeIs K (fa "_law_errors_right") (.ref (fa "code:_law_errors_right"))
  g_x_law_tags : mg "_law_tags" = some (.ref (fa "_law_tags"))
  g_x_law_great_right : mg "_law_great_right" = some (.ref (fa "_law_great_right"))
  g_x_law_errors_right : mg "_law_errors_right" = some (.ref (fa "_law_errors_right"))
  f_x_law_right : ∃ fd, Fun K "_law_right" "_law_right" s_x_law_right (fa "_law_right") fd
  g_x_law_right : mg "_law_right" = some (.ref (fa "_law_right"))
  g_x_law_source : mg "_law_source" = some (.ref (fa "_law_source"))
  f_law : ∃ fd, Fun K "law" "law" s_law (fa "law") fd
  cls : ClsOk (TX K ca fa)
  fld : FldOk (TX K ca fa) flds
theorem ok_InvalidPairsD_initD {P : Program} {w : World} {K : PySem.W.Frag} {mg : Str → Option Value} {base : Heap} {ca fa : Str → Addr} (TT : Txt K mg base ca fa) : FnG P w K mg base 1 (fa "InvalidPairs.__init__") [] (spX1 K "index") := TT.f_InvalidPairsD_initD.elim fun fd F =>
  fn_X1 (k := 0) F ⟨rfl, rfl, rfl, by decide +kernel, rfl, by decide +kernel, by decide +kernel⟩ (Fun.bind0 (ps := ["self", "index"]) F fun _ _ _ _ _ _ us hl => match us, hl with | [_, _], _ => rfl) rfl (Or.inl rfl) (Or.inl rfl) (by decide) (by decide) (by decide) (by decide)
theorem ok_NotALoadD_initD {P : Program} {w : World} {K : PySem.W.Frag} {mg : Str → Option Value} {base : Heap} {ca fa : Str → Addr} (TT : Txt K mg base ca fa) : FnG P w K mg base 1 (fa "NotALoad.__init__") [] (spX1 K "value") := TT.f_NotALoadD_initD.elim fun fd F =>
  fn_X1 (k := 0) F ⟨rfl, rfl, rfl, by decide +kernel, rfl, by decide +kernel, by decide +kernel⟩ (Fun.bind0 (ps := ["self", "value"]) F fun _ _ _ _ _ _ us hl => match us, hl with | [_, _], _ => rfl) rfl (Or.inl rfl) (Or.inl rfl) (by decide) (by decide) (by decide) (by decide)
theorem ok_InvalidKindsD_initD {P : Program} {w : World} {K : PySem.W.Frag} {mg : Str → Option Value} {base : Heap} {ca fa : Str → Addr} (TT : Txt K mg base ca fa) : FnG P w K mg base 1 (fa "InvalidKinds.__init__") [] (spX1 K "index") := TT.f_InvalidKindsD_initD.elim fun fd F =>
  fn_X1 (k := 0) F ⟨rfl, rfl, rfl, by decide +kernel, rfl, by decide +kernel, by decide +kernel⟩ (Fun.bind0 (ps := ["self", "index"]) F fun _ _ _ _ _ _ us hl => match us, hl with | [_, _], _ => rfl) rfl (Or.inl rfl) (Or.inl rfl) (by decide) (by decide) (by decide) (by decide)
theorem ok_UnknownKindD_initD {P : Program} {w : World} {K : PySem.W.Frag} {mg : Str → Option Value} {base : Heap} {ca fa : Str → Addr} (TT : Txt K mg base ca fa) : FnG P w K mg base 1 (fa "UnknownKind.__init__") [] (spX1 K "value") := TT.f_UnknownKindD_initD.elim fun fd F =>
  fn_X1 (k := 0) F ⟨rfl, rfl, rfl, by decide +kernel, rfl, by decide +kernel, by decide +kernel⟩ (Fun.bind0 (ps := ["self", "value"]) F fun _ _ _ _ _ _ us hl => match us, hl with | [_, _], _ => rfl) rfl (Or.inl rfl) (Or.inl rfl) (by decide) (by decide) (by decide) (by decide)
def m_is_name : MM Fl := (seqM (ifM (notT (truthM (isiM (isiB "str") (nameM 0))))
  (retM (constM (.bl false)))
  passM)
  (seqM (ifM (orT (truthM (opM eqPD (nameM 0) (constM (.str "")))) (orT (truthM (opM gtD (apM lenF (consM (nameM 0) nilM)) (constM (.int 8)))) (truthM (opM (inF false) (opM subF (nameM 0) (constM (.int 0))) (constM (.str "0123456789"))))))
  (retM (constM (.bl false)))
  passM)
  (retM (apM allF (consM (frM (lcM (iterK (nameM 0)) [1] (gN 1) yesM (orM (opM (inF false) (nameM 1) (constM (.str "abcdefghijklmnopqrstuvwxyz"))) (opM (inF false) (nameM 1) (constM (.str "0123456789")))))) nilM)))))
def f_is_name : List D → Res D := runF m_is_name 2
theorem ok_is_name {P : Program} {w : World} {K : PySem.W.Frag} {mg : Str → Option Value} {base : Heap} {ca fa : Str → Addr} (TT : Txt K mg base ca fa) : FnG P w K mg base 1 (fa "is_name") [] (spF (TX K ca fa) 1 f_is_name) := TT.f_is_name.elim fun fd F =>
  fn_F (k := 0) (T := TX K ca fa) F sc_is_name (Fun.bind0 F fun _ _ _ _ _ _ us hl => match us, hl with | [_], _ => rfl) fun cdv A outer s H E hr =>
  (mss_cons (ms_if (mt_not (mt_val (me_isiB (b := "str") rfl TT.cls (by decide) rfl TT.b_isinstance rfl TT.b_str (by decide +kernel) (me_name (i := 0) rfl (Or.inl rfl)))))
  (mss_one (ms_ret me_bl))
  mss_nil)
  (mss_cons (ms_if (mt_w (mw_or (mt_cmp (op_eqD hr.r.units) p_eqP (me_name (i := 0) rfl (Or.inl rfl)) me_str (nomark _)) (mw_or (mt_cmp op_gt p_gt (me_callB call_len p_len rfl TT.b_len (by decide +kernel) (ma_cons (me_name (i := 0) rfl (Or.inl rfl)) ma_nil)) (me_gint rfl TT.c_MOST_SIGNS) (nomark _)) (mw_or1 (mt_in rfl hr (me_sub' rfl hr.u1 (me_name (i := 0) rfl (Or.inl rfl)) me_int) (me_gstr rfl TT.c_FIGURES))))))
  (mss_one (ms_ret me_bl))
  mss_nil)
  (mss_one (ms_ret (me_callB (cr_all rfl) p_all rfl TT.b_all (by decide +kernel) (ma_cons (me_of_mf (mf_lc (own := [("sign", 1)]) rfl sc_is_name.nd (mi_any rfl (me_name (i := 0) rfl (Or.inl rfl))) (blkOk_by (N := n_is_name) (sc := defScope s_is_name) (by decide +kernel)) (fun _ _ _ _ _ => (mg_name (i := 1) sc_is_name.nd rfl (Or.inl rfl))) (fun _ _ _ _ _ => mts_nil) (fun _ _ _ _ _ => (me_or (me_in rfl hr (me_name (i := 1) rfl (Or.inl rfl)) (me_gstr rfl TT.c_SMALL)) (me_one (me_in rfl hr (me_name (i := 1) rfl (Or.inl rfl)) (me_gstr rfl TT.c_FIGURES))))))) ma_nil))))))
def m_is_whole : MM Fl := (retM (andM (isiM (isiB "int") (nameM 0)) (notM (isiM (isiB "bool") (nameM 0)))))
def f_is_whole : List D → Res D := runF m_is_whole 1
theorem ok_is_whole {P : Program} {w : World} {K : PySem.W.Frag} {mg : Str → Option Value} {base : Heap} {ca fa : Str → Addr} (TT : Txt K mg base ca fa) : FnG P w K mg base 1 (fa "is_whole") [] (spF (TX K ca fa) 1 f_is_whole) := TT.f_is_whole.elim fun fd F =>
  fn_F (k := 0) (T := TX K ca fa) F sc_is_whole (Fun.bind0 F fun _ _ _ _ _ _ us hl => match us, hl with | [_], _ => rfl) fun cdv A outer s H E hr =>
  (mss_one (ms_ret (me_and (me_isiB (b := "int") rfl TT.cls (by decide) rfl TT.b_isinstance rfl TT.b_int (by decide +kernel) (me_name (i := 0) rfl (Or.inl rfl))) (me_one (me_not (me_isiB (b := "bool") rfl TT.cls (by decide) rfl TT.b_isinstance rfl TT.b_bool (by decide +kernel) (me_name (i := 0) rfl (Or.inl rfl))))))))
def m_is_tuple_of : MM Fl := (retM (andM (isiM (isiB "tuple") (nameM 0)) (opM eqPD (apM lenF (consM (nameM 0) nilM)) (nameM 1))))
def f_is_tuple_of : List D → Res D := runF m_is_tuple_of 2
theorem ok_is_tuple_of {P : Program} {w : World} {K : PySem.W.Frag} {mg : Str → Option Value} {base : Heap} {ca fa : Str → Addr} (TT : Txt K mg base ca fa) : FnG P w K mg base 1 (fa "is_tuple_of") [] (spF (TX K ca fa) 2 f_is_tuple_of) := TT.f_is_tuple_of.elim fun fd F =>
  fn_F (k := 0) (T := TX K ca fa) F sc_is_tuple_of (Fun.bind0 F fun _ _ _ _ _ _ us hl => match us, hl with | [_, _], _ => rfl) fun cdv A outer s H E hr =>
  (mss_one (ms_ret (me_and (me_isiB (b := "tuple") rfl TT.cls (by decide) rfl TT.b_isinstance rfl TT.b_tuple (by decide +kernel) (me_name (i := 0) rfl (Or.inl rfl))) (me_one (me_cmp (op_eqD hr.r.units) p_eqP (me_callB call_len p_len rfl TT.b_len (by decide +kernel) (ma_cons (me_name (i := 0) rfl (Or.inl rfl)) ma_nil)) (me_name (i := 1) rfl (Or.inl rfl)) (nomark _))))))
def tb_wrong_place : Str → Option (List D → Res D) := fun q => if q = "is_name" then some f_is_name else none
theorem tab_wrong_place {P : Program} {w : World} {K : PySem.W.Frag} {mg : Str → Option Value} {base : Heap} {ca fa : Str → Addr} (TT : Txt K mg base ca fa) : ∀ q fm, tb_wrong_place q = some fm → ∃ a, (TX K ca fa).fn q = some a ∧ FnG P w K mg base 1 a [] (spF (TX K ca fa) 1 fm) ∧ PySem.W.keepIn K (.ref a) = true := by
  intro q fm h
  unfold tb_wrong_place at h
  split at h
  · rename_i e
    cases h
    subst e
    exact ⟨fa "is_name", fnq_is_name, ok_is_name TT, (TT.f_is_name.elim fun _ F => F.kp)⟩
  · cases h
def m_wrong_place : MM Fl := (seqM (ownM 2 (lszM nilM))
  (seqM (forSt (enumM (nameM 0)) (gTp (gCs (gN 3) (gCs (gN 4) gNl)))
  (seqM (ifM (orT (notT (truthM (lclM 1 tb_wrong_place (consM (nameM 4) nilM)))) (flatT (truthM (opM (inF false) (nameM 4) (nameM 2)))))
  (retM (nameM 3))
  passM)
  (appM 2 (nameM 4))))
  (retM (unM negD (constM (.int 1))))))
def f_wrong_place : List D → Res D := runFn m_wrong_place 5 "is_name"
theorem ok_wrong_place {P : Program} {w : World} {K : PySem.W.Frag} {mg : Str → Option Value} {base : Heap} {ca fa : Str → Addr} (TT : Txt K mg base ca fa) : FnG P w K mg base 2 (fa "wrong_place") [] (spFn (TX K ca fa) "is_name" f_wrong_place) := TT.f_wrong_place.elim fun fd F =>
  fn_Fn (k := 1) (T := TX K ca fa) F sc_wrong_place rfl (Fun.bind0 F fun _ _ _ _ _ _ us hl => match us, hl with | [_, _], _ => rfl) fun cdv A outer s H E hr =>
  (mss_cons (ms_own (i := 2) sc_wrong_place.nd rfl (Or.inl rfl) (mf_lst ma_nil))
  (mss_cons (ms_for (vs := [3, 4]) (passes_of rfl) rfl (mi_enum rfl rfl TT.b_enumerate (me_name (i := 0) rfl (Or.inl rfl))) (mg_tup rfl rfl (mgs_cons (mg_name (i := 3) sc_wrong_place.nd rfl (Or.inl rfl)) (mgs_cons (mg_name (i := 4) sc_wrong_place.nd rfl (Or.inl rfl)) mgs_nil)) (gCs_len (gCs_len gNl_len)))
  (mss_cons (ms_if (mt_w (mw_or (mt_not (mt_val (me_lcl (i := 1) (tab_wrong_place TT) (hr.mono (by decide)) rfl (Or.inl rfl) (takes_of rfl rfl rfl rfl) (ma_cons (me_name (i := 4) rfl (Or.inl rfl)) ma_nil) (consM_len nilM_len)))) (mw_or1 (mt_flat (mt_in rfl hr (me_name (i := 4) rfl (Or.inl rfl)) (me_name (i := 2) rfl (Or.inl rfl)))))))
  (mss_one (ms_ret (me_name (i := 3) rfl (Or.inl rfl))))
  mss_nil)
  (mss_one (ms_app (i := 2) rfl (Or.inl rfl) (me_name (i := 4) rfl (Or.inl rfl))))))
  (mss_one (ms_ret (me_neg me_int)))))
def m_ascending : MM Fl := (retM (unM ascD (frM (lcM (iterK (nameM 0)) [1] (gN 1) yesM (apM strF (consM (nameM 1) nilM))))))
def f_ascending : List D → Res D := runF m_ascending 2
theorem ok_ascending {P : Program} {w : World} {K : PySem.W.Frag} {mg : Str → Option Value} {base : Heap} {ca fa : Str → Addr} (TT : Txt K mg base ca fa) : FnG P w K mg base 1 (fa "ascending") [] (spF (TX K ca fa) 1 f_ascending) := TT.f_ascending.elim fun fd F =>
  fn_F (k := 0) (T := TX K ca fa) F sc_ascending (Fun.bind0 F fun _ _ _ _ _ _ us hl => match us, hl with | [_], _ => rfl) fun cdv A outer s H E hr =>
  (mss_one (ms_ret (me_asc rfl rfl rfl TT.b_sorted rfl TT.b_set (me_of_mf (mf_lc (own := [("name", 1)]) rfl sc_ascending.nd (mi_any rfl (me_name (i := 0) rfl (Or.inl rfl))) (blkOk_by (N := n_ascending) (sc := defScope s_ascending) (by decide +kernel)) (fun _ _ _ _ _ => (mg_name (i := 1) sc_ascending.nd rfl (Or.inl rfl))) (fun _ _ _ _ _ => mts_nil) (fun _ _ _ _ _ => (me_callTy call_strA p_str rfl TT.b_str (by decide +kernel) (ma_cons (me_name (i := 1) rfl (Or.inl rfl)) ma_nil))))))))
def m_is_part : MM Fl := (retM (andM (callM f_is_tuple_of (consM (nameM 0) (consM (constM (.int 2)) nilM))) (andM (callM f_is_name (consM (opM subF (nameM 0) (constM (.int 0))) nilM)) (andM (callM f_is_whole (consM (opM subF (nameM 0) (constM (.int 1))) nilM)) (opM gtD (opM subF (nameM 0) (constM (.int 1))) (constM (.int 0)))))))
def f_is_part : List D → Res D := runF m_is_part 1
theorem ok_is_part {P : Program} {w : World} {K : PySem.W.Frag} {mg : Str → Option Value} {base : Heap} {ca fa : Str → Addr} (TT : Txt K mg base ca fa) : FnG P w K mg base 2 (fa "is_part") [] (spF (TX K ca fa) 1 f_is_part) := TT.f_is_part.elim fun fd F =>
  fn_F (k := 1) (T := TX K ca fa) F sc_is_part (Fun.bind0 F fun _ _ _ _ _ _ us hl => match us, hl with | [_], _ => rfl) fun cdv A outer s H E hr =>
  (mss_one (ms_ret (me_and (me_call (ok_is_tuple_of TT) (hr.mono (by decide)) rfl TT.g_is_tuple_of (TT.f_is_tuple_of.elim fun _ F => F.kp) (takes_of rfl rfl rfl rfl) (ma_cons (me_name (i := 0) rfl (Or.inl rfl)) (ma_cons me_int ma_nil)) (consM_len (consM_len nilM_len))) (me_and (me_call (ok_is_name TT) (hr.mono (by decide)) rfl TT.g_is_name (TT.f_is_name.elim fun _ F => F.kp) (takes_of rfl rfl rfl rfl) (ma_cons (me_sub' rfl hr.u1 (me_name (i := 0) rfl (Or.inl rfl)) me_int) ma_nil) (consM_len nilM_len)) (me_and (me_call (ok_is_whole TT) (hr.mono (by decide)) rfl TT.g_is_whole (TT.f_is_whole.elim fun _ F => F.kp) (takes_of rfl rfl rfl rfl) (ma_cons (me_sub' rfl hr.u1 (me_name (i := 0) rfl (Or.inl rfl)) me_int) ma_nil) (consM_len nilM_len)) (me_one (me_cmp op_gt p_gt (me_sub' rfl hr.u1 (me_name (i := 0) rfl (Or.inl rfl)) me_int) me_int (nomark _))))))))
def m_counts_in : MM Fl := (seqM (ownDM 1)
  (seqM (forSt (enumM (nameM 0)) (gTp (gCs (gN 2) (gCs (gN 3) gNl)))
  (seqM (ifM (orT (notT (truthM (callM f_is_part (consM (nameM 3) nilM)))) (flatT (truthM (opM (inF false) (opM subF (nameM 3) (constM (.int 0))) (nameM 1)))))
  (raiseM "InvalidPairs" "index" (nameM 2))
  passM)
  (putM 1 (opM subF (nameM 3) (constM (.int 1))) (opM subF (nameM 3) (constM (.int 0))))))
  (lckM 1 (retM (nameM 1)))))
def f_counts_in : List D → Res D := runF m_counts_in 4
theorem ok_counts_in {P : Program} {w : World} {K : PySem.W.Frag} {mg : Str → Option Value} {base : Heap} {ca fa : Str → Addr} (TT : Txt K mg base ca fa) : FnG P w K mg base 3 (fa "counts_in") [] (spF (TX K ca fa) 1 f_counts_in) := TT.f_counts_in.elim fun fd F =>
  fn_F (k := 2) (T := TX K ca fa) F sc_counts_in (Fun.bind0 F fun _ _ _ _ _ _ us hl => match us, hl with | [_], _ => rfl) fun cdv A outer s H E hr =>
  (mss_cons (ms_ownD (i := 1) sc_counts_in.nd rfl (Or.inl rfl))
  (mss_cons (ms_for (vs := [2, 3]) (passes_of rfl) rfl (mi_enum rfl rfl TT.b_enumerate (me_name (i := 0) rfl (Or.inl rfl))) (mg_tup rfl rfl (mgs_cons (mg_name (i := 2) sc_counts_in.nd rfl (Or.inl rfl)) (mgs_cons (mg_name (i := 3) sc_counts_in.nd rfl (Or.inl rfl)) mgs_nil)) (gCs_len (gCs_len gNl_len)))
  (mss_cons (ms_if (mt_w (mw_or (mt_not (mt_val (me_call (ok_is_part TT) (hr.mono (by decide)) rfl TT.g_is_part (TT.f_is_part.elim fun _ F => F.kp) (takes_of rfl rfl rfl rfl) (ma_cons (me_name (i := 3) rfl (Or.inl rfl)) ma_nil) (consM_len nilM_len)))) (mw_or1 (mt_flat (mt_in rfl hr (me_sub' rfl hr.u1 (me_name (i := 3) rfl (Or.inl rfl)) me_int) (me_name (i := 1) rfl (Or.inl rfl)))))))
  (mss_one (ms_raise1 TT.ox_InvalidPairs TT.oi_InvalidPairs TT.ot_InvalidPairs TT.on_InvalidPairs (ok_InvalidPairsD_initD TT) (hr.mono (by decide)) rfl takes_none5 (takes_of rfl rfl rfl rfl) rfl rfl TT.gc_InvalidPairs (me_name (i := 2) rfl (Or.inl rfl))))
  mss_nil)
  (mss_one (ms_put (i := 1) hr.u1 rfl (Or.inl rfl) (me_sub' rfl hr.u1 (me_name (i := 3) rfl (Or.inl rfl)) me_int) (me_sub' rfl hr.u1 (me_name (i := 3) rfl (Or.inl rfl)) me_int)))))
  (mss_lck 1 (mss_one (ms_ret (me_name (i := 1) rfl (Or.inl rfl)))))))
def m_pairs_of : MM Fl := (retM (apM tupleF (consM (frM (lcM (iterK (callM f_ascending (consM (nameM 0) nilM))) [1] (gN 1) (truthM (opM nePD (opM subF (nameM 0) (nameM 1)) (constM (.int 0)))) (apM tupF (consM (nameM 1) (consM (opM subF (nameM 0) (nameM 1)) nilM))))) nilM)))
def f_pairs_of : List D → Res D := runF m_pairs_of 2
theorem ok_pairs_of {P : Program} {w : World} {K : PySem.W.Frag} {mg : Str → Option Value} {base : Heap} {ca fa : Str → Addr} (TT : Txt K mg base ca fa) : FnG P w K mg base 2 (fa "pairs_of") [] (spF (TX K ca fa) 1 f_pairs_of) := TT.f_pairs_of.elim fun fd F =>
  fn_F (k := 1) (T := TX K ca fa) F sc_pairs_of (Fun.bind0 F fun _ _ _ _ _ _ us hl => match us, hl with | [_], _ => rfl) fun cdv A outer s H E hr =>
  (mss_one (ms_ret (me_callTy call_tupleP p_tuple rfl TT.b_tuple (by decide +kernel) (ma_cons (me_of_mf (mf_lc (own := [("name", 1)]) rfl sc_pairs_of.nd (mi_any rfl (me_call (ok_ascending TT) (hr.mono (by decide)) rfl TT.g_ascending (TT.f_ascending.elim fun _ F => F.kp) (takes_of rfl rfl rfl rfl) (ma_cons (me_name (i := 0) rfl (Or.inr (Or.inl rfl))) ma_nil) (consM_len nilM_len))) (blkOk_by (N := n_pairs_of) (sc := defScope s_pairs_of) (by decide +kernel)) (fun _ _ _ _ _ => (mg_name (i := 1) sc_pairs_of.nd rfl (Or.inl rfl))) (fun _ _ _ _ _ => (mts_one (mt_cmp (op_neD hr.r.units) p_neP (me_sub' rfl hr.u1 (me_name (i := 0) rfl (Or.inr (Or.inl rfl))) (me_name (i := 1) rfl (Or.inl rfl))) me_int (nomark _)))) (fun _ _ _ _ _ => (me_tup (ma_cons (me_name (i := 1) rfl (Or.inl rfl)) (ma_cons (me_sub' rfl hr.u1 (me_name (i := 0) rfl (Or.inr (Or.inl rfl))) (me_name (i := 1) rfl (Or.inl rfl))) ma_nil)))))) ma_nil))))
def m_LoadD_initD : MM Fl := (seqM (setM 2 (callM f_counts_in (consM (nameM 1) nilM)))
  (seqM (oSetM flds 0 "pairs" (callM f_pairs_of (consM (nameM 2) nilM)))
  (seqM (oSetM flds 0 "names" (apM tupleF (consM (frM (lcM (iterK (oFldM flds 0 "pairs")) [3] (gN 3) yesM (opM subF (nameM 3) (constM (.int 0))))) nilM)))
  (oSetM flds 0 "size" (flatM (apM sumF (consM (frM (lcM (iterK (fldM flds "pairs" (nameM 0))) [3] (gN 3) yesM (opM subF (nameM 3) (constM (.int 1))))) nilM)))))))
def f_LoadD_initD : B → List D → Res (D × B) := runM m_LoadD_initD 4
theorem ok_LoadD_initD {P : Program} {w : World} {K : PySem.W.Frag} {mg : Str → Option Value} {base : Heap} {ca fa : Str → Addr} (TT : Txt K mg base ca fa) : FnG P w K mg base 4 (fa "Load.__init__") [] (spMS (TX K ca fa) f_LoadD_initD) := TT.f_LoadD_initD.elim fun fd F =>
  fn_I (k := 3) (T := TX K ca fa) F sc_LoadD_initD (Fun.bindS F (fun _ _ _ _ _ _ _ => rfl) (fun _ _ _ _ _ _ _ _ _ => rfl)) fun cdv A outer s H E hr =>
  (mss_cons (ms_set (i := 2) sc_LoadD_initD.nd rfl (Or.inl rfl) (me_call (ok_counts_in TT) (hr.mono (by decide)) rfl TT.g_counts_in (TT.f_counts_in.elim fun _ F => F.kp) (takes_of rfl rfl rfl rfl) (ma_cons (me_name (i := 1) rfl (Or.inl rfl)) ma_nil) (consM_len nilM_len)))
  (mss_cons (ms_oset (i := 0) rfl TT.cls TT.fld rfl (Or.inl rfl) (me_call (ok_pairs_of TT) (hr.mono (by decide)) rfl TT.g_pairs_of (TT.f_pairs_of.elim fun _ F => F.kp) (takes_of rfl rfl rfl rfl) (ma_cons (me_name (i := 2) rfl (Or.inl rfl)) ma_nil) (consM_len nilM_len)))
  (mss_cons (ms_oset (i := 0) rfl TT.cls TT.fld rfl (Or.inl rfl) (me_callTy call_tupleP p_tuple rfl TT.b_tuple (by decide +kernel) (ma_cons (me_of_mf (mf_lc (own := [("pair", 3)]) rfl sc_LoadD_initD.nd (mi_any rfl (me_ofld (i := 0) rfl TT.cls TT.fld rfl (Or.inl rfl))) (blkOk_by (N := n_LoadD_initD) (sc := defScope s_LoadD_initD) (by decide +kernel)) (fun _ _ _ _ _ => (mg_name (i := 3) sc_LoadD_initD.nd rfl (Or.inl rfl))) (fun _ _ _ _ _ => mts_nil) (fun _ _ _ _ _ => (me_sub' rfl hr.u1 (me_name (i := 3) rfl (Or.inl rfl)) me_int)))) ma_nil)))
  (mss_one (ms_oset (i := 0) rfl TT.cls TT.fld rfl (Or.inl rfl) (me_flat (me_callB (cr_sum rfl) p_sum rfl TT.b_sum (by decide +kernel) (ma_cons (me_of_mf (mf_lc (own := [("pair", 3)]) rfl sc_LoadD_initD.nd (mi_any rfl (me_fld rfl TT.cls TT.fld (me_name (i := 0) rfl (Or.inl rfl)))) (blkOk_by (N := n_LoadD_initD) (sc := defScope s_LoadD_initD) (by decide +kernel)) (fun _ _ _ _ _ => (mg_name (i := 3) sc_LoadD_initD.nd rfl (Or.inl rfl))) (fun _ _ _ _ _ => mts_nil) (fun _ _ _ _ _ => (me_sub' rfl hr.u1 (me_name (i := 3) rfl (Or.inl rfl)) me_int)))) ma_nil))))))))
def m_Load_of : MM Fl := (seqM (ifM (notT (truthM (isiM (isiB "tuple") (nameM 0))))
  (raiseM "InvalidPairs" "index" (constM .non))
  passM)
  (retM (makeS "Load" f_LoadD_initD (starM (nameM 0)))))
def f_Load_of : List D → Res D := runF m_Load_of 1
theorem ok_Load_of {P : Program} {w : World} {K : PySem.W.Frag} {mg : Str → Option Value} {base : Heap} {ca fa : Str → Addr} (TT : Txt K mg base ca fa) : FnG P w K mg base 6 (fa "Load.of") [] (spF (TX K ca fa) 1 f_Load_of) := TT.f_Load_of.elim fun fd F =>
  fn_F (k := 5) (T := TX K ca fa) F sc_Load_of (Fun.bind0 F fun _ _ _ _ _ _ us hl => match us, hl with | [_], _ => rfl) fun cdv A outer s H E hr =>
  (mss_cons (ms_if (mt_not (mt_val (me_isiB (b := "tuple") rfl TT.cls (by decide) rfl TT.b_isinstance rfl TT.b_tuple (by decide +kernel) (me_name (i := 0) rfl (Or.inl rfl)))))
  (mss_one (ms_raise1 TT.ox_InvalidPairs TT.oi_InvalidPairs TT.ot_InvalidPairs TT.on_InvalidPairs (ok_InvalidPairsD_initD TT) (hr.mono (by decide)) rfl takes_none5 (takes_of rfl rfl rfl rfl) rfl rfl TT.gc_InvalidPairs me_non))
  mss_nil)
  (mss_one (ms_ret (me_makeSt rfl TT.mk_Load (ok_LoadD_initD TT) (hr.mono (by decide)) rfl rfl TT.gc_Load (takes_of rfl rfl rfl rfl) (me_name (i := 0) rfl (Or.inl rfl))))))
def m_load_of : MM Fl := (seqM (setM 1 (callM f_pairs_of (consM (nameM 0) nilM)))
  (retM (makeS "Load" f_LoadD_initD (starM (nameM 1)))))
def f_load_of : List D → Res D := runF m_load_of 2
theorem ok_load_of {P : Program} {w : World} {K : PySem.W.Frag} {mg : Str → Option Value} {base : Heap} {ca fa : Str → Addr} (TT : Txt K mg base ca fa) : FnG P w K mg base 6 (fa "load_of") [] (spF (TX K ca fa) 1 f_load_of) := TT.f_load_of.elim fun fd F =>
  fn_F (k := 5) (T := TX K ca fa) F sc_load_of (Fun.bind0 F fun _ _ _ _ _ _ us hl => match us, hl with | [_], _ => rfl) fun cdv A outer s H E hr =>
  (mss_cons (ms_set (i := 1) sc_load_of.nd rfl (Or.inl rfl) (me_call (ok_pairs_of TT) (hr.mono (by decide)) rfl TT.g_pairs_of (TT.f_pairs_of.elim fun _ F => F.kp) (takes_of rfl rfl rfl rfl) (ma_cons (me_name (i := 0) rfl (Or.inl rfl)) ma_nil) (consM_len nilM_len)))
  (mss_one (ms_ret (me_makeSt rfl TT.mk_Load (ok_LoadD_initD TT) (hr.mono (by decide)) rfl rfl TT.gc_Load (takes_of rfl rfl rfl rfl) (me_name (i := 1) rfl (Or.inl rfl))))))
def m_with_both : MM Fl := (seqM (setM 2 (apM lstF (starEM (nameM 0) (starEM (frM (lcM (iterK (nameM 1)) [3] (gN 3) (truthM (opM (inF true) (nameM 3) (nameM 0))) (nameM 3))) nilM))))
  (retM (dcM (iterK (nameM 2)) [3] (gN 3) yesM (nameM 3) (opM addD (get2M (nameM 0) (nameM 3) (constM (.int 0))) (get2M (nameM 1) (nameM 3) (constM (.int 0)))))))
def f_with_both : List D → Res D := runF m_with_both 4
theorem ok_with_both {P : Program} {w : World} {K : PySem.W.Frag} {mg : Str → Option Value} {base : Heap} {ca fa : Str → Addr} (TT : Txt K mg base ca fa) : FnG P w K mg base 1 (fa "with_both") [] (spF (TX K ca fa) 2 f_with_both) := TT.f_with_both.elim fun fd F =>
  fn_F (k := 0) (T := TX K ca fa) F sc_with_both (Fun.bind0 F fun _ _ _ _ _ _ us hl => match us, hl with | [_, _], _ => rfl) fun cdv A outer s H E hr =>
  (mss_cons (ms_set (i := 2) sc_with_both.nd rfl (Or.inl rfl) (me_lst (ma_star rfl rfl (me_name (i := 0) rfl (Or.inr (Or.inl rfl))) (ma_star rfl rfl (me_of_mf (mf_lc (own := [("name", 3)]) rfl sc_with_both.nd (mi_any rfl (me_name (i := 1) rfl (Or.inr (Or.inl rfl)))) (blkOk_by (N := n_with_both) (sc := defScope s_with_both) (by decide +kernel)) (fun _ _ _ _ _ => (mg_name (i := 3) sc_with_both.nd rfl (Or.inl rfl))) (fun _ _ _ _ _ => (mts_one (mt_notin rfl hr (me_name (i := 3) rfl (Or.inl rfl)) (me_name (i := 0) rfl (Or.inr (Or.inl rfl)))))) (fun _ _ _ _ _ => (me_name (i := 3) rfl (Or.inl rfl))))) ma_nil))))
  (mss_one (ms_ret (me_dc (own := [("name", 3)]) rfl sc_with_both.nd (mi_any rfl (me_name (i := 2) rfl (Or.inl rfl))) (blkOk_by (N := n_with_both) (sc := defScope s_with_both) (by decide +kernel)) (fun _ _ _ _ _ => (mg_name (i := 3) sc_with_both.nd rfl (Or.inl rfl))) (fun _ _ _ _ _ => mts_nil) (fun _ _ _ _ _ => (me_name (i := 3) rfl (Or.inl rfl))) (fun _ _ _ _ _ => (me_add rfl (me_get2 hr.u1 (me_name (i := 0) rfl (Or.inr (Or.inl rfl))) (me_name (i := 3) rfl (Or.inl rfl)) me_int ⟨rfl, rfl, rfl, rfl⟩) (me_get2 hr.u1 (me_name (i := 1) rfl (Or.inr (Or.inl rfl))) (me_name (i := 3) rfl (Or.inl rfl)) me_int ⟨rfl, rfl, rfl, rfl⟩)))))))
def m_check_load : MM Fl := (ifM (notT (truthM (isiM (isiC "Load") (nameM 0))))
  (raiseM "NotALoad" "value" (nameM 0))
  passM)
def f_check_load : List D → Res D := runF m_check_load 1
theorem ok_check_load {P : Program} {w : World} {K : PySem.W.Frag} {mg : Str → Option Value} {base : Heap} {ca fa : Str → Addr} (TT : Txt K mg base ca fa) : FnG P w K mg base 3 (fa "check_load") [] (spF (TX K ca fa) 1 f_check_load) := TT.f_check_load.elim fun fd F =>
  fn_F (k := 2) (T := TX K ca fa) F sc_check_load (Fun.bind0 F fun _ _ _ _ _ _ us hl => match us, hl with | [_], _ => rfl) fun cdv A outer s H E hr =>
  (mss_one (ms_if (mt_not (mt_val (me_isiC rfl TT.cls rfl rfl TT.b_isinstance rfl TT.gc_Load (me_name (i := 0) rfl (Or.inl rfl)))))
  (mss_one (ms_raise1 TT.ox_NotALoad TT.oi_NotALoad TT.ot_NotALoad TT.on_NotALoad (ok_NotALoadD_initD TT) (hr.mono (by decide)) rfl takes_none5 (takes_of rfl rfl rfl rfl) rfl rfl TT.gc_NotALoad (me_name (i := 0) rfl (Or.inl rfl))))
  mss_nil))
def m_check_only : MM Fl := (forSt (iterK (fldM flds "names" (nameM 0))) (gN 2)
  (ifM (truthM (opM (inF true) (nameM 2) (nameM 1)))
  (raiseM "UnknownKind" "value" (nameM 2))
  passM))
def f_check_only : List D → Res D := runF m_check_only 3
theorem ok_check_only {P : Program} {w : World} {K : PySem.W.Frag} {mg : Str → Option Value} {base : Heap} {ca fa : Str → Addr} (TT : Txt K mg base ca fa) : FnG P w K mg base 3 (fa "check_only") [] (spF (TX K ca fa) 2 f_check_only) := TT.f_check_only.elim fun fd F =>
  fn_F (k := 2) (T := TX K ca fa) F sc_check_only (Fun.bind0 F fun _ _ _ _ _ _ us hl => match us, hl with | [_, _], _ => rfl) fun cdv A outer s H E hr =>
  (mss_one (ms_for (vs := [2]) (passes_of rfl) rfl (mi_any rfl (me_fld rfl TT.cls TT.fld (me_name (i := 0) rfl (Or.inl rfl)))) (mg_name (i := 2) sc_check_only.nd rfl (Or.inl rfl))
  (mss_one (ms_if (mt_notin rfl hr (me_name (i := 2) rfl (Or.inl rfl)) (me_name (i := 1) rfl (Or.inl rfl)))
  (mss_one (ms_raise1 TT.ox_UnknownKind TT.oi_UnknownKind TT.ot_UnknownKind TT.on_UnknownKind (ok_UnknownKindD_initD TT) (hr.mono (by decide)) rfl takes_none5 (takes_of rfl rfl rfl rfl) rfl rfl TT.gc_UnknownKind (me_name (i := 2) rfl (Or.inl rfl))))
  mss_nil))))
def m_LoadD_eqD : MM Fl := (retM (andM (isiM (isiC "Load") (nameM 1)) (opM eqPD (fldM flds "pairs" (nameM 0)) (fldM flds "pairs" (nameM 1)))))
def f_LoadD_eqD : List D → Res D := runF m_LoadD_eqD 2
theorem ok_LoadD_eqD {P : Program} {w : World} {K : PySem.W.Frag} {mg : Str → Option Value} {base : Heap} {ca fa : Str → Addr} (TT : Txt K mg base ca fa) : FnG P w K mg base 1 (fa "Load.__eq__") [] (spF (TX K ca fa) 2 f_LoadD_eqD) := TT.f_LoadD_eqD.elim fun fd F =>
  fn_F (k := 0) (T := TX K ca fa) F sc_LoadD_eqD (Fun.bind0 F fun _ _ _ _ _ _ us hl => match us, hl with | [_, _], _ => rfl) fun cdv A outer s H E hr =>
  (mss_one (ms_ret (me_and (me_isiC rfl TT.cls rfl rfl TT.b_isinstance rfl TT.gc_Load (me_name (i := 1) rfl (Or.inl rfl))) (me_one (me_cmp (op_eqD hr.r.units) p_eqP (me_fld rfl TT.cls TT.fld (me_name (i := 0) rfl (Or.inl rfl))) (me_fld rfl TT.cls TT.fld (me_name (i := 1) rfl (Or.inl rfl))) (nomark _))))))
def m_LoadD_addD : MM Fl := (seqM (exprM (callM f_check_load (consM (nameM 1) nilM)))
  (retM (callM f_load_of (consM (callM f_with_both (consM (dictM (fldM flds "pairs" (nameM 0))) (consM (dictM (fldM flds "pairs" (nameM 1))) nilM))) nilM))))
def f_LoadD_addD : List D → Res D := runF m_LoadD_addD 2
theorem ok_LoadD_addD {P : Program} {w : World} {K : PySem.W.Frag} {mg : Str → Option Value} {base : Heap} {ca fa : Str → Addr} (TT : Txt K mg base ca fa) : FnG P w K mg base 7 (fa "Load.__add__") [] (spF (TX K ca fa) 2 f_LoadD_addD) := TT.f_LoadD_addD.elim fun fd F =>
  fn_F (k := 6) (T := TX K ca fa) F sc_LoadD_addD (Fun.bind0 F fun _ _ _ _ _ _ us hl => match us, hl with | [_, _], _ => rfl) fun cdv A outer s H E hr =>
  (mss_cons (ms_expr (me_call (ok_check_load TT) (hr.mono (by decide)) rfl TT.g_check_load (TT.f_check_load.elim fun _ F => F.kp) (takes_of rfl rfl rfl rfl) (ma_cons (me_name (i := 1) rfl (Or.inl rfl)) ma_nil) (consM_len nilM_len)))
  (mss_one (ms_ret (me_call (ok_load_of TT) (hr.mono (by decide)) rfl TT.g_load_of (TT.f_load_of.elim fun _ F => F.kp) (takes_of rfl rfl rfl rfl) (ma_cons (me_call (ok_with_both TT) (hr.mono (by decide)) rfl TT.g_with_both (TT.f_with_both.elim fun _ F => F.kp) (takes_of rfl rfl rfl rfl) (ma_cons (me_dict rfl rfl rfl TT.b_dict (me_fld rfl TT.cls TT.fld (me_name (i := 0) rfl (Or.inl rfl)))) (ma_cons (me_dict rfl rfl rfl TT.b_dict (me_fld rfl TT.cls TT.fld (me_name (i := 1) rfl (Or.inl rfl)))) ma_nil)) (consM_len (consM_len nilM_len))) ma_nil) (consM_len nilM_len)))))
def m_check_kinds : MM Fl := (seqM (ifM (orT (notT (truthM (isiM (isiB "tuple") (nameM 0)))) (truthM (opM eqPD (nameM 0) (apM tupF nilM))))
  (raiseM "InvalidKinds" "index" (constM .non))
  passM)
  (seqM (setM 1 (callM f_wrong_place (consM (nameM 0) nilM)))
  (ifM (truthM (opM geD (nameM 1) (constM (.int 0))))
  (raiseM "InvalidKinds" "index" (nameM 1))
  passM)))
def f_check_kinds : List D → Res D := runF m_check_kinds 2
theorem ok_check_kinds {P : Program} {w : World} {K : PySem.W.Frag} {mg : Str → Option Value} {base : Heap} {ca fa : Str → Addr} (TT : Txt K mg base ca fa) : FnG P w K mg base 3 (fa "check_kinds") [] (spF (TX K ca fa) 1 f_check_kinds) := TT.f_check_kinds.elim fun fd F =>
  fn_F (k := 2) (T := TX K ca fa) F sc_check_kinds (Fun.bind0 F fun _ _ _ _ _ _ us hl => match us, hl with | [_], _ => rfl) fun cdv A outer s H E hr =>
  (mss_cons (ms_if (mt_w (mw_or (mt_not (mt_val (me_isiB (b := "tuple") rfl TT.cls (by decide) rfl TT.b_isinstance rfl TT.b_tuple (by decide +kernel) (me_name (i := 0) rfl (Or.inl rfl))))) (mw_or1 (mt_cmp (op_eqD hr.r.units) p_eqP (me_name (i := 0) rfl (Or.inl rfl)) (me_tup ma_nil) (nomark _)))))
  (mss_one (ms_raise1 TT.ox_InvalidKinds TT.oi_InvalidKinds TT.ot_InvalidKinds TT.on_InvalidKinds (ok_InvalidKindsD_initD TT) (hr.mono (by decide)) rfl takes_none5 (takes_of rfl rfl rfl rfl) rfl rfl TT.gc_InvalidKinds me_non))
  mss_nil)
  (mss_cons (ms_set (i := 1) sc_check_kinds.nd rfl (Or.inl rfl) (me_callFn (ok_wrong_place TT) (hr.mono (by decide)) rfl TT.g_wrong_place (TT.f_wrong_place.elim fun _ F => F.kp) (takes_of rfl rfl rfl rfl) (me_name (i := 0) rfl (Or.inl rfl)) rfl TT.g_is_name (fnq_is_name)))
  (mss_one (ms_if (mt_cmp op_ge p_ge (me_name (i := 1) rfl (Or.inl rfl)) me_int (nomark _))
  (mss_one (ms_raise1 TT.ox_InvalidKinds TT.oi_InvalidKinds TT.ot_InvalidKinds TT.on_InvalidKinds (ok_InvalidKindsD_initD TT) (hr.mono (by decide)) rfl takes_none5 (takes_of rfl rfl rfl rfl) rfl rfl TT.gc_InvalidKinds (me_name (i := 1) rfl (Or.inl rfl))))
  mss_nil))))
def m_rank_of : MM Fl := (seqM (setM 2 (dictM (fldM flds "pairs" (nameM 0))))
  (retM (apM tupF (consM (fldM flds "size" (nameM 0)) (starEM (frM (lcM (iterK (nameM 1)) [3] (gN 3) yesM (unM negD (get2M (nameM 2) (nameM 3) (constM (.int 0)))))) nilM)))))
def f_rank_of : List D → Res D := runF m_rank_of 4
theorem ok_rank_of {P : Program} {w : World} {K : PySem.W.Frag} {mg : Str → Option Value} {base : Heap} {ca fa : Str → Addr} (TT : Txt K mg base ca fa) : FnG P w K mg base 1 (fa "rank_of") [] (spF (TX K ca fa) 2 f_rank_of) := TT.f_rank_of.elim fun fd F =>
  fn_F (k := 0) (T := TX K ca fa) F sc_rank_of (Fun.bind0 F fun _ _ _ _ _ _ us hl => match us, hl with | [_, _], _ => rfl) fun cdv A outer s H E hr =>
  (mss_cons (ms_set (i := 2) sc_rank_of.nd rfl (Or.inr rfl) (me_dict rfl rfl rfl TT.b_dict (me_fld rfl TT.cls TT.fld (me_name (i := 0) rfl (Or.inl rfl)))))
  (mss_one (ms_ret (me_tup (ma_cons (me_fld rfl TT.cls TT.fld (me_name (i := 0) rfl (Or.inl rfl))) (ma_star rfl rfl (me_of_mf (mf_lc (own := [("kind", 3)]) rfl sc_rank_of.nd (mi_any rfl (me_name (i := 1) rfl (Or.inl rfl))) (blkOk_by (N := n_rank_of) (sc := defScope s_rank_of) (by decide +kernel)) (fun _ _ _ _ _ => (mg_name (i := 3) sc_rank_of.nd rfl (Or.inl rfl))) (fun _ _ _ _ _ => mts_nil) (fun _ _ _ _ _ => (me_neg (me_get2 hr.u1 (me_name (i := 2) rfl (Or.inr (Or.inl rfl))) (me_name (i := 3) rfl (Or.inl rfl)) me_int ⟨rfl, rfl, rfl, rfl⟩))))) ma_nil))))))
def m_compare : MM Fl := (seqM (exprM (callM f_check_load (consM (nameM 0) nilM)))
  (seqM (exprM (callM f_check_load (consM (nameM 1) nilM)))
  (seqM (exprM (callM f_check_kinds (consM (nameM 2) nilM)))
  (seqM (exprM (callM f_check_only (consM (nameM 0) (consM (nameM 2) nilM))))
  (seqM (exprM (callM f_check_only (consM (nameM 1) (consM (nameM 2) nilM))))
  (seqM (parN [3, 4] (daN (callM f_rank_of (consM (nameM 0) (consM (nameM 2) nilM))) (daN (callM f_rank_of (consM (nameM 1) (consM (nameM 2) nilM))) nilN)))
  (seqM (ifM (truthM (opM eqPD (nameM 3) (nameM 4)))
  (retM (constM (.int 0)))
  passM)
  (retM (iteM (truthM (opM ltL (nameM 3) (nameM 4))) (unM negD (constM (.int 1))) (constM (.int 1)))))))))))
def f_compare : List D → Res D := runF m_compare 5
theorem bd_compare {P : Program} {w : World} {K : PySem.W.Frag} {mg : Str → Option Value} {base : Heap} {ca fa : Str → Addr} (TT : Txt K mg base ca fa) : ∀ (cdv : Value) (A : Around) (outer : List Env) (s : Shared) (H : Hp) (E : XK), Rm 3 (A.deeper (PyProof.Rows.envOfC "compare" (defScope s_compare) s.heap.objs.size (fa "compare") cdv)) → MSs (cxOf (L2.CX P w) P w K mg base n_compare "compare" (defScope s_compare) (fa "compare") cdv A outer s H E) (TX K ca fa) (wE E) (defBody s_compare) m_compare := fun cdv A outer s H E hr =>
  (mss_cons (ms_expr (me_call (ok_check_load TT) (hr.mono (by decide)) rfl TT.g_check_load (TT.f_check_load.elim fun _ F => F.kp) (takes_of rfl rfl rfl rfl) (ma_cons (me_name (i := 0) rfl (Or.inl rfl)) ma_nil) (consM_len nilM_len)))
  (mss_cons (ms_expr (me_call (ok_check_load TT) (hr.mono (by decide)) rfl TT.g_check_load (TT.f_check_load.elim fun _ F => F.kp) (takes_of rfl rfl rfl rfl) (ma_cons (me_name (i := 1) rfl (Or.inl rfl)) ma_nil) (consM_len nilM_len)))
  (mss_cons (ms_expr (me_call (ok_check_kinds TT) (hr.mono (by decide)) rfl TT.g_check_kinds (TT.f_check_kinds.elim fun _ F => F.kp) (takes_of rfl rfl rfl rfl) (ma_cons (me_name (i := 2) rfl (Or.inl rfl)) ma_nil) (consM_len nilM_len)))
  (mss_cons (ms_expr (me_call (ok_check_only TT) (hr.mono (by decide)) rfl TT.g_check_only (TT.f_check_only.elim fun _ F => F.kp) (takes_of rfl rfl rfl rfl) (ma_cons (me_name (i := 0) rfl (Or.inl rfl)) (ma_cons (me_name (i := 2) rfl (Or.inl rfl)) ma_nil)) (consM_len (consM_len nilM_len))))
  (mss_cons (ms_expr (me_call (ok_check_only TT) (hr.mono (by decide)) rfl TT.g_check_only (TT.f_check_only.elim fun _ F => F.kp) (takes_of rfl rfl rfl rfl) (ma_cons (me_name (i := 1) rfl (Or.inl rfl)) (ma_cons (me_name (i := 2) rfl (Or.inl rfl)) ma_nil)) (consM_len (consM_len nilM_len))))
  (mss_cons (ms_par2N (i := 3) (j := 4) rfl sc_compare.nd rfl rfl (by decide) rfl rfl (mn_da (me_call (ok_rank_of TT) (hr.mono (by decide)) rfl TT.g_rank_of (TT.f_rank_of.elim fun _ F => F.kp) (takes_of rfl rfl rfl rfl) (ma_cons (me_name (i := 0) rfl (Or.inl rfl)) (ma_cons (me_name (i := 2) rfl (Or.inl rfl)) ma_nil)) (consM_len (consM_len nilM_len))) (mn_da (me_call (ok_rank_of TT) (hr.mono (by decide)) rfl TT.g_rank_of (TT.f_rank_of.elim fun _ F => F.kp) (takes_of rfl rfl rfl rfl) (ma_cons (me_name (i := 1) rfl (Or.inl rfl)) (ma_cons (me_name (i := 2) rfl (Or.inl rfl)) ma_nil)) (consM_len (consM_len nilM_len))) mn_nil)) (by rfl))
  (mss_cons (ms_if (mt_cmp (op_eqD hr.r.units) p_eqP (me_name (i := 3) rfl (Or.inl rfl)) (me_name (i := 4) rfl (Or.inl rfl)) (nomark _))
  (mss_one (ms_ret me_int))
  mss_nil)
  (mss_one (ms_ret (me_ifExp (mt_ltL rfl hr (me_name (i := 3) rfl (Or.inl rfl)) (me_name (i := 4) rfl (Or.inl rfl))) (me_neg me_int) me_int))))))))))
theorem ok_compare {P : Program} {w : World} {K : PySem.W.Frag} {mg : Str → Option Value} {base : Heap} {ca fa : Str → Addr} (TT : Txt K mg base ca fa) : FnG P w K mg base 4 (fa "compare") [] (spF (TX K ca fa) 3 f_compare) := TT.f_compare.elim fun fd F =>
  fn_F (k := 3) (T := TX K ca fa) F sc_compare (Fun.bind0 F fun _ _ _ _ _ _ us hl => match us, hl with | [_, _, _], _ => rfl) (bd_compare TT)
theorem okK0_compare {P : Program} {w : World} {K : PySem.W.Frag} {mg : Str → Option Value} {base : Heap} {ca fa : Str → Addr} (TT : Txt K mg base ca fa) : FnG P w K mg base 4 (fa "compare") ["kinds"] (spK (TX K ca fa) 3 (perm [0, 1, 2]) f_compare) := TT.f_compare.elim fun fd F =>
  fn_FK (k := 3) (T := TX K ca fa) [0, 1, 2] 2 F sc_compare (Fun.bindK F fun _ _ _ _ _ _ us ws h1 h2 => match us, ws, h1, h2 with | [_, _], [_], _, _ => rfl) rfl rfl (bd_compare TT)
theorem okK1_compare {P : Program} {w : World} {K : PySem.W.Frag} {mg : Str → Option Value} {base : Heap} {ca fa : Str → Addr} (TT : Txt K mg base ca fa) : FnG P w K mg base 4 (fa "compare") ["kinds", "other", "one"] (spK (TX K ca fa) 3 (perm [2, 1, 0]) f_compare) := TT.f_compare.elim fun fd F =>
  fn_FK (k := 3) (T := TX K ca fa) [2, 1, 0] 0 F sc_compare (Fun.bindK F fun _ _ _ _ _ _ us ws h1 h2 => match us, ws, h1, h2 with | [], [_, _, _], _, _ => rfl) rfl rfl (bd_compare TT)
def m_x_law_source : MM Fl := (seqM (setM 2 (iteM (truthM (opM ltD (nameM 1) (apM lenF (consM (nameM 0) nilM)))) (apM intF (consM (opM subF (nameM 0) (nameM 1)) nilM)) (constM (.int 0))))
  (seqM (setM 3 (opM addD (constM (.int 1009)) (opM mulD (constM (.int 97)) (nameM 1))))
  (seqM (forSt (iterK (nameM 0)) (gN 4)
  (seqM (setM 5 (opM modD (apM intF (consM (nameM 4) nilM)) (constM (.int 1000003))))
  (setM 3 (opM modD (apM intF (consM (opM addD (opM addD (opM mulD (nameM 3) (constM (.int 8191))) (opM mulD (nameM 5) (constM (.int 131)))) (nameM 1)) nilM)) (constM (.int 2147483587))))))
  (seqM (ifM (truthM (opM ltD (nameM 1) (apM lenF (consM (nameM 0) nilM))))
  (seqM (setM 5 (opM modD (apM intF (consM (nameM 2) nilM)) (constM (.int 2147483587))))
  (setM 3 (opM modD (apM intF (consM (opM addD (nameM 3) (opM mulD (nameM 5) (constM (.int 31)))) nilM)) (constM (.int 2147483587)))))
  passM)
  (retF (lszM (consM (iteM (orT (truthM (opM ltD (nameM 2) (constM (.int 0)))) (truthM (opM geD (nameM 2) (opM powD (constM (.int 10)) (constM (.int 18)))))) (apM absF (consM (nameM 2) nilM)) (constM (.int 0))) (consM (nameM 3) (consM (constM (.int 0)) nilM)))))))))
def f_x_law_source : List D → Res (List D) := runR m_x_law_source 6
theorem ok_x_law_source {P : Program} {w : World} {K : PySem.W.Frag} {mg : Str → Option Value} {base : Heap} {ca fa : Str → Addr} (TT : Txt K mg base ca fa) : FnG P w K mg base 1 (fa "_law_source") [] (spR (TX K ca fa) 2 f_x_law_source) := TT.f_x_law_source.elim fun fd F =>
  fn_R (k := 0) (T := TX K ca fa) F sc_x_law_source (Fun.bind0 F fun _ _ _ _ _ _ us hl => match us, hl with | [_, _], _ => rfl) fun cdv A outer s H E hr =>
  (mss_cons (ms_set (i := 2) sc_x_law_source.nd rfl (Or.inl rfl) (me_ifExp (mt_cmp op_lt p_lt (me_name (i := 1) rfl (Or.inl rfl)) (me_callB call_len p_len rfl TT.b_len (by decide +kernel) (ma_cons (me_name (i := 0) rfl (Or.inl rfl)) ma_nil)) (nomark _)) (me_callTy call_int1 p_int rfl TT.b_int (by decide +kernel) (ma_cons (me_sub' rfl hr.u1 (me_name (i := 0) rfl (Or.inl rfl)) (me_name (i := 1) rfl (Or.inl rfl))) ma_nil)) me_int))
  (mss_cons (ms_set (i := 3) sc_x_law_source.nd rfl (Or.inl rfl) (me_add rfl me_int (me_mul me_int (me_name (i := 1) rfl (Or.inl rfl)))))
  (mss_cons (ms_for (vs := [4]) (passes_of rfl) rfl (mi_any rfl (me_name (i := 0) rfl (Or.inl rfl))) (mg_name (i := 4) sc_x_law_source.nd rfl (Or.inl rfl))
  (mss_cons (ms_set (i := 5) sc_x_law_source.nd rfl (Or.inl rfl) (me_mod (me_callTy call_int1 p_int rfl TT.b_int (by decide +kernel) (ma_cons (me_name (i := 4) rfl (Or.inl rfl)) ma_nil)) me_int))
  (mss_one (ms_set (i := 3) sc_x_law_source.nd rfl (Or.inl rfl) (me_mod (me_callTy call_int1 p_int rfl TT.b_int (by decide +kernel) (ma_cons (me_add rfl (me_add rfl (me_mul (me_name (i := 3) rfl (Or.inl rfl)) me_int) (me_mul (me_name (i := 5) rfl (Or.inl rfl)) me_int)) (me_name (i := 1) rfl (Or.inl rfl))) ma_nil)) me_int)))))
  (mss_cons (ms_if (mt_cmp op_lt p_lt (me_name (i := 1) rfl (Or.inl rfl)) (me_callB call_len p_len rfl TT.b_len (by decide +kernel) (ma_cons (me_name (i := 0) rfl (Or.inl rfl)) ma_nil)) (nomark _))
  (mss_cons (ms_set (i := 5) sc_x_law_source.nd rfl (Or.inl rfl) (me_mod (me_callTy call_int1 p_int rfl TT.b_int (by decide +kernel) (ma_cons (me_name (i := 2) rfl (Or.inl rfl)) ma_nil)) me_int))
  (mss_one (ms_set (i := 3) sc_x_law_source.nd rfl (Or.inl rfl) (me_mod (me_callTy call_int1 p_int rfl TT.b_int (by decide +kernel) (ma_cons (me_add rfl (me_name (i := 3) rfl (Or.inl rfl)) (me_mul (me_name (i := 5) rfl (Or.inl rfl)) me_int)) ma_nil)) me_int))))
  mss_nil)
  (mss_one (ms_retF (mf_lst (ma_cons (me_ifExp (mt_w (mw_or (mt_cmp op_lt p_lt (me_name (i := 2) rfl (Or.inl rfl)) me_int (nomark _)) (mw_or1 (mt_cmp op_ge p_ge (me_name (i := 2) rfl (Or.inl rfl)) (me_pow me_int me_int) (nomark _))))) (me_callB call_abs p_abs rfl TT.b_abs (by decide +kernel) (ma_cons (me_name (i := 2) rfl (Or.inl rfl)) ma_nil)) me_int) (ma_cons (me_name (i := 3) rfl (Or.inl rfl)) (ma_cons me_int ma_nil))))))))))
def m_x_law_pull : MM Fl := (seqM (setLM 0 (opM addD (flatM (opM subF (nameM 0) (constM (.int 2)))) (constM (.int 1))) (constM (.int 2)))
  (seqM (ifM (flatT (truthM (opM gtD (opM subF (nameM 0) (constM (.int 0))) (constM (.int 0)))))
  (seqM (setM 2 (opM modD (apM intF (consM (flatM (opM subF (nameM 0) (constM (.int 0)))) nilM)) (nameM 1)))
  (seqM (setLM 0 (opM fdivD (apM intF (consM (flatM (opM subF (nameM 0) (constM (.int 0)))) nilM)) (nameM 1)) (constM (.int 0)))
  (retM (nameM 2))))
  passM)
  (seqM (parN [3, 4] (daN (apM intF (consM (flatM (opM subF (nameM 0) (constM (.int 1)))) nilM)) (daN (apM intF (consM (flatM (opM subF (nameM 0) (constM (.int 2)))) nilM)) nilN)))
  (seqM (setM 3 (opM modD (apM intF (consM (opM addD (opM addD (opM mulD (nameM 3) (opM addD (opM addD (nameM 3) (constM (.int 40009))) (nameM 4))) (opM mulD (constM (.int 524287)) (nameM 4))) (constM (.int 7))) nilM)) (constM (.int 2147483587))))
  (seqM (setLM 0 (nameM 3) (constM (.int 1)))
  (retM (opM modD (apM intF (consM (opM fdivD (nameM 3) (constM (.int 1021))) nilM)) (nameM 1))))))))
def f_x_law_pull : B → List D → Res (D × B) := runM m_x_law_pull 5
theorem ok_x_law_pull {P : Program} {w : World} {K : PySem.W.Frag} {mg : Str → Option Value} {base : Heap} {ca fa : Str → Addr} (TT : Txt K mg base ca fa) : FnG P w K mg base 1 (fa "_law_pull") [] (spM (TX K ca fa) 2 f_x_law_pull) := TT.f_x_law_pull.elim fun fd F =>
  fn_M (k := 0) (T := TX K ca fa) F sc_x_law_pull (Fun.bind0 F fun _ _ _ _ _ _ us hl => match us, hl with | [_, _], _ => rfl) fun cdv A outer s H E hr =>
  (mss_cons (ms_setL (i := 0) rfl (Or.inl rfl) (me_add rfl (me_flat (me_sub' rfl hr.u1 (me_name (i := 0) rfl (Or.inl rfl)) me_int)) me_int) me_int)
  (mss_cons (ms_if (mt_flat (mt_cmp op_gt p_gt (me_sub' rfl hr.u1 (me_name (i := 0) rfl (Or.inl rfl)) me_int) me_int (nomark _)))
  (mss_cons (ms_set (i := 2) sc_x_law_pull.nd rfl (Or.inl rfl) (me_mod (me_callTy call_int1 p_int rfl TT.b_int (by decide +kernel) (ma_cons (me_flat (me_sub' rfl hr.u1 (me_name (i := 0) rfl (Or.inl rfl)) me_int)) ma_nil)) (me_name (i := 1) rfl (Or.inl rfl))))
  (mss_cons (ms_setL (i := 0) rfl (Or.inl rfl) (me_fdiv (me_callTy call_int1 p_int rfl TT.b_int (by decide +kernel) (ma_cons (me_flat (me_sub' rfl hr.u1 (me_name (i := 0) rfl (Or.inl rfl)) me_int)) ma_nil)) (me_name (i := 1) rfl (Or.inl rfl))) me_int)
  (mss_one (ms_ret (me_name (i := 2) rfl (Or.inl rfl))))))
  mss_nil)
  (mss_cons (ms_par2N (i := 3) (j := 4) rfl sc_x_law_pull.nd rfl rfl (by decide) rfl rfl (mn_da (me_callTy call_int1 p_int rfl TT.b_int (by decide +kernel) (ma_cons (me_flat (me_sub' rfl hr.u1 (me_name (i := 0) rfl (Or.inl rfl)) me_int)) ma_nil)) (mn_da (me_callTy call_int1 p_int rfl TT.b_int (by decide +kernel) (ma_cons (me_flat (me_sub' rfl hr.u1 (me_name (i := 0) rfl (Or.inl rfl)) me_int)) ma_nil)) mn_nil)) (by rfl))
  (mss_cons (ms_set (i := 3) sc_x_law_pull.nd rfl (Or.inl rfl) (me_mod (me_callTy call_int1 p_int rfl TT.b_int (by decide +kernel) (ma_cons (me_add rfl (me_add rfl (me_mul (me_name (i := 3) rfl (Or.inl rfl)) (me_add rfl (me_add rfl (me_name (i := 3) rfl (Or.inl rfl)) me_int) (me_name (i := 4) rfl (Or.inl rfl)))) (me_mul me_int (me_name (i := 4) rfl (Or.inl rfl)))) me_int) ma_nil)) me_int))
  (mss_cons (ms_setL (i := 0) rfl (Or.inl rfl) (me_name (i := 3) rfl (Or.inl rfl)) me_int)
  (mss_one (ms_ret (me_mod (me_callTy call_int1 p_int rfl TT.b_int (by decide +kernel) (ma_cons (me_fdiv (me_name (i := 3) rfl (Or.inl rfl)) me_int) ma_nil)) (me_name (i := 1) rfl (Or.inl rfl))))))))))
def m_x_law_tags : MM Fl := (seqM (parN [2, 3] (daN (constM (.str "abcdefghijklmnopqrstuvwxyz")) (daN (constM (.str "abcdefghijklmnopqrstuvwxyz0123456789")) nilN)))
  (seqM (setM 4 (opM addD (apM lstF (consM (opM subF (nameM 2) (callO f_x_law_pull 0 (consM (constM (.int 26)) nilM))) nilM)) (frM (lcM (itM rngF1 (consM (callO f_x_law_pull 0 (consM (constM (.int 3)) nilM)) nilM)) [8] (gN 8) yesM (opM subF (nameM 3) (callO f_x_law_pull 0 (consM (constM (.int 36)) nilM)))))))
  (seqM (parN [5, 6, 7] (daN (callO f_x_law_pull 0 (consM (apM lenF (consM (nameM 4) nilM)) nilM)) (daN (callO f_x_law_pull 0 (consM (constM (.int 26)) nilM)) (flN (lszM nilM) nilN))))
  (seqM (forSt (itM rngF1 (consM (nameM 1) nilM)) (gN 8)
  (seqM (ownM 9 (listFM (consM (nameM 4) nilM)))
  (seqM (setLM 9 (opM subF (nameM 2) (opM modD (apM intF (consM (opM addD (nameM 6) (opM mulD (constM (.int 7)) (nameM 8))) nilM)) (constM (.int 26)))) (nameM 5))
  (appM 7 (flatM (bmM "str" joinB (constM (.str "")) (consM (nameM 9) nilM)))))))
  (frzM 7 (seqM (parN [10, 11] (daN (apM lstF (consM (constM (.str "and")) (consM (constM (.str "sends")) (consM (constM (.str "takes")) nilM)))) (daN (slM (nameM 7) (soM (constM (.int 3))) noM) nilN)))
  (seqM (ifM (andT (truthM (opM eqPD (callO f_x_law_pull 0 (consM (constM (.int 6)) nilM)) (constM (.int 0)))) (notT (truthM (apM anyF (consM (frM (lcM (iterK (nameM 10)) [12] (gN 12) yesM (opM (inF false) (nameM 12) (nameM 11)))) nilM)))))
  (ownM 7 (catFM (frM (lcM (itM rngF1 (consM (apM min2F (consM (constM (.int 3)) (consM (nameM 1) nilM))) nilM)) [8] (gN 8) yesM (opM subF (nameM 10) (opM modD (apM intF (consM (opM addD (nameM 6) (nameM 8)) nilM)) (constM (.int 3)))))) (nameM 11)))
  passM)
  (frzM 7 (retM (nameM 7))))))))))
def f_x_law_tags : B → List D → Res (D × B) := runM m_x_law_tags 13
theorem ok_x_law_tags {P : Program} {w : World} {K : PySem.W.Frag} {mg : Str → Option Value} {base : Heap} {ca fa : Str → Addr} (TT : Txt K mg base ca fa) : FnG P w K mg base 2 (fa "_law_tags") [] (spM (TX K ca fa) 2 f_x_law_tags) := TT.f_x_law_tags.elim fun fd F =>
  fn_M (k := 1) (T := TX K ca fa) F sc_x_law_tags (Fun.bind0 F fun _ _ _ _ _ _ us hl => match us, hl with | [_, _], _ => rfl) fun cdv A outer s H E hr =>
  (mss_cons (ms_parT rfl rfl (mn_da me_str (mn_da me_str mn_nil)) (GNs.cons (i := 2) sc_x_law_tags.nd rfl (Or.inl rfl) (by first | exact .inl rfl | exact .inr rfl) (by rfl) (GNs.cons (i := 3) sc_x_law_tags.nd rfl (Or.inr rfl) (by first | exact .inl rfl | exact .inr rfl) (by rfl) GNs.nil)))
  (mss_cons (ms_set (i := 4) sc_x_law_tags.nd rfl (Or.inl rfl) (me_add rfl (me_lst (ma_cons (me_sub' rfl hr.u1 (me_name (i := 2) rfl (Or.inl rfl)) (me_callO (ok_x_law_pull TT) (hr.mono (by decide)) rfl TT.g_x_law_pull (TT.f_x_law_pull.elim fun _ F => F.kp) (takes_of rfl rfl rfl rfl) (i := 0) rfl (Or.inr (Or.inl rfl)) (ma_cons me_int ma_nil) (consM_len nilM_len))) ma_nil)) (me_of_mf (mf_lc (own := [("_law_k", 8)]) rfl sc_x_law_tags.nd (mi_rng1 rfl TT.b_range (ma_cons (me_callO (ok_x_law_pull TT) (hr.mono (by decide)) rfl TT.g_x_law_pull (TT.f_x_law_pull.elim fun _ F => F.kp) (takes_of rfl rfl rfl rfl) (i := 0) rfl (Or.inr (Or.inl rfl)) (ma_cons me_int ma_nil) (consM_len nilM_len)) ma_nil)) (blkOk_by (N := n_x_law_tags) (sc := defScope s_x_law_tags) (by decide +kernel)) (fun _ _ _ _ _ => (mg_name (i := 8) sc_x_law_tags.nd rfl (Or.inl rfl))) (fun _ _ _ _ _ => mts_nil) (fun _ _ _ _ _ => (me_sub' rfl hr.u1 (me_name (i := 3) rfl (Or.inr (Or.inl rfl))) (me_callO (ok_x_law_pull TT) (hr.mono (by decide)) rfl TT.g_x_law_pull (TT.f_x_law_pull.elim fun _ F => F.kp) takes0 (i := 0) rfl (Or.inr (Or.inl rfl)) (ma_cons me_int ma_nil) (consM_len nilM_len))))))))
  (mss_cons (ms_parT rfl rfl (mn_da (me_callO (ok_x_law_pull TT) (hr.mono (by decide)) rfl TT.g_x_law_pull (TT.f_x_law_pull.elim fun _ F => F.kp) (takes_of rfl rfl rfl rfl) (i := 0) rfl (Or.inr (Or.inl rfl)) (ma_cons (me_callB call_len p_len rfl TT.b_len (by decide +kernel) (ma_cons (me_name (i := 4) rfl (Or.inl rfl)) ma_nil)) ma_nil) (consM_len nilM_len)) (mn_da (me_callO (ok_x_law_pull TT) (hr.mono (by decide)) rfl TT.g_x_law_pull (TT.f_x_law_pull.elim fun _ F => F.kp) (takes_of rfl rfl rfl rfl) (i := 0) rfl (Or.inr (Or.inl rfl)) (ma_cons me_int ma_nil) (consM_len nilM_len)) (mn_fl (mf_lst ma_nil) mn_nil))) (GNs.cons (i := 5) sc_x_law_tags.nd rfl (Or.inl rfl) (by first | exact .inl rfl | exact .inr rfl) (by rfl) (GNs.cons (i := 6) sc_x_law_tags.nd rfl (Or.inr rfl) (by first | exact .inl rfl | exact .inr rfl) (by rfl) (GNs.cons (i := 7) sc_x_law_tags.nd rfl (Or.inl rfl) (by first | exact .inl rfl | exact .inr rfl) (by rfl) GNs.nil))))
  (mss_cons (ms_for (vs := [8]) (passes_of rfl) rfl (mi_rng1 rfl TT.b_range (ma_cons (me_name (i := 1) rfl (Or.inl rfl)) ma_nil)) (mg_name (i := 8) sc_x_law_tags.nd rfl (Or.inl rfl))
  (mss_cons (ms_own (i := 9) sc_x_law_tags.nd rfl (Or.inl rfl) (mf_list rfl rfl TT.b_list (ma_cons (me_name (i := 4) rfl (Or.inl rfl)) ma_nil)))
  (mss_cons (ms_setL (i := 9) rfl (Or.inl rfl) (me_sub' rfl hr.u1 (me_name (i := 2) rfl (Or.inl rfl)) (me_mod (me_callTy call_int1 p_int rfl TT.b_int (by decide +kernel) (ma_cons (me_add rfl (me_name (i := 6) rfl (Or.inr (Or.inl rfl))) (me_mul me_int (me_name (i := 8) rfl (Or.inl rfl)))) ma_nil)) me_int)) (me_name (i := 5) rfl (Or.inl rfl)))
  (mss_one (ms_app (i := 7) rfl (Or.inl rfl) (me_flat (me_bm rfl PySem.F.plainAttrs_str PySem.F.slot_str_join ty_join mt_join p_join me_str (ma_cons (me_name (i := 9) rfl (Or.inl rfl)) ma_nil))))))))
  (mss_frz 7 (mss_cons (ms_parT rfl rfl (mn_da (me_lst (ma_cons me_str (ma_cons me_str (ma_cons me_str ma_nil)))) (mn_da (me_slice rfl (me_name (i := 7) rfl (Or.inl rfl)) (mo_some me_int) mo_none) mn_nil)) (GNs.cons (i := 10) sc_x_law_tags.nd rfl (Or.inr rfl) (by first | exact .inl rfl | exact .inr rfl) (by rfl) (GNs.cons (i := 11) sc_x_law_tags.nd rfl (Or.inr rfl) (by first | exact .inl rfl | exact .inr rfl) (by rfl) GNs.nil)))
  (mss_cons (ms_if (mt_w (mw_and (mt_cmp (op_eqD hr.r.units) p_eqP (me_callO (ok_x_law_pull TT) (hr.mono (by decide)) rfl TT.g_x_law_pull (TT.f_x_law_pull.elim fun _ F => F.kp) (takes_of rfl rfl rfl rfl) (i := 0) rfl (Or.inr (Or.inl rfl)) (ma_cons me_int ma_nil) (consM_len nilM_len)) me_int (nomark _)) (mw_and1 (mt_not (mt_val (me_callB (cr_any rfl) p_any rfl TT.b_any (by decide +kernel) (ma_cons (me_of_mf (mf_lc (own := [("_law_word", 12)]) rfl sc_x_law_tags.nd (mi_any rfl (me_name (i := 10) rfl (Or.inr (Or.inl rfl)))) (blkOk_by (N := n_x_law_tags) (sc := defScope s_x_law_tags) (by decide +kernel)) (fun _ _ _ _ _ => (mg_name (i := 12) sc_x_law_tags.nd rfl (Or.inl rfl))) (fun _ _ _ _ _ => mts_nil) (fun _ _ _ _ _ => (me_in rfl hr (me_name (i := 12) rfl (Or.inl rfl)) (me_name (i := 11) rfl (Or.inr (Or.inl rfl))))))) ma_nil)))))))
  (mss_one (ms_own (i := 7) sc_x_law_tags.nd rfl (Or.inl rfl) (mf_cat (me_of_mf (mf_lc (own := [("_law_k", 8)]) rfl sc_x_law_tags.nd (mi_rng1 rfl TT.b_range (ma_cons (me_callB (call_min2 rfl) p_min2 rfl TT.b_min (by decide +kernel) (ma_cons me_int (ma_cons (me_name (i := 1) rfl (Or.inl rfl)) ma_nil))) ma_nil)) (blkOk_by (N := n_x_law_tags) (sc := defScope s_x_law_tags) (by decide +kernel)) (fun _ _ _ _ _ => (mg_name (i := 8) sc_x_law_tags.nd rfl (Or.inl rfl))) (fun _ _ _ _ _ => mts_nil) (fun _ _ _ _ _ => (me_sub' rfl hr.u1 (me_name (i := 10) rfl (Or.inr (Or.inl rfl))) (me_mod (me_callTy call_int1 p_int rfl TT.b_int (by decide +kernel) (ma_cons (me_add rfl (me_name (i := 6) rfl (Or.inr (Or.inl rfl))) (me_name (i := 8) rfl (Or.inl rfl))) ma_nil)) me_int))))) (me_name (i := 11) rfl (Or.inr (Or.inl rfl))))))
  mss_nil)
  (mss_frz 7 (mss_one (ms_ret (me_name (i := 7) rfl (Or.inl rfl))))))))))))
def l_x_law_error : List ((Str → Bool) × XH) := [(fun c => decide (c ∈ (["NotALoad"] : List Str)), (lstH (consH (fun _ _ => .ok (.str "NotALoad")) (consH (xfldH xflds "value") (consH (andH (fun c _ => .ok (.bl (decide (c ∈ (["ValueFault", "NotALoad", "InvalidName", "InvalidText", "InvalidNumber", "UnknownKind", "InvalidPairs", "InvalidKinds"] : List Str))))) (fun c _ => .ok (.bl (decide (c ∈ (["ValueFault", "NotALoad", "InvalidName", "InvalidText", "InvalidNumber", "UnknownKind", "InvalidPairs", "InvalidKinds"] : List Str)))))) (fun _ _ => .ok [])))))), (fun c => decide (c ∈ (["InvalidKinds"] : List Str)), (lstH (consH (fun _ _ => .ok (.str "InvalidKinds")) (consH (xfldH xflds "index") (consH (andH (fun c _ => .ok (.bl (decide (c ∈ (["ValueFault", "NotALoad", "InvalidName", "InvalidText", "InvalidNumber", "UnknownKind", "InvalidPairs", "InvalidKinds"] : List Str))))) (fun c _ => .ok (.bl (decide (c ∈ (["ValueFault", "NotALoad", "InvalidName", "InvalidText", "InvalidNumber", "UnknownKind", "InvalidPairs", "InvalidKinds"] : List Str)))))) (fun _ _ => .ok [])))))), (fun c => decide (c ∈ (["UnknownKind"] : List Str)), (lstH (consH (fun _ _ => .ok (.str "UnknownKind")) (consH (xfldH xflds "value") (consH (andH (fun c _ => .ok (.bl (decide (c ∈ (["ValueFault", "NotALoad", "InvalidName", "InvalidText", "InvalidNumber", "UnknownKind", "InvalidPairs", "InvalidKinds"] : List Str))))) (fun c _ => .ok (.bl (decide (c ∈ (["ValueFault", "NotALoad", "InvalidName", "InvalidText", "InvalidNumber", "UnknownKind", "InvalidPairs", "InvalidKinds"] : List Str)))))) (fun _ _ => .ok []))))))]
def hds_x_law_error : List ExceptHandler := match defBody s_x_law_error with | .Try _ h _ _ _ :: _ => h | _ => []
theorem ht_x_law_error {P : Program} {w : World} {K : PySem.W.Frag} {mg : Str → Option Value} {base : Heap} {ca fa : Str → Addr} (TT : Txt K mg base ca fa) : ∀ (cdg : Value) (A : Around) (outer : List Env) (s : Shared) (H : Hp), HT (cxOf C8.CX0 P w K mg base n_x_law_error "_law_error" (defScope s_x_law_error) (fa "_law_error") cdg A outer s H C8.E0).nox (TX K ca fa) hds_x_law_error l_x_law_error := fun cdg A outer s H =>
  (HT.cons (i := some 2) ⟨rfl, by decide, .inl TT.gc_NotALoad⟩ ⟨rfl, rfl⟩ TT.ex_NotALoad (fun u => ss_ret (se_lst (sa_cons (se_const (pe_str) (fun _ => rfl)) (sa_cons (se_fld (j := 2) rfl TT.xok rfl rfl (Or.inl rfl)) (sa_cons (se_and (se_isi (j := 2) rfl TT.xok rfl rfl (Or.inl rfl) relv_ref (pe_glob rfl TT.gc_ValueFault rfl) TT.ki_ValueFault rfl TT.b_isinstance) (se_one (se_isi (j := 2) rfl TT.xok rfl rfl (Or.inl rfl) relv_ty (pe_bltn (v := .ty "ValueError") rfl TT.b_ValueError (by decide +kernel) rfl) TT.ki_ValueError rfl TT.b_isinstance))) sa_nil))))) (HT.cons (i := some 2) ⟨rfl, by decide, .inl TT.gc_InvalidKinds⟩ ⟨rfl, rfl⟩ TT.ex_InvalidKinds (fun u => ss_ret (se_lst (sa_cons (se_const (pe_str) (fun _ => rfl)) (sa_cons (se_fld (j := 2) rfl TT.xok rfl rfl (Or.inl rfl)) (sa_cons (se_and (se_isi (j := 2) rfl TT.xok rfl rfl (Or.inl rfl) relv_ref (pe_glob rfl TT.gc_ValueFault rfl) TT.ki_ValueFault rfl TT.b_isinstance) (se_one (se_isi (j := 2) rfl TT.xok rfl rfl (Or.inl rfl) relv_ty (pe_bltn (v := .ty "ValueError") rfl TT.b_ValueError (by decide +kernel) rfl) TT.ki_ValueError rfl TT.b_isinstance))) sa_nil))))) (HT.cons (i := some 2) ⟨rfl, by decide, .inl TT.gc_UnknownKind⟩ ⟨rfl, rfl⟩ TT.ex_UnknownKind (fun u => ss_ret (se_lst (sa_cons (se_const (pe_str) (fun _ => rfl)) (sa_cons (se_fld (j := 2) rfl TT.xok rfl rfl (Or.inl rfl)) (sa_cons (se_and (se_isi (j := 2) rfl TT.xok rfl rfl (Or.inl rfl) relv_ref (pe_glob rfl TT.gc_ValueFault rfl) TT.ki_ValueFault rfl TT.b_isinstance) (se_one (se_isi (j := 2) rfl TT.xok rfl rfl (Or.inl rfl) relv_ty (pe_bltn (v := .ty "ValueError") rfl TT.b_ValueError (by decide +kernel) rfl) TT.ki_ValueError rfl TT.b_isinstance))) sa_nil))))) HT.nil)))
def m_x_law_sized (fself : List D → Res D) : MM Fl := (seqM (ifM (truthM (opM eqPD (apM lenF (consM (nameM 0) nilM)) (constM (.int 1))))
  (retM (apM lstF (consM (apM tupF (consM (nameM 1) nilM)) nilM)))
  passM)
  (seqM (setM 2 (apM lstF nilM))
  (seqM (forSt (itM rngF3 (consM (nameM 1) (consM (unM negD (constM (.int 1))) (consM (unM negD (constM (.int 1))) nilM)))) (gN 3)
  (setM 2 (opM addD (nameM 2) (frM (lcM (iterK (callM fself (consM (slM (nameM 0) (soM (constM (.int 1))) noM) (consM (opM subD (nameM 1) (nameM 3)) nilM)))) [4] (gN 4) yesM (opM addD (apM tupF (consM (nameM 3) nilM)) (nameM 4)))))))
  (retM (nameM 2)))))
def f_x_law_sized : Nat → List D → Res D
  | 0 => fun _ => .bad
  | n + 1 => runF (m_x_law_sized (f_x_law_sized n)) 5
theorem ok_x_law_sized {P : Program} {w : World} {K : PySem.W.Frag} {mg : Str → Option Value} {base : Heap} {ca fa : Str → Addr} (TT : Txt K mg base ca fa) : ∀ n, FnG P w K mg base (1 + n) (fa "_law_sized") [] (spF (TX K ca fa) 2 (f_x_law_sized n))
  | 0 => fun _ _ _ _ _ _ _ _ _ _ _ _ _ _ _ ⟨_, _, _, _, _, h⟩ => h.elim
  | fu + 1 => TT.f_x_law_sized.elim fun fd F =>
  fn_F (k := 1 + fu) (T := TX K ca fa) F sc_x_law_sized (Fun.bind0 F fun _ _ _ _ _ _ us hl => match us, hl with | [_, _], _ => rfl) fun cdv A outer s H E hr =>
  (mss_cons (ms_if (mt_cmp (op_eqD hr.r.units) p_eqP (me_callB call_len p_len rfl TT.b_len (by decide +kernel) (ma_cons (me_name (i := 0) rfl (Or.inl rfl)) ma_nil)) me_int (nomark _))
  (mss_one (ms_ret (me_lst (ma_cons (me_tup (ma_cons (me_name (i := 1) rfl (Or.inl rfl)) ma_nil)) ma_nil))))
  mss_nil)
  (mss_cons (ms_set (i := 2) sc_x_law_sized.nd rfl (Or.inl rfl) (me_lst ma_nil))
  (mss_cons (ms_for (vs := [3]) (passes_of rfl) rfl (mi_rng3 rfl TT.b_range (ma_cons (me_name (i := 1) rfl (Or.inl rfl)) (ma_cons (me_neg me_int) (ma_cons (me_neg me_int) ma_nil)))) (mg_name (i := 3) sc_x_law_sized.nd rfl (Or.inr rfl))
  (mss_one (ms_set (i := 2) sc_x_law_sized.nd rfl (Or.inl rfl) (me_add rfl (me_name (i := 2) rfl (Or.inl rfl)) (me_of_mf (mf_lc (own := [("_law_more", 4)]) rfl sc_x_law_sized.nd (mi_any rfl (me_call (ok_x_law_sized TT fu) (hr.mono (by omega)) rfl TT.g_x_law_sized (TT.f_x_law_sized.elim fun _ F => F.kp) (takes_of rfl rfl rfl rfl) (ma_cons (me_slice rfl (me_name (i := 0) rfl (Or.inl rfl)) (mo_some me_int) mo_none) (ma_cons (me_sub (me_name (i := 1) rfl (Or.inl rfl)) (me_name (i := 3) rfl (Or.inr (Or.inl rfl)))) ma_nil)) (consM_len (consM_len nilM_len)))) (blkOk_by (N := n_x_law_sized) (sc := defScope s_x_law_sized) (by decide +kernel)) (fun _ _ _ _ _ => (mg_name (i := 4) sc_x_law_sized.nd rfl (Or.inl rfl))) (fun _ _ _ _ _ => mts_nil) (fun _ _ _ _ _ => (me_add rfl (me_tup (ma_cons (me_name (i := 3) rfl (Or.inr (Or.inl rfl))) ma_nil)) (me_name (i := 4) rfl (Or.inl rfl))))))))))
  (mss_one (ms_ret (me_name (i := 2) rfl (Or.inl rfl)))))))
def m_x_law_load : MM Fl := (retM (callM f_Load_of (consM (apM tupleF (consM (frM (lcM (zipM (consM (nameM 0) (consM (nameM 1) nilM))) [2, 3] (gTp (gCs (gN 2) (gCs (gN 3) gNl))) (truthM (opM gtD (nameM 3) (constM (.int 0)))) (apM tupF (consM (nameM 2) (consM (nameM 3) nilM))))) nilM)) nilM)))
def f_x_law_load : List D → Res D := runF m_x_law_load 4
theorem ok_x_law_load {P : Program} {w : World} {K : PySem.W.Frag} {mg : Str → Option Value} {base : Heap} {ca fa : Str → Addr} (TT : Txt K mg base ca fa) : FnG P w K mg base 7 (fa "_law_load") [] (spF (TX K ca fa) 2 f_x_law_load) := TT.f_x_law_load.elim fun fd F =>
  fn_F (k := 6) (T := TX K ca fa) F sc_x_law_load (Fun.bind0 F fun _ _ _ _ _ _ us hl => match us, hl with | [_, _], _ => rfl) fun cdv A outer s H E hr =>
  (mss_one (ms_ret (me_static TT.sm_Load_of (ok_Load_of TT) (hr.mono (by decide)) rfl TT.gc_Load (takes_of rfl rfl rfl rfl) (ma_cons (me_callTy call_tupleP p_tuple rfl TT.b_tuple (by decide +kernel) (ma_cons (me_of_mf (mf_lc (own := [("_law_kind", 2), ("_law_count", 3)]) rfl sc_x_law_load.nd (mi_zip rfl rfl TT.b_zip (ma_cons (me_name (i := 0) rfl (Or.inl rfl)) (ma_cons (me_name (i := 1) rfl (Or.inl rfl)) ma_nil))) (blkOk_by (N := n_x_law_load) (sc := defScope s_x_law_load) (by decide +kernel)) (fun _ _ _ _ _ => (mg_tup rfl rfl (mgs_cons (mg_name (i := 2) sc_x_law_load.nd rfl (Or.inl rfl)) (mgs_cons (mg_name (i := 3) sc_x_law_load.nd rfl (Or.inl rfl)) mgs_nil)) (gCs_len (gCs_len gNl_len)))) (fun _ _ _ _ _ => (mts_one (mt_cmp op_gt p_gt (me_name (i := 3) rfl (Or.inl rfl)) me_int (nomark _)))) (fun _ _ _ _ _ => (me_tup (ma_cons (me_name (i := 2) rfl (Or.inl rfl)) (ma_cons (me_name (i := 3) rfl (Or.inl rfl)) ma_nil)))))) ma_nil)) ma_nil) (consM_len nilM_len))))
def m_x_law_great_right : MM Fl := (seqM (setM 2 (frM (lcM (iterK (nameM 1)) [9] (gN 9) yesM (opM mulD (callO f_x_law_pull 0 (consM (opM powD (constM (.int 10)) (constM (.int 12))) nilM)) (opM subF (apM lstF (consM (constM (.int 1)) (consM (opM powD (constM (.int 10)) (constM (.int 9))) (consM (opM powD (constM (.int 10)) (constM (.int 28))) nilM)))) (callO f_x_law_pull 0 (consM (constM (.int 3)) nilM)))))))
  (seqM (ownM 3 (lcM (iterK (nameM 2)) [10] (gN 10) yesM (opM addD (nameM 10) (constM (.int 1)))))
  (seqM (setLM 3 (apM max2F (consM (constM (.int 0)) (consM (opM subD (flatM (opM subF (nameM 3) (constM (.int 0)))) (callO f_x_law_pull 0 (consM (opM addD (opM mulD (constM (.int 2)) (apM lenF (consM (nameM 1) nilM))) (constM (.int 1))) nilM))) nilM))) (constM (.int 0)))
  (frzM 3 (seqM (setM 4 (apM lstF (consM (apM sumF (consM (nameM 2) nilM)) (consM (apM sumF (consM (nameM 3) nilM)) nilM))))
  (seqM (setM 5 (iteM (truthM (opM ltD (opM subF (nameM 4) (constM (.int 0))) (opM subF (nameM 4) (constM (.int 1))))) (unM negD (constM (.int 1))) (constM (.int 1))))
  (seqM (ifM (truthM (opM eqPD (opM subF (nameM 4) (constM (.int 0))) (opM subF (nameM 4) (constM (.int 1)))))
  (seqM (setM 6 (opM ltL (frM (lcM (iterK (nameM 2)) [10] (gN 10) yesM (unM negD (nameM 10)))) (frM (lcM (iterK (nameM 3)) [10] (gN 10) yesM (unM negD (nameM 10))))))
  (setM 5 (iteM (truthM (opM eqPD (nameM 2) (nameM 3))) (constM (.int 0)) (iteM (truthM (nameM 6)) (unM negD (constM (.int 1))) (constM (.int 1))))))
  passM)
  (seqM (parN [7, 8] (daN (callM f_x_law_load (consM (nameM 1) (consM (nameM 2) nilM))) (daN (callM f_x_law_load (consM (nameM 1) (consM (nameM 3) nilM))) nilN)))
  (retM (opM eqPD (apM reprF (consM (apM lstF (consM (callM f_compare (consM (nameM 7) (consM (nameM 8) (consM (nameM 1) nilM)))) (consM (callM f_compare (consM (nameM 8) (consM (nameM 7) (consM (nameM 1) nilM)))) nilM))) nilM)) (apM reprF (consM (apM lstF (consM (nameM 5) (consM (opM subD (constM (.int 0)) (nameM 5)) nilM))) nilM))))))))))))
def f_x_law_great_right : B → List D → Res (D × B) := runM m_x_law_great_right 11
theorem ok_x_law_great_right {P : Program} {w : World} {K : PySem.W.Frag} {mg : Str → Option Value} {base : Heap} {ca fa : Str → Addr} (TT : Txt K mg base ca fa) : FnG P w K mg base 8 (fa "_law_great_right") [] (spM (TX K ca fa) 2 f_x_law_great_right) := TT.f_x_law_great_right.elim fun fd F =>
  fn_M (k := 7) (T := TX K ca fa) F sc_x_law_great_right (Fun.bind0 F fun _ _ _ _ _ _ us hl => match us, hl with | [_, _], _ => rfl) fun cdv A outer s H E hr =>
  (mss_cons (ms_setLc (i := 2) (own := [("_law_kind", 9)]) rfl sc_x_law_great_right.nd rfl rfl (sw_true rfl rfl rfl (by decide +kernel)) (mi_any rfl (me_name (i := 1) rfl (Or.inl rfl))) (blkOk_by (N := n_x_law_great_right) (sc := defScope s_x_law_great_right) (by decide +kernel)) (fun _ _ _ _ _ => (mg_name (i := 9) sc_x_law_great_right.nd rfl (Or.inl rfl))) (fun _ _ _ _ _ => mts_nil) (fun _ _ _ _ _ => (me_mul (me_callO (ok_x_law_pull TT) (hr.mono (by decide)) rfl TT.g_x_law_pull (TT.f_x_law_pull.elim fun _ F => F.kp) takes0 (i := 0) rfl (Or.inr (Or.inl rfl)) (ma_cons (me_pow me_int me_int) ma_nil) (consM_len nilM_len)) (me_sub' rfl hr.u1 (me_lst (ma_cons me_int (ma_cons (me_pow me_int me_int) (ma_cons (me_pow me_int me_int) ma_nil)))) (me_callO (ok_x_law_pull TT) (hr.mono (by decide)) rfl TT.g_x_law_pull (TT.f_x_law_pull.elim fun _ F => F.kp) takes0 (i := 0) rfl (Or.inr (Or.inl rfl)) (ma_cons me_int ma_nil) (consM_len nilM_len))))))
  (mss_cons (ms_ownLc (i := 3) (own := [("_law_count", 10)]) rfl sc_x_law_great_right.nd rfl rfl (sw_true rfl rfl rfl (by decide +kernel)) (mi_any rfl (me_name (i := 2) rfl (Or.inl rfl))) (blkOk_by (N := n_x_law_great_right) (sc := defScope s_x_law_great_right) (by decide +kernel)) (fun _ _ _ _ _ => (mg_name (i := 10) sc_x_law_great_right.nd rfl (Or.inl rfl))) (fun _ _ _ _ _ => mts_nil) (fun _ _ _ _ _ => (me_add rfl (me_name (i := 10) rfl (Or.inl rfl)) me_int)))
  (mss_cons (ms_setL (i := 3) rfl (Or.inl rfl) (me_callB (call_max2 rfl) p_max2 rfl TT.b_max (by decide +kernel) (ma_cons me_int (ma_cons (me_sub (me_flat (me_sub' rfl hr.u1 (me_name (i := 3) rfl (Or.inl rfl)) me_int)) (me_callO (ok_x_law_pull TT) (hr.mono (by decide)) rfl TT.g_x_law_pull (TT.f_x_law_pull.elim fun _ F => F.kp) (takes_of rfl rfl rfl rfl) (i := 0) rfl (Or.inr (Or.inl rfl)) (ma_cons (me_add rfl (me_mul me_int (me_callB call_len p_len rfl TT.b_len (by decide +kernel) (ma_cons (me_name (i := 1) rfl (Or.inl rfl)) ma_nil))) me_int) ma_nil) (consM_len nilM_len))) ma_nil))) me_int)
  (mss_frz 3 (mss_cons (ms_set (i := 4) sc_x_law_great_right.nd rfl (Or.inl rfl) (me_lst (ma_cons (me_callB (cr_sum rfl) p_sum rfl TT.b_sum (by decide +kernel) (ma_cons (me_name (i := 2) rfl (Or.inl rfl)) ma_nil)) (ma_cons (me_callB (cr_sum rfl) p_sum rfl TT.b_sum (by decide +kernel) (ma_cons (me_name (i := 3) rfl (Or.inl rfl)) ma_nil)) ma_nil))))
  (mss_cons (ms_set (i := 5) sc_x_law_great_right.nd rfl (Or.inl rfl) (me_ifExp (mt_cmp op_lt p_lt (me_sub' rfl hr.u1 (me_name (i := 4) rfl (Or.inl rfl)) me_int) (me_sub' rfl hr.u1 (me_name (i := 4) rfl (Or.inl rfl)) me_int) (nomark _)) (me_neg me_int) me_int))
  (mss_cons (ms_if (mt_cmp (op_eqD hr.r.units) p_eqP (me_sub' rfl hr.u1 (me_name (i := 4) rfl (Or.inl rfl)) me_int) (me_sub' rfl hr.u1 (me_name (i := 4) rfl (Or.inl rfl)) me_int) (nomark _))
  (mss_cons (ms_set (i := 6) sc_x_law_great_right.nd rfl (Or.inl rfl) (me_ltL rfl hr (me_of_mf (mf_lc (own := [("_law_count", 10)]) rfl sc_x_law_great_right.nd (mi_any rfl (me_name (i := 2) rfl (Or.inl rfl))) (blkOk_by (N := n_x_law_great_right) (sc := defScope s_x_law_great_right) (by decide +kernel)) (fun _ _ _ _ _ => (mg_name (i := 10) sc_x_law_great_right.nd rfl (Or.inl rfl))) (fun _ _ _ _ _ => mts_nil) (fun _ _ _ _ _ => (me_neg (me_name (i := 10) rfl (Or.inl rfl)))))) (me_of_mf (mf_lc (own := [("_law_count", 10)]) rfl sc_x_law_great_right.nd (mi_any rfl (me_name (i := 3) rfl (Or.inl rfl))) (blkOk_by (N := n_x_law_great_right) (sc := defScope s_x_law_great_right) (by decide +kernel)) (fun _ _ _ _ _ => (mg_name (i := 10) sc_x_law_great_right.nd rfl (Or.inl rfl))) (fun _ _ _ _ _ => mts_nil) (fun _ _ _ _ _ => (me_neg (me_name (i := 10) rfl (Or.inl rfl))))))))
  (mss_one (ms_set (i := 5) sc_x_law_great_right.nd rfl (Or.inl rfl) (me_ifExp (mt_cmp (op_eqD hr.r.units) p_eqP (me_name (i := 2) rfl (Or.inl rfl)) (me_name (i := 3) rfl (Or.inl rfl)) (nomark _)) me_int (me_ifExp (mt_val (me_name (i := 6) rfl (Or.inl rfl))) (me_neg me_int) me_int)))))
  mss_nil)
  (mss_cons (ms_par2N (i := 7) (j := 8) rfl sc_x_law_great_right.nd rfl rfl (by decide) rfl rfl (mn_da (me_call (ok_x_law_load TT) (hr.mono (by decide)) rfl TT.g_x_law_load (TT.f_x_law_load.elim fun _ F => F.kp) (takes_of rfl rfl rfl rfl) (ma_cons (me_name (i := 1) rfl (Or.inl rfl)) (ma_cons (me_name (i := 2) rfl (Or.inl rfl)) ma_nil)) (consM_len (consM_len nilM_len))) (mn_da (me_call (ok_x_law_load TT) (hr.mono (by decide)) rfl TT.g_x_law_load (TT.f_x_law_load.elim fun _ F => F.kp) (takes_of rfl rfl rfl rfl) (ma_cons (me_name (i := 1) rfl (Or.inl rfl)) (ma_cons (me_name (i := 3) rfl (Or.inl rfl)) ma_nil)) (consM_len (consM_len nilM_len))) mn_nil)) (by rfl))
  (mss_one (ms_ret (me_cmp (op_eqD hr.r.units) p_eqP (me_callB (call_repr hr) p_repr rfl TT.b_repr (by decide +kernel) (ma_cons (me_lst (ma_cons (me_call (ok_compare TT) (hr.mono (by decide)) rfl TT.g_compare (TT.f_compare.elim fun _ F => F.kp) (takes_of rfl rfl rfl rfl) (ma_cons (me_name (i := 7) rfl (Or.inl rfl)) (ma_cons (me_name (i := 8) rfl (Or.inl rfl)) (ma_cons (me_name (i := 1) rfl (Or.inl rfl)) ma_nil))) (consM_len (consM_len (consM_len nilM_len)))) (ma_cons (me_call (ok_compare TT) (hr.mono (by decide)) rfl TT.g_compare (TT.f_compare.elim fun _ F => F.kp) (takes_of rfl rfl rfl rfl) (ma_cons (me_name (i := 8) rfl (Or.inl rfl)) (ma_cons (me_name (i := 7) rfl (Or.inl rfl)) (ma_cons (me_name (i := 1) rfl (Or.inl rfl)) ma_nil))) (consM_len (consM_len (consM_len nilM_len)))) ma_nil))) ma_nil)) (me_callB (call_repr hr) p_repr rfl TT.b_repr (by decide +kernel) (ma_cons (me_lst (ma_cons (me_name (i := 5) rfl (Or.inl rfl)) (ma_cons (me_sub me_int (me_name (i := 5) rfl (Or.inl rfl))) ma_nil))) ma_nil)) (nomark _))))))))))))
def m_x_law_errors_right : MM Fl := (seqM (setM 3 (opM subF (apM lstF (consM (constM .non) (consM (constM (.int 0)) (consM (constM (.str "a")) (consM (apM tupF nilM) (consM (constM (.bl true)) (consM emptyD nilM))))))) (callO f_x_law_pull 0 (consM (constM (.int 6)) nilM))))
  (seqM (setM 4 (apM lstF (consM (constM .non) (consM (apM tupF nilM) (consM (apM listF (consM (nameM 1) nilM)) (consM (opM addD (nameM 1) (slM (nameM 1) noM (soM (constM (.int 1))))) nilM))))))
  (seqM (setM 5 (opM subF (opM addD (nameM 4) (apM lstF (consM (opM addD (apM tupF (consM (constM (.str "A")) nilM)) (nameM 1)) (consM (opM addD (nameM 1) (apM tupF (consM (constM (.int 5)) nilM))) nilM)))) (callO f_x_law_pull 0 (consM (constM (.int 6)) nilM))))
  (seqM (setM 6 (constM .non))
  (seqM (ifM (andT (truthM (isiM (isiB "tuple") (nameM 5))) (truthM (opM nePD (nameM 5) (apM tupF nilM))))
  (setM 6 (iteM (truthM (opM eqPD (opM subF (nameM 5) (constM (.int 0))) (constM (.str "A")))) (constM (.int 0)) (apM lenF (consM (nameM 1) nilM))))
  passM)
  (seqM (setM 7 (makeS "Load" f_LoadD_initD (consM (apM tupF (consM (constM (.str "zz98765")) (consM (constM (.int 1)) nilM))) (consM (apM tupF (consM (constM (.str "zz99999")) (consM (constM (.int 2)) nilM))) nilM))))
  (seqM (ownM 8 (lszM (consM (lamM l_x_law_error (callM f_compare (consM (nameM 3) (consM (constM .non) (consM (nameM 5) nilM))))) nilM)))
  (seqM (appM 8 (lamM l_x_law_error (callM f_compare (consM (nameM 2) (consM (nameM 3) (consM (nameM 5) nilM))))))
  (seqM (appM 8 (lamM l_x_law_error (callM f_compare (consM (nameM 2) (consM (nameM 7) (consM (nameM 5) nilM))))))
  (seqM (appM 8 (lamM l_x_law_error (callM f_compare (consM (binO "Load" f_LoadD_addD (nameM 2) (nameM 7)) (consM (nameM 3) (consM (nameM 1) nilM))))))
  (seqM (appM 8 (lamM l_x_law_error (callM f_compare (consM (binO "Load" f_LoadD_addD (nameM 2) (nameM 7)) (consM (nameM 2) (consM (nameM 1) nilM))))))
  (seqM (appM 8 (lamM l_x_law_error (callM (fun ds => f_compare (perm [0, 1, 2] ds)) (appMM (consM (nameM 2) (consM (nameM 7) nilM)) (consM (nameM 1) nilM)))))
  (seqM (setM 9 (apM lstF (consM (apM lstF (consM (constM (.str "NotALoad")) (consM (nameM 3) (consM (constM (.bl true)) nilM)))) (consM (apM lstF (consM (constM (.str "NotALoad")) (consM (nameM 3) (consM (constM (.bl true)) nilM)))) (consM (apM lstF (consM (constM (.str "InvalidKinds")) (consM (nameM 6) (consM (constM (.bl true)) nilM)))) (consM (apM lstF (consM (constM (.str "NotALoad")) (consM (nameM 3) (consM (constM (.bl true)) nilM)))) nilM))))))
  (frzM 8 (retM (eqX false (csOne "Load" f_LoadD_eqD) 3 (nameM 8) (opM addD (nameM 9) (opM mulD (apM lstF (consM (apM lstF (consM (constM (.str "UnknownKind")) (consM (constM (.str "zz98765")) (consM (constM (.bl true)) nilM)))) nilM)) (constM (.int 2))))))))))))))))))))
def f_x_law_errors_right : B → List D → Res (D × B) := runM m_x_law_errors_right 10
theorem ok_x_law_errors_right {P : Program} {w : World} {K : PySem.W.Frag} {mg : Str → Option Value} {base : Heap} {ca fa : Str → Addr} (TT : Txt K mg base ca fa) : FnG P w K mg base 11 (fa "_law_errors_right") [] (spM (TX K ca fa) 3 f_x_law_errors_right) := TT.f_x_law_errors_right.elim fun fd F =>
  fn_ML (k := 10) (T := TX K ca fa) TT.cd_x_law_errors_right F sc_x_law_errors_right (Fun.bind0 F fun _ _ _ _ _ _ us hl => match us, hl with | [_, _, _], _ => rfl) fun A outer s H E hr =>
  (mss_cons (ms_set (i := 3) sc_x_law_errors_right.nd rfl (Or.inr rfl) (me_sub' rfl hr.u1 (me_lst (ma_cons me_non (ma_cons me_int (ma_cons me_str (ma_cons (me_tup ma_nil) (ma_cons me_bl (ma_cons me_dnew ma_nil))))))) (me_callO (ok_x_law_pull TT) (hr.mono (by decide)) rfl TT.g_x_law_pull (TT.f_x_law_pull.elim fun _ F => F.kp) (takes_of rfl rfl rfl rfl) (i := 0) rfl (Or.inl rfl) (ma_cons me_int ma_nil) (consM_len nilM_len))))
  (mss_cons (ms_set (i := 4) sc_x_law_errors_right.nd rfl (Or.inl rfl) (me_lst (ma_cons me_non (ma_cons (me_tup ma_nil) (ma_cons (me_callTy call_list_of p_list rfl TT.b_list (by decide +kernel) (ma_cons (me_name (i := 1) rfl (Or.inr (Or.inl rfl))) ma_nil)) (ma_cons (me_add rfl (me_name (i := 1) rfl (Or.inr (Or.inl rfl))) (me_slice rfl (me_name (i := 1) rfl (Or.inr (Or.inl rfl))) mo_none (mo_some me_int))) ma_nil))))))
  (mss_cons (ms_set (i := 5) sc_x_law_errors_right.nd rfl (Or.inr rfl) (me_sub' rfl hr.u1 (me_add rfl (me_name (i := 4) rfl (Or.inl rfl)) (me_lst (ma_cons (me_add rfl (me_tup (ma_cons me_str ma_nil)) (me_name (i := 1) rfl (Or.inr (Or.inl rfl)))) (ma_cons (me_add rfl (me_name (i := 1) rfl (Or.inr (Or.inl rfl))) (me_tup (ma_cons me_int ma_nil))) ma_nil)))) (me_callO (ok_x_law_pull TT) (hr.mono (by decide)) rfl TT.g_x_law_pull (TT.f_x_law_pull.elim fun _ F => F.kp) (takes_of rfl rfl rfl rfl) (i := 0) rfl (Or.inl rfl) (ma_cons me_int ma_nil) (consM_len nilM_len))))
  (mss_cons (ms_set (i := 6) sc_x_law_errors_right.nd rfl (Or.inl rfl) me_non)
  (mss_cons (ms_if (mt_w (mw_and (mt_val (me_isiB (b := "tuple") rfl TT.cls (by decide) rfl TT.b_isinstance rfl TT.b_tuple (by decide +kernel) (me_name (i := 5) rfl (Or.inr (Or.inl rfl))))) (mw_and1 (mt_cmp (op_neD hr.r.units) p_neP (me_name (i := 5) rfl (Or.inr (Or.inl rfl))) (me_tup ma_nil) (nomark _)))))
  (mss_one (ms_set (i := 6) sc_x_law_errors_right.nd rfl (Or.inl rfl) (me_ifExp (mt_cmp (op_eqD hr.r.units) p_eqP (me_sub' rfl hr.u1 (me_name (i := 5) rfl (Or.inr (Or.inl rfl))) me_int) me_str (nomark _)) me_int (me_callB call_len p_len rfl TT.b_len (by decide +kernel) (ma_cons (me_name (i := 1) rfl (Or.inr (Or.inl rfl))) ma_nil)))))
  mss_nil)
  (mss_cons (ms_set (i := 7) sc_x_law_errors_right.nd rfl (Or.inr rfl) (me_makeS TT.mk_Load (ok_LoadD_initD TT) (hr.mono (by decide)) rfl rfl TT.gc_Load (takes_of rfl rfl rfl rfl) (ma_cons (me_tup (ma_cons me_str (ma_cons me_int ma_nil))) (ma_cons (me_tup (ma_cons me_str (ma_cons me_int ma_nil))) ma_nil))))
  (mss_cons (ms_own (i := 8) sc_x_law_errors_right.nd rfl (Or.inl rfl) (mf_lst (ma_cons (TT.f_x_law_error.elim fun _ F => me_lam (Ng := n_x_law_error) (k := 4) F (Fun.bind0 F fun _ _ _ _ _ _ us hl => match us, hl with | [_], _ => rfl) sc_x_law_error rfl rfl rfl (Or.inl rfl) rfl (ht_x_law_error TT) rfl TT.g_x_law_error TT.tb_x_law_errors_right rfl TT.tm_x_law_errors_right TT.tu_x_law_errors_right (hr.mono (by decide)) (LamX.lamS_by (sc := defScope s_x_law_errors_right) (by decide +kernel)) rfl (fun _ _ _ _ _ => rfl) (fun _ _ _ _ _ _ _ hr => (me_call (ok_compare TT) (hr.mono (by decide)) rfl TT.g_compare (TT.f_compare.elim fun _ F => F.kp) (takes_of rfl rfl rfl rfl) (ma_cons (me_name (i := 3) rfl (Or.inr (Or.inr rfl))) (ma_cons me_non (ma_cons (me_name (i := 5) rfl (Or.inr (Or.inr rfl))) ma_nil))) (consM_len (consM_len (consM_len nilM_len)))))) ma_nil)))
  (mss_cons (ms_app (i := 8) rfl (Or.inl rfl) (TT.f_x_law_error.elim fun _ F => me_lam (Ng := n_x_law_error) (k := 4) F (Fun.bind0 F fun _ _ _ _ _ _ us hl => match us, hl with | [_], _ => rfl) sc_x_law_error rfl rfl rfl (Or.inl rfl) rfl (ht_x_law_error TT) rfl TT.g_x_law_error TT.tb_x_law_errors_right rfl TT.tm_x_law_errors_right TT.tu_x_law_errors_right (hr.mono (by decide)) (LamX.lamS_by (sc := defScope s_x_law_errors_right) (by decide +kernel)) rfl (fun _ _ _ _ _ => rfl) (fun _ _ _ _ _ _ _ hr => (me_call (ok_compare TT) (hr.mono (by decide)) rfl TT.g_compare (TT.f_compare.elim fun _ F => F.kp) (takes_of rfl rfl rfl rfl) (ma_cons (me_name (i := 2) rfl (Or.inr (Or.inr rfl))) (ma_cons (me_name (i := 3) rfl (Or.inr (Or.inr rfl))) (ma_cons (me_name (i := 5) rfl (Or.inr (Or.inr rfl))) ma_nil))) (consM_len (consM_len (consM_len nilM_len)))))))
  (mss_cons (ms_app (i := 8) rfl (Or.inl rfl) (TT.f_x_law_error.elim fun _ F => me_lam (Ng := n_x_law_error) (k := 4) F (Fun.bind0 F fun _ _ _ _ _ _ us hl => match us, hl with | [_], _ => rfl) sc_x_law_error rfl rfl rfl (Or.inl rfl) rfl (ht_x_law_error TT) rfl TT.g_x_law_error TT.tb_x_law_errors_right rfl TT.tm_x_law_errors_right TT.tu_x_law_errors_right (hr.mono (by decide)) (LamX.lamS_by (sc := defScope s_x_law_errors_right) (by decide +kernel)) rfl (fun _ _ _ _ _ => rfl) (fun _ _ _ _ _ _ _ hr => (me_call (ok_compare TT) (hr.mono (by decide)) rfl TT.g_compare (TT.f_compare.elim fun _ F => F.kp) (takes_of rfl rfl rfl rfl) (ma_cons (me_name (i := 2) rfl (Or.inr (Or.inr rfl))) (ma_cons (me_name (i := 7) rfl (Or.inr (Or.inr rfl))) (ma_cons (me_name (i := 5) rfl (Or.inr (Or.inr rfl))) ma_nil))) (consM_len (consM_len (consM_len nilM_len)))))))
  (mss_cons (ms_app (i := 8) rfl (Or.inl rfl) (TT.f_x_law_error.elim fun _ F => me_lam (Ng := n_x_law_error) (k := 7) F (Fun.bind0 F fun _ _ _ _ _ _ us hl => match us, hl with | [_], _ => rfl) sc_x_law_error rfl rfl rfl (Or.inl rfl) rfl (ht_x_law_error TT) rfl TT.g_x_law_error TT.tb_x_law_errors_right rfl TT.tm_x_law_errors_right TT.tu_x_law_errors_right (hr.mono (by decide)) (LamX.lamS_by (sc := defScope s_x_law_errors_right) (by decide +kernel)) rfl (fun _ _ _ _ _ => rfl) (fun _ _ _ _ _ _ _ hr => (me_call (ok_compare TT) (hr.mono (by decide)) rfl TT.g_compare (TT.f_compare.elim fun _ F => F.kp) (takes_of rfl rfl rfl rfl) (ma_cons (me_binO (op := .Add) rfl TT.cls TT.sub rfl TT.bo_Load_add TT.mt_Load_add (ok_LoadD_addD TT) (hr.mono (by decide)) (takes_of rfl rfl rfl rfl) (me_name (i := 2) rfl (Or.inr (Or.inr rfl))) (me_name (i := 7) rfl (Or.inr (Or.inr rfl)))) (ma_cons (me_name (i := 3) rfl (Or.inr (Or.inr rfl))) (ma_cons (me_name (i := 1) rfl (Or.inr (Or.inr rfl))) ma_nil))) (consM_len (consM_len (consM_len nilM_len)))))))
  (mss_cons (ms_app (i := 8) rfl (Or.inl rfl) (TT.f_x_law_error.elim fun _ F => me_lam (Ng := n_x_law_error) (k := 7) F (Fun.bind0 F fun _ _ _ _ _ _ us hl => match us, hl with | [_], _ => rfl) sc_x_law_error rfl rfl rfl (Or.inl rfl) rfl (ht_x_law_error TT) rfl TT.g_x_law_error TT.tb_x_law_errors_right rfl TT.tm_x_law_errors_right TT.tu_x_law_errors_right (hr.mono (by decide)) (LamX.lamS_by (sc := defScope s_x_law_errors_right) (by decide +kernel)) rfl (fun _ _ _ _ _ => rfl) (fun _ _ _ _ _ _ _ hr => (me_call (ok_compare TT) (hr.mono (by decide)) rfl TT.g_compare (TT.f_compare.elim fun _ F => F.kp) (takes_of rfl rfl rfl rfl) (ma_cons (me_binO (op := .Add) rfl TT.cls TT.sub rfl TT.bo_Load_add TT.mt_Load_add (ok_LoadD_addD TT) (hr.mono (by decide)) (takes_of rfl rfl rfl rfl) (me_name (i := 2) rfl (Or.inr (Or.inr rfl))) (me_name (i := 7) rfl (Or.inr (Or.inr rfl)))) (ma_cons (me_name (i := 2) rfl (Or.inr (Or.inr rfl))) (ma_cons (me_name (i := 1) rfl (Or.inr (Or.inr rfl))) ma_nil))) (consM_len (consM_len (consM_len nilM_len)))))))
  (mss_cons (ms_app (i := 8) rfl (Or.inl rfl) (TT.f_x_law_error.elim fun _ F => me_lam (Ng := n_x_law_error) (k := 4) F (Fun.bind0 F fun _ _ _ _ _ _ us hl => match us, hl with | [_], _ => rfl) sc_x_law_error rfl rfl rfl (Or.inl rfl) rfl (ht_x_law_error TT) rfl TT.g_x_law_error TT.tb_x_law_errors_right rfl TT.tm_x_law_errors_right TT.tu_x_law_errors_right (hr.mono (by decide)) (LamX.lamS_by (sc := defScope s_x_law_errors_right) (by decide +kernel)) rfl (fun _ _ _ _ _ => rfl) (fun _ _ _ _ _ _ _ hr => (me_callK (okK0_compare TT) (hr.mono (by decide)) rfl TT.g_compare (TT.f_compare.elim fun _ F => F.kp) (takes_of rfl rfl rfl rfl) (ma_cons (me_name (i := 2) rfl (Or.inr (Or.inr rfl))) (ma_cons (me_name (i := 7) rfl (Or.inr (Or.inr rfl))) ma_nil)) (mk_cons (me_name (i := 1) rfl (Or.inr (Or.inr rfl))) mk_nil) (consM_len (consM_len nilM_len)) (consM_len nilM_len) rfl))))
  (mss_cons (ms_set (i := 9) sc_x_law_errors_right.nd rfl (Or.inl rfl) (me_lst (ma_cons (me_lst (ma_cons me_str (ma_cons (me_name (i := 3) rfl (Or.inr (Or.inl rfl))) (ma_cons me_bl ma_nil)))) (ma_cons (me_lst (ma_cons me_str (ma_cons (me_name (i := 3) rfl (Or.inr (Or.inl rfl))) (ma_cons me_bl ma_nil)))) (ma_cons (me_lst (ma_cons me_str (ma_cons (me_name (i := 6) rfl (Or.inl rfl)) (ma_cons me_bl ma_nil)))) (ma_cons (me_lst (ma_cons me_str (ma_cons (me_name (i := 3) rfl (Or.inr (Or.inl rfl))) (ma_cons me_bl ma_nil)))) ma_nil))))))
  (mss_frz 8 (mss_one (ms_ret (me_eqX (n := 3) rfl TT.cls TT.sub (eqcs_one rfl TT.mt_Load_eq (ok_LoadD_eqD TT)) (hr.mono (by decide)) (me_name (i := 8) rfl (Or.inl rfl)) (me_add rfl (me_name (i := 9) rfl (Or.inl rfl)) (me_mul (me_lst (ma_cons (me_lst (ma_cons me_str (ma_cons me_str (ma_cons me_bl ma_nil)))) ma_nil)) me_int)))))))))))))))))))
def m_x_law_right : MM Fl := (seqM (setM 1 (apM tupleF (consM (callO f_x_law_tags 0 (consM (opM addD (constM (.int 1)) (callO f_x_law_pull 0 (consM (constM (.int 3)) nilM))) nilM)) nilM)))
  (seqM (setM 2 (apM lstF nilM))
  (seqM (forSt (itM rngF1 (consM (constM (.int 4)) nilM)) (gN 3)
  (setM 2 (opM addD (nameM 2) (frM (lcM (iterK (callM (f_x_law_sized 4) (consM (nameM 1) (consM (nameM 3) nilM)))) [8] (gN 8) yesM (callM f_x_law_load (consM (nameM 1) (consM (nameM 8) nilM))))))))
  (seqM (forSt (itM rngF1 (consM (apM lenF (consM (nameM 2) nilM)) nilM)) (gN 4)
  (forSt (itM rngF1 (consM (apM lenF (consM (nameM 2) nilM)) nilM)) (gN 5)
  (seqM (setM 6 (iteM (truthM (opM eqPD (nameM 4) (nameM 5))) (constM (.int 0)) (iteM (truthM (opM ltD (nameM 4) (nameM 5))) (unM negD (constM (.int 1))) (constM (.int 1)))))
  (ifM (truthM (opM nePD (apM reprF (consM (callM f_compare (consM (opM subF (nameM 2) (nameM 4)) (consM (opM subF (nameM 2) (nameM 5)) (consM (nameM 1) nilM)))) nilM)) (apM reprF (consM (nameM 6) nilM))))
  (retM (constM (.bl false)))
  passM))))
  (seqM (ifM (truthM (opM nePD (callM (fun ds => f_compare (perm [2, 1, 0] ds)) (appMM nilM (consM (nameM 1) (consM (opM subF (nameM 2) (constM (.int 0))) (consM (opM subF (nameM 2) (constM (.int 1))) nilM))))) (constM (.int 1))))
  (retM (constM (.bl false)))
  passM)
  (seqM (setM 7 (apM tupleF (consM (frM (lcM (itM rngF1 (consM (constM (.int 9)) nilM)) [4] (gN 4) yesM (opM addD (opM addD (constM (.str "n")) (apM strF (consM (nameM 4) nilM))) (constM (.str "98765"))))) nilM)))
  (seqM (ifM (truthM (opM nePD (callM f_compare (consM (makeS "Load" f_LoadD_initD (consM (apM tupF (consM (opM subF (nameM 7) (constM (.int 8))) (consM (constM (.int 1)) nilM))) nilM)) (consM (makeS "Load" f_LoadD_initD (consM (apM tupF (consM (opM subF (nameM 7) (constM (.int 7))) (consM (constM (.int 1)) nilM))) nilM)) (consM (nameM 7) nilM)))) (constM (.int 1))))
  (retM (constM (.bl false)))
  passM)
  (retM (andM (callO f_x_law_great_right 0 (consM (nameM 1) nilM)) (callO f_x_law_errors_right 0 (consM (nameM 1) (consM (opM subF (nameM 2) (unM negD (constM (.int 1)))) nilM))))))))))))
def f_x_law_right : B → List D → Res (D × B) := runM m_x_law_right 9
theorem ok_x_law_right {P : Program} {w : World} {K : PySem.W.Frag} {mg : Str → Option Value} {base : Heap} {ca fa : Str → Addr} (TT : Txt K mg base ca fa) : FnG P w K mg base 12 (fa "_law_right") [] (spM (TX K ca fa) 1 f_x_law_right) := TT.f_x_law_right.elim fun fd F =>
  fn_M (k := 11) (T := TX K ca fa) F sc_x_law_right (Fun.bind0 F fun _ _ _ _ _ _ us hl => match us, hl with | [_], _ => rfl) fun cdv A outer s H E hr =>
  (mss_cons (ms_set (i := 1) sc_x_law_right.nd rfl (Or.inr rfl) (me_callTy call_tupleP p_tuple rfl TT.b_tuple (by decide +kernel) (ma_cons (me_callO (ok_x_law_tags TT) (hr.mono (by decide)) rfl TT.g_x_law_tags (TT.f_x_law_tags.elim fun _ F => F.kp) (takes_of rfl rfl rfl rfl) (i := 0) rfl (Or.inl rfl) (ma_cons (me_add rfl me_int (me_callO (ok_x_law_pull TT) (hr.mono (by decide)) rfl TT.g_x_law_pull (TT.f_x_law_pull.elim fun _ F => F.kp) (takes_of rfl rfl rfl rfl) (i := 0) rfl (Or.inl rfl) (ma_cons me_int ma_nil) (consM_len nilM_len))) ma_nil) (consM_len nilM_len)) ma_nil)))
  (mss_cons (ms_set (i := 2) sc_x_law_right.nd rfl (Or.inl rfl) (me_lst ma_nil))
  (mss_cons (ms_for (vs := [3]) (passes_of rfl) rfl (mi_rng1 rfl TT.b_range (ma_cons me_int ma_nil)) (mg_name (i := 3) sc_x_law_right.nd rfl (Or.inl rfl))
  (mss_one (ms_set (i := 2) sc_x_law_right.nd rfl (Or.inl rfl) (me_add rfl (me_name (i := 2) rfl (Or.inl rfl)) (me_of_mf (mf_lc (own := [("_law_counts", 8)]) rfl sc_x_law_right.nd (mi_any rfl (me_call (ok_x_law_sized TT 4) (hr.mono (by decide)) rfl TT.g_x_law_sized (TT.f_x_law_sized.elim fun _ F => F.kp) (takes_of rfl rfl rfl rfl) (ma_cons (me_name (i := 1) rfl (Or.inr (Or.inl rfl))) (ma_cons (me_name (i := 3) rfl (Or.inl rfl)) ma_nil)) (consM_len (consM_len nilM_len)))) (blkOk_by (N := n_x_law_right) (sc := defScope s_x_law_right) (by decide +kernel)) (fun _ _ _ _ _ => (mg_name (i := 8) sc_x_law_right.nd rfl (Or.inl rfl))) (fun _ _ _ _ _ => mts_nil) (fun _ _ _ _ _ => (me_call (ok_x_law_load TT) (hr.mono (by decide)) rfl TT.g_x_law_load (TT.f_x_law_load.elim fun _ F => F.kp) takes0 (ma_cons (me_name (i := 1) rfl (Or.inr (Or.inl rfl))) (ma_cons (me_name (i := 8) rfl (Or.inl rfl)) ma_nil)) (consM_len (consM_len nilM_len))))))))))
  (mss_cons (ms_for (vs := [4]) (passes_of rfl) rfl (mi_rng1 rfl TT.b_range (ma_cons (me_callB call_len p_len rfl TT.b_len (by decide +kernel) (ma_cons (me_name (i := 2) rfl (Or.inl rfl)) ma_nil)) ma_nil)) (mg_name (i := 4) sc_x_law_right.nd rfl (Or.inl rfl))
  (mss_one (ms_for (vs := [5]) (passes_of rfl) rfl (mi_rng1 rfl TT.b_range (ma_cons (me_callB call_len p_len rfl TT.b_len (by decide +kernel) (ma_cons (me_name (i := 2) rfl (Or.inl rfl)) ma_nil)) ma_nil)) (mg_name (i := 5) sc_x_law_right.nd rfl (Or.inl rfl))
  (mss_cons (ms_set (i := 6) sc_x_law_right.nd rfl (Or.inl rfl) (me_ifExp (mt_cmp (op_eqD hr.r.units) p_eqP (me_name (i := 4) rfl (Or.inl rfl)) (me_name (i := 5) rfl (Or.inl rfl)) (nomark _)) me_int (me_ifExp (mt_cmp op_lt p_lt (me_name (i := 4) rfl (Or.inl rfl)) (me_name (i := 5) rfl (Or.inl rfl)) (nomark _)) (me_neg me_int) me_int)))
  (mss_one (ms_if (mt_cmp (op_neD hr.r.units) p_neP (me_callB (call_repr hr) p_repr rfl TT.b_repr (by decide +kernel) (ma_cons (me_call (ok_compare TT) (hr.mono (by decide)) rfl TT.g_compare (TT.f_compare.elim fun _ F => F.kp) (takes_of rfl rfl rfl rfl) (ma_cons (me_sub' rfl hr.u1 (me_name (i := 2) rfl (Or.inl rfl)) (me_name (i := 4) rfl (Or.inl rfl))) (ma_cons (me_sub' rfl hr.u1 (me_name (i := 2) rfl (Or.inl rfl)) (me_name (i := 5) rfl (Or.inl rfl))) (ma_cons (me_name (i := 1) rfl (Or.inr (Or.inl rfl))) ma_nil))) (consM_len (consM_len (consM_len nilM_len)))) ma_nil)) (me_callB (call_repr hr) p_repr rfl TT.b_repr (by decide +kernel) (ma_cons (me_name (i := 6) rfl (Or.inl rfl)) ma_nil)) (nomark _))
  (mss_one (ms_ret me_bl))
  mss_nil))))))
  (mss_cons (ms_if (mt_cmp (op_neD hr.r.units) p_neP (me_callK0 (okK1_compare TT) (hr.mono (by decide)) rfl TT.g_compare (TT.f_compare.elim fun _ F => F.kp) (takes_of rfl rfl rfl rfl) (mk_cons (me_name (i := 1) rfl (Or.inr (Or.inl rfl))) (mk_cons (me_sub' rfl hr.u1 (me_name (i := 2) rfl (Or.inl rfl)) me_int) (mk_cons (me_sub' rfl hr.u1 (me_name (i := 2) rfl (Or.inl rfl)) me_int) mk_nil))) (consM_len (consM_len (consM_len nilM_len))) rfl) me_int (nomark _))
  (mss_one (ms_ret me_bl))
  mss_nil)
  (mss_cons (ms_set (i := 7) sc_x_law_right.nd rfl (Or.inl rfl) (me_callTy call_tupleP p_tuple rfl TT.b_tuple (by decide +kernel) (ma_cons (me_of_mf (mf_lc (own := [("_law_k", 4)]) rfl sc_x_law_right.nd (mi_rng1 rfl TT.b_range (ma_cons me_int ma_nil)) (blkOk_by (N := n_x_law_right) (sc := defScope s_x_law_right) (by decide +kernel)) (fun _ _ _ _ _ => (mg_name (i := 4) sc_x_law_right.nd rfl (Or.inl rfl))) (fun _ _ _ _ _ => mts_nil) (fun _ _ _ _ _ => (me_add rfl (me_add rfl me_str (me_callTy call_strA p_str rfl TT.b_str (by decide +kernel) (ma_cons (me_name (i := 4) rfl (Or.inl rfl)) ma_nil))) me_str)))) ma_nil)))
  (mss_cons (ms_if (mt_cmp (op_neD hr.r.units) p_neP (me_call (ok_compare TT) (hr.mono (by decide)) rfl TT.g_compare (TT.f_compare.elim fun _ F => F.kp) (takes_of rfl rfl rfl rfl) (ma_cons (me_makeS TT.mk_Load (ok_LoadD_initD TT) (hr.mono (by decide)) rfl rfl TT.gc_Load (takes_of rfl rfl rfl rfl) (ma_cons (me_tup (ma_cons (me_sub' rfl hr.u1 (me_name (i := 7) rfl (Or.inl rfl)) me_int) (ma_cons me_int ma_nil))) ma_nil)) (ma_cons (me_makeS TT.mk_Load (ok_LoadD_initD TT) (hr.mono (by decide)) rfl rfl TT.gc_Load (takes_of rfl rfl rfl rfl) (ma_cons (me_tup (ma_cons (me_sub' rfl hr.u1 (me_name (i := 7) rfl (Or.inl rfl)) me_int) (ma_cons me_int ma_nil))) ma_nil)) (ma_cons (me_name (i := 7) rfl (Or.inl rfl)) ma_nil))) (consM_len (consM_len (consM_len nilM_len)))) me_int (nomark _))
  (mss_one (ms_ret me_bl))
  mss_nil)
  (mss_one (ms_ret (me_and (me_callO (ok_x_law_great_right TT) (hr.mono (by decide)) rfl TT.g_x_law_great_right (TT.f_x_law_great_right.elim fun _ F => F.kp) (takes_of rfl rfl rfl rfl) (i := 0) rfl (Or.inl rfl) (ma_cons (me_name (i := 1) rfl (Or.inr (Or.inl rfl))) ma_nil) (consM_len nilM_len)) (me_one (me_callO (ok_x_law_errors_right TT) (hr.mono (by decide)) rfl TT.g_x_law_errors_right (TT.f_x_law_errors_right.elim fun _ F => F.kp) (takes_of rfl rfl rfl rfl) (i := 0) rfl (Or.inl rfl) (ma_cons (me_name (i := 1) rfl (Or.inr (Or.inl rfl))) (ma_cons (me_sub' rfl hr.u1 (me_name (i := 2) rfl (Or.inl rfl)) (me_neg me_int)) ma_nil)) (consM_len (consM_len nilM_len))))))))))))))
def m_law : MM Fl := (retM (apM allF (consM (frM (lcM (itM rngF1 (consM (apM max2F (consM (constM (.int 2)) (consM (apM min2F (consM (apM lenF (consM (nameM 0) nilM)) (consM (constM (.int 5)) nilM))) nilM))) nilM)) [1] (gN 1) yesM (callFr f_x_law_right (callR f_x_law_source (consM (nameM 0) (consM (nameM 1) nilM)))))) nilM)))
def f_law : List D → Res D := runF m_law 2
theorem ok_law {P : Program} {w : World} {K : PySem.W.Frag} {mg : Str → Option Value} {base : Heap} {ca fa : Str → Addr} (TT : Txt K mg base ca fa) : FnG P w K mg base 13 (fa "law") [] (spF (TX K ca fa) 1 f_law) := TT.f_law.elim fun fd F =>
  fn_F (k := 12) (T := TX K ca fa) F sc_law (Fun.bind0 F fun _ _ _ _ _ _ us hl => match us, hl with | [_], _ => rfl) fun cdv A outer s H E hr =>
  (mss_one (ms_ret (me_callB (cr_all rfl) p_all rfl TT.b_all (by decide +kernel) (ma_cons (me_of_mf (mf_lc (own := [("_law_turn", 1)]) rfl sc_law.nd (mi_rng1 rfl TT.b_range (ma_cons (me_callB (call_max2 rfl) p_max2 rfl TT.b_max (by decide +kernel) (ma_cons me_int (ma_cons (me_callB (call_min2 rfl) p_min2 rfl TT.b_min (by decide +kernel) (ma_cons (me_callB call_len p_len rfl TT.b_len (by decide +kernel) (ma_cons (me_name (i := 0) rfl (Or.inr (Or.inl rfl))) ma_nil)) (ma_cons me_int ma_nil))) ma_nil))) ma_nil)) (blkOk_by (N := n_law) (sc := defScope s_law) (by decide +kernel)) (fun _ _ _ _ _ => (mg_name (i := 1) sc_law.nd rfl (Or.inl rfl))) (fun _ _ _ _ _ => mts_nil) (fun _ _ _ _ _ => (me_callFr (ok_x_law_right TT) (hr.mono (by decide)) rfl TT.g_x_law_right (TT.f_x_law_right.elim fun _ F => F.kp) takes0 (mf_call (ok_x_law_source TT) (hr.mono (by decide)) rfl TT.g_x_law_source (TT.f_x_law_source.elim fun _ F => F.kp) takes0 (ma_cons (me_name (i := 0) rfl (Or.inr (Or.inl rfl))) (ma_cons (me_name (i := 1) rfl (Or.inl rfl)) ma_nil)) (consM_len (consM_len nilM_len))))))) ma_nil))))
end K03
end

section
set_option Elab.async false
set_option linter.all false
set_option maxRecDepth 100000
set_option maxHeartbeats 4000000
set_option autoImplicit false
namespace K03
open PySem Fw L2
open TL (tl numL)
def Src (l : List D) : Prop := ∃ a b c : Int, l = [.int a, .int b, .int c] ∧ 0 ≤ a ∧ 0 ≤ b ∧ b < 2147483587
theorem pull_ev {s : List D} (hs : Src s) {w : Int} (hw : 0 < w) (hw2 : w < 2 ^ 200) : ∃ d s', f_x_law_pull (.ol true s) [.int w] = .ok (.int d, .ol true s') ∧ Src s' ∧ 0 ≤ d ∧ d < w := by
  obtain ⟨a, b, c, rfl, ha, hb, hb2⟩ := hs
  by_cases h0 : 0 < a
  · refine ⟨a % w, [.int (a / w), .int b, .int (c + 1)], ?_, ⟨_, _, _, rfl, Int.ediv_nonneg ha (Int.le_of_lt hw), hb, hb2⟩, Int.emod_nonneg _ (by omega), Int.emod_lt_of_pos _ hw⟩
    refine e_runM (s_nx rfl (s_rt (s_if_t (β1 := [some (.ol true [.int a, .int b, .int (c + 1)]), some (.im (.int w)), none, none, none]) ?_ (s_nx (s_set (e_op (a := .int a) rfl rfl (modD_ok hw)) rfl)
      (s_nx (s_setL (q := true) (q0 := true) (k := 0) (n := 0) (l := [.int a, .int b, .int (c + 1)]) (e_op (a := .int a) (b := .int w) rfl rfl (fdivD_ok hw hw2)) rfl rfl rfl rfl) (s_ret rfl)))))) rfl rfl
    exact (show _ = Res.ok (decide (0 < a), _) from rfl).trans (by rw [decide_eq_true h0]; rfl)
  · have e0 : a = 0 := by omega
    subst e0
    have mb : -(2 ^ 64 : Int) < b := by omega
    have mb2 : b < 2 ^ 64 := by omega
    have pos : (0 : Int) < 2147483587 := by decide
    refine ⟨((b * (b + 40009 + (c + 1)) + 524287 * (c + 1) + 7) % 2147483587 / 1021) % w, [.int 0, .int ((b * (b + 40009 + (c + 1)) + 524287 * (c + 1) + 7) % 2147483587), .int (c + 1)], ?_,
      ⟨_, _, _, rfl, by decide, Int.emod_nonneg _ (by decide), Int.emod_lt_of_pos _ pos⟩, Int.emod_nonneg _ (by omega), Int.emod_lt_of_pos _ hw⟩
    refine e_runM (s_nx rfl (s_nx (s_if_f (β1 := [some (.ol true [.int 0, .int b, .int (c + 1)]), some (.im (.int w)), none, none, none]) rfl rfl) (s_nx rfl (s_nx (s_set (e_op (e_ap (e_one (e_op (a := .int (b * (b + 40009 + (c + 1)) + 524287 * (c + 1))) (b := .int 7) (e_op (e_op (a := .int b) (b := .int (b + 40009 + (c + 1))) rfl rfl (mulD_l mb mb2)) (e_op (a := .int 524287) (b := .int (c + 1)) rfl rfl (mulD_l (by decide) (by decide))) rfl) rfl rfl)) rfl) rfl (modD_ok pos)) rfl)
      (s_nx rfl (s_ret (e_op (b := .int w) rfl rfl (modD_ok hw)))))))) rfl rfl
theorem s_retF {β β1 : En} {mf : MM (List D)} {ds : List D} (h : mf β = .ok (ds, β1)) : retF mf β = .ok (.rf ds, β1) := by unfold retF; rw [h]; rfl
theorem e_runR {β : En} {k1 : MM Fl} {n : Nat} {ds out : List D} (h : k1 (env0 n ds) = .ok (.rf out, β)) : runR k1 n ds = .ok out := by unfold runR; rw [h]; rfl
theorem atI_at {ns : List Int} {t : Nat} (h : t < ns.length) : L2.atI (ns.map D.int) (t : Int) = some (.int ns[t]) := by
  unfold L2.atI L2.ixN
  rw [List.length_map, if_pos (Int.natCast_nonneg t), if_pos (Int.ofNat_lt.mpr h)]
  show (ns.map D.int)[((t : Int)).toNat]? = _
  rw [Int.toNat_natCast, List.getElem?_map, List.getElem?_eq_getElem h]
  rfl
def imO (o : Option B) : Prop := o = none ∨ ∃ d, o = some (.im d)
theorem setB_im {β : En} {i : Nat} {o : Option B} {b : B} (h : β[i]? = some o) (ho : imO o) : setB i b β = .ok (β.set i (some b)) := by
  unfold setB
  rw [h]
  rcases ho with rfl | ⟨d, rfl⟩ <;> rfl
theorem source_ev {ns : List Int} {t : Nat} (ht : t ≤ 100) : ∃ s, f_x_law_source [.scr ns, .int t] = .ok s ∧ Src s := by
  have P : (0 : Int) < 2147483587 := by decide
  have h1 : ∃ cell : Int, (∀ β : En, β[0]? = some (some (.im (.scr ns))) → β[1]? = some (some (.im (.int t))) → iteM (truthM (opM ltD (nameM 1) (apM lenF (consM (nameM 0) nilM)))) (apM intF (consM (opM subF (nameM 0) (nameM 1)) nilM)) (constM (.int 0)) β = .ok (.int cell, β)) := by
    by_cases h : t < ns.length
    · refine ⟨ns[t], fun β h0 h1 => e_ite_t (β1 := β) (e_truth (e_op (e_name h1) (e_ap (e_one (e_name h0)) rfl) ?_)) (e_ap (e_one (e_op (d := .int ns[t]) (e_name h0) (e_name h1) ?_)) rfl)⟩
      · show Res.ok (D.bl (decide ((t : Int) < (ns.length : Int)))) = _
        rw [decide_eq_true (Int.ofNat_lt.mpr h)]
      · show ixF (.scr ns) (.int t) = _
        unfold ixF
        dsimp only
        unfold L2.atI L2.ixN
        rw [if_pos (Int.natCast_nonneg t), if_pos (Int.ofNat_lt.mpr h)]
        show (match (some ((t : Int)).toNat).bind (fun j => ns[j]?) with | some d => Res.ok (D.int d) | none => .bad) = _
        rw [Int.toNat_natCast, Option.bind_some, List.getElem?_eq_getElem h]
    · refine ⟨0, fun β h0 h1 => e_ite_f (β1 := β) (e_truth (e_op (e_name h1) (e_ap (e_one (e_name h0)) rfl) ?_)) rfl⟩
      show Res.ok (D.bl (decide ((t : Int) < (ns.length : Int)))) = _
      rw [decide_eq_false (by omega)]
  obtain ⟨cell, hcell⟩ := h1
  have hif : ∀ (sd : Int) (x4 x5 : Option B), 0 ≤ sd → sd < 2147483587 → imO x4 → imO x5 → ∃ (sd' : Int) (y4 y5 : Option B), 0 ≤ sd' ∧ sd' < 2147483587 ∧ ifM (truthM (opM ltD (nameM 1) (apM lenF (consM (nameM 0) nilM)))) (seqM (setM 5 (opM modD (apM intF (consM (nameM 2) nilM)) (constM (.int 2147483587)))) (setM 3 (opM modD (apM intF (consM (opM addD (nameM 3) (opM mulD (nameM 5) (constM (.int 31)))) nilM)) (constM (.int 2147483587))))) passM [some (.im (.scr ns)), some (.im (.int t)), some (.im (.int cell)), some (.im (.int sd)), x4, x5] = .ok (.nx, [some (.im (.scr ns)), some (.im (.int t)), some (.im (.int cell)), some (.im (.int sd')), y4, y5]) := by
    intro sd x4 x5 hs hs2 h4 h5
    by_cases h : t < ns.length
    · refine ⟨(sd + cell % 2147483587 * 31) % 2147483587, x4, some (.im (.int (cell % 2147483587))), Int.emod_nonneg _ (by decide), Int.emod_lt_of_pos _ P, s_if_t (e_truth (e_op (b := .int ns.length) rfl rfl ?_))
        (s_nx (s_set (e_op (a := .int cell) rfl rfl (modD_ok P)) (setB_im (o := x5) rfl h5)) (s_set (e_op (a := .int (sd + cell % 2147483587 * 31)) (e_ap (e_one (e_op (a := .int sd) rfl (e_op (a := .int (cell % 2147483587)) (b := .int 31) rfl rfl (mulD_r (by decide) (by decide))) rfl)) rfl) rfl (modD_ok P)) rfl))⟩
      show Res.ok (D.bl (decide ((t : Int) < (ns.length : Int)))) = _
      rw [decide_eq_true (Int.ofNat_lt.mpr h)]
    · refine ⟨sd, x4, x5, hs, hs2, s_if_f (e_truth (e_op (b := .int ns.length) rfl rfl ?_)) rfl⟩
      show Res.ok (D.bl (decide ((t : Int) < (ns.length : Int)))) = _
      rw [decide_eq_false (by omega)]
  have hfor : ∀ (ms : List Int) (sd : Int) (x4 x5 : Option B), 0 ≤ sd → sd < 2147483587 → imO x4 → imO x5 → ∃ (sd' : Int) (y4 y5 : Option B), 0 ≤ sd' ∧ sd' < 2147483587 ∧ imO y4 ∧ imO y5 ∧ forM (gN 4) (seqM (setM 5 (opM modD (apM intF (consM (nameM 4) nilM)) (constM (.int 1000003)))) (setM 3 (opM modD (apM intF (consM (opM addD (opM addD (opM mulD (nameM 3) (constM (.int 8191))) (opM mulD (nameM 5) (constM (.int 131)))) (nameM 1)) nilM)) (constM (.int 2147483587))))) (ms.map D.int) [some (.im (.scr ns)), some (.im (.int t)), some (.im (.int cell)), some (.im (.int sd)), x4, x5] = .ok (.nx, [some (.im (.scr ns)), some (.im (.int t)), some (.im (.int cell)), some (.im (.int sd')), y4, y5]) := by
    intro ms
    induction ms with
    | nil => exact fun sd x4 x5 a b c d => ⟨sd, x4, x5, a, b, c, d, rfl⟩
    | cons n ms ih =>
      intro sd x4 x5 a b c d
      have q : ∀ (z : Int), imO (some (.im (.int z))) := fun z => .inr ⟨_, rfl⟩
      obtain ⟨sd', y4, y5, e1, e2, e3, e4, e5⟩ := ih ((sd * 8191 + n % 1000003 * 131 + t) % 2147483587) (some (.im (.int n))) (some (.im (.int (n % 1000003)))) (Int.emod_nonneg _ (by decide)) (Int.emod_lt_of_pos _ P) (q _) (q _)
      refine ⟨sd', y4, y5, e1, e2, e3, e4, f_cons (setB_im (o := x4) rfl c) (s_nx (s_set (e_op (a := .int n) rfl rfl (modD_ok (by decide))) (setB_im (o := x5) rfl d)) (s_set (e_op (a := .int (sd * 8191 + n % 1000003 * 131 + t)) (e_ap (e_one (e_op (a := .int (sd * 8191 + n % 1000003 * 131)) (e_op (e_op (a := .int sd) (b := .int 8191) rfl rfl (mulD_r (by decide) (by decide))) (e_op (a := .int (n % 1000003)) (b := .int 131) rfl rfl (mulD_r (by decide) (by decide))) rfl) rfl rfl)) rfl) rfl (modD_ok P)) rfl)) e5⟩
  obtain ⟨sd', y4, y5, e1, e2, e3, e4, e5⟩ := hfor ns (1009 + 97 * t) none none (by omega) (by omega) (.inl rfl) (.inl rfl)
  obtain ⟨sd2, z4, z5, g1, g2, g3⟩ := hif sd' y4 y5 e1 e2 e3 e4
  have hlast : ∃ a : Int, 0 ≤ a ∧ ∀ β : En, β[2]? = some (some (.im (.int cell))) → iteM (orT (truthM (opM ltD (nameM 2) (constM (.int 0)))) (truthM (opM geD (nameM 2) (opM powD (constM (.int 10)) (constM (.int 18)))))) (apM absF (consM (nameM 2) nilM)) (constM (.int 0)) β = .ok (.int a, β) := by
    by_cases h : cell < 0
    · refine ⟨-cell, by omega, fun β hb => e_ite_t (β1 := β) (e_orT_t (e_truth (e_op (e_name hb) rfl ?_))) (e_ap (e_one (e_name hb)) ?_)⟩
      · show Res.ok (D.bl (decide (cell < 0))) = _
        rw [decide_eq_true h]
      · show Res.ok (D.int (if cell < 0 then -cell else cell)) = _
        rw [if_pos h]
    · by_cases h2 : 10 ^ 18 ≤ cell
      · refine ⟨cell, by omega, fun β hb => e_ite_t (β1 := β) (e_orT_f (β1 := β) (e_truth (e_op (e_name hb) rfl ?_)) (e_truth (e_op (a := .int cell) (b := .int (10 ^ 18)) (e_name hb) rfl ?_))) (e_ap (e_one (e_name hb)) ?_)⟩
        · show Res.ok (D.bl (decide (cell < 0))) = _
          rw [decide_eq_false h]
        · show Res.ok (D.bl (decide (10 ^ 18 ≤ cell))) = _
          rw [decide_eq_true h2]
        · show Res.ok (D.int (if cell < 0 then -cell else cell)) = _
          rw [if_neg h]
      · refine ⟨0, by omega, fun β hb => e_ite_f (β1 := β) (e_orT_f (β1 := β) (e_truth (e_op (e_name hb) rfl ?_)) (e_truth (e_op (a := .int cell) (b := .int (10 ^ 18)) (e_name hb) rfl ?_))) rfl⟩
        · show Res.ok (D.bl (decide (cell < 0))) = _
          rw [decide_eq_false h]
        · show Res.ok (D.bl (decide (10 ^ 18 ≤ cell))) = _
          rw [decide_eq_false h2]
  obtain ⟨a, ha, hlast⟩ := hlast
  refine ⟨[.int a, .int sd2, .int 0], ?_, a, sd2, 0, rfl, ha, g1, g2⟩
  refine e_runR (s_nx (s_set (hcell _ rfl rfl) rfl) (s_nx (s_set (e_op (a := .int 1009) (b := .int (97 * t)) rfl (e_op (a := .int 97) (b := .int t) rfl rfl (mulD_l (by decide) (by decide))) rfl) rfl) (s_nx (s_for rfl e5) (s_nx g3 (s_retF (e_lsz (e_cons (hlast _ rfl) (e_cons rfl (e_one rfl))) (show (3 : Nat) ≤ 1000000 by decide)))))))
abbrev smallT : Str := "abcdefghijklmnopqrstuvwxyz"
abbrev figT : Str := "0123456789"
theorem small_tl : tl smallT = List.range' 97 26 := by kernel_rfl
theorem fig_tl : tl figT = List.range' 48 10 := by kernel_rfl
structure OkT (x : Str) : Prop where
  cp : ∀ c ∈ tl x, c < 1114112
  len : (tl x).length ≤ 1000
theorem OkT.ok {x : Str} (h : OkT x) : PyData.strOk x = true := by
  unfold PyData.strOk
  rw [Array.all_eq_true']
  intro c hc
  exact decide_eq_true (h.cp c (Array.mem_toList_iff.mpr hc))
theorem tl_len (x : Str) : (tl x).length = x.length := Array.length_toList
theorem OkT.l6 {x : Str} (h : OkT x) : x.length ≤ 1000000 := by have := h.len; rw [tl_len] at this; omega
theorem OkT.app {x y : Str} (hx : OkT x) (hy : OkT y) (h : (tl x).length + (tl y).length ≤ 1000) : OkT (x ++ y) :=
  ⟨fun c hc => by rw [TL.tl_append] at hc; exact (List.mem_append.mp hc).elim (hx.cp c) (hy.cp c), by rw [TL.tl_append, List.length_append]; exact h⟩
theorem str_ext {x y : Str} (h : tl x = tl y) : x = y := by
  cases x; cases y
  exact congrArg Str.mk (Array.toList_inj.mp h)
theorem eqPD_str {x y : Str} (hx : OkT x) (hy : OkT y) : eqPD (.str x) (.str y) = .ok (.bl (x == y)) := by
  unfold eqPD eqP
  simp only [toPy]
  rw [if_pos ⟨by unfold SeqAt.shaped; simp [PyData.canLay0, PyData.depth, hx.ok], by unfold SeqAt.shaped; simp [PyData.canLay0, PyData.depth, hy.ok]⟩]
  rfl
theorem okT_lit {x : Str} (h : ((tl x).all (fun c => decide (c < 1114112)) && decide ((tl x).length ≤ 1000)) = true) : OkT x := by
  rw [Bool.and_eq_true] at h
  exact ⟨fun c hc => of_decide_eq_true (List.all_eq_true.mp h.1 c hc), of_decide_eq_true h.2⟩
theorem okT_nil : OkT (Str.ofString "") := okT_lit (by kernel_rfl)
theorem okT_sign {c : Nat} (h : c < 1114112) : OkT ⟨#[c]⟩ := ⟨fun d hd => by
  have : d ∈ [c] := hd
  rw [List.mem_singleton] at this
  omega, by show (1 : Nat) ≤ 1000; decide⟩
def smallC (c : Nat) : Bool := decide (c ∈ tl smallT)
def figC (c : Nat) : Bool := decide (c ∈ tl figT)
theorem smallC_iff {c : Nat} : smallC c = true ↔ 97 ≤ c ∧ c < 123 := by
  unfold smallC
  rw [decide_eq_true_iff, small_tl, List.mem_range'_1]
theorem figC_iff {c : Nat} : figC c = true ↔ 48 ≤ c ∧ c < 58 := by
  unfold figC
  rw [decide_eq_true_iff, fig_tl, List.mem_range'_1]
def nmL (l : List Nat) : Bool := match l with
  | [] => false
  | c :: r => decide ((c :: r).length ≤ 8) && !figC c && (c :: r).all fun c => smallC c || figC c
theorem signs_eq (x : Str) : signs x = (tl x).map fun c => D.str ⟨#[c]⟩ := rfl
theorem bls_map {α : Type} (f : α → Bool) : ∀ l : List α, blsD (l.map fun c => D.bl (f c)) = some (l.map f)
  | [] => rfl
  | a :: l => by
    show (blsD (l.map fun c => D.bl (f c))).map (f a :: ·) = _
    rw [bls_map f l]; rfl
theorem allF_map {α : Type} (f : α → Bool) (l : List α) : allF [.lst (l.map fun c => D.bl (f c))] = .ok (.bl (l.all f)) := by
  unfold allF
  simp only [bls_map]
  rw [List.all_map]; rfl
theorem anyF_map {α : Type} (f : α → Bool) (l : List α) : anyF [.lst (l.map fun c => D.bl (f c))] = .ok (.bl (l.any f)) := by
  unfold anyF
  simp only [bls_map]
  rw [List.any_map]; rfl
theorem isiB_ss (x : Str) : isiB "str" (.str x) = true := by kernel_rfl
theorem atI_0 {α : Type} {c : α} {r : List α} : L2.atI (c :: r) 0 = some c := by
  unfold L2.atI L2.ixN
  rw [if_pos (by decide), if_pos (by rw [List.length_cons]; omega)]
  rfl
theorem subF_first {c : Nat} {r : List Nat} {x : Str} (h : tl x = c :: r) (hl : x.length ≤ 1000000) : subF (.str x) (.int 0) = .ok (.str ⟨#[c]⟩) := by
  show ixF (.str x) (.int 0) = _
  unfold ixF
  dsimp only
  rw [if_pos hl]
  have e : x.cps.toList = c :: r := h
  rw [e, atI_0]
theorem is_name_ev {x : Str} (h : OkT x) : f_is_name [.str x] = .ok (.bl (nmL (tl x))) := by
  have hi : ifM (notT (truthM (isiM (isiB "str") (nameM 0)))) (retM (constM (.bl false))) passM [some (.im (.str x)), none] = .ok (.nx, [some (.im (.str x)), none]) :=
    s_if_f (e_notT (k := true) (e_truth (show Res.ok (D.bl (isiB "str" (.str x)), _) = _ by rw [isiB_ss]))) rfl
  refine e_runF (β := [some (.im (.str x)), none]) (s_nx hi ?_)
  cases hx : tl x with
  | nil =>
    refine s_rt (s_if_t (e_orT_t (e_truth (e_op rfl rfl ((eqPD_str h okT_nil).trans ?_)))) (s_ret rfl))
    rw [show x = (Str.ofString "") from str_ext (by rw [hx]; kernel_rfl)]
    rfl
  | cons c r =>
    have ne : (x == (Str.ofString "")) = false := beq_eq_false_iff_ne.mpr fun e => by rw [e] at hx; cases (show ([] : List Nat) = c :: r from hx)
    have hlen : x.length = (c :: r).length := by rw [← tl_len, hx]
    have t1 : truthM (opM eqPD (nameM 0) (constM (.str ""))) [some (.im (.str x)), none] = .ok (false, [some (.im (.str x)), none]) := e_truth (e_op rfl rfl ((eqPD_str h okT_nil).trans (by rw [ne])))
    have t2 : truthM (opM gtD (apM lenF (consM (nameM 0) nilM)) (constM (.int 8))) [some (.im (.str x)), none] = .ok (decide (8 < (c :: r).length), [some (.im (.str x)), none]) := by
      refine e_truth (e_op (e_ap (e_one rfl) (d := .int x.length) (by unfold lenF; dsimp only; rw [if_pos h.l6])) rfl ?_)
      show Res.ok (D.bl (decide ((8 : Int) < (x.length : Int)))) = _
      rw [hlen]
      congr 2
      exact decide_eq_decide.mpr (by omega)
    have t3 : truthM (opM (inF false) (opM subF (nameM 0) (constM (.int 0))) (constM (.str "0123456789"))) [some (.im (.str x)), none] = .ok (figC c, [some (.im (.str x)), none]) := e_truth (e_op (e_op rfl rfl (subF_first hx h.l6)) rfl rfl)
    have t4 : lcM (iterK (nameM 0)) [1] (gN 1) yesM (orM (opM (inF false) (nameM 1) (constM (.str "abcdefghijklmnopqrstuvwxyz"))) (opM (inF false) (nameM 1) (constM (.str "0123456789")))) [some (.im (.str x)), none] = .ok (((c :: r).map fun c => D.bl (smallC c || figC c)), [some (.im (.str x)), none]) := by
      have ei : iterK (nameM 0) [some (.im (.str x)), none] = .ok ((c :: r).map (fun c => D.str ⟨#[c]⟩), [some (.im (.str x)), none]) := by rw [← hx]; rfl
      exact e_lcA ei (by rw [← hlen]; exact h.l6) rfl fun k _ => ⟨[some (.im (.str x)), some (.im (.str ⟨#[k]⟩))], rfl, e_or2 (e_op rfl rfl rfl) (e_op rfl rfl rfl), rfl⟩
    show _ = Res.ok (Fl.rt (D.bl (decide ((c :: r).length ≤ 8) && !figC c && (c :: r).all fun c => smallC c || figC c)), _)
    by_cases h8 : 8 < (c :: r).length
    · rw [decide_eq_false (show ¬ (c :: r).length ≤ 8 by omega), Bool.false_and, Bool.false_and]
      exact s_rt (s_if_t (e_orT_f t1 (e_orT_t (t2.trans (by rw [decide_eq_true h8])))) (s_ret rfl))
    · rw [decide_eq_true (show (c :: r).length ≤ 8 by omega), Bool.true_and]
      cases hf : figC c with
      | true => exact s_rt (s_if_t (e_orT_f t1 (e_orT_f (t2.trans (by rw [decide_eq_false h8])) (t3.trans (by rw [hf])))) (s_ret rfl))
      | false => exact s_nx (s_if_f (e_orT_f t1 (e_orT_f (t2.trans (by rw [decide_eq_false h8])) (t3.trans (by rw [hf])))) rfl) (s_ret (e_ap (e_one (e_fr t4)) (allF_map _ _)))
theorem is_tup2 {a b : D} : f_is_tuple_of [.tup [a, b], .int 2] = .ok (.bl true) := rfl
theorem is_whole_int {n : Int} : f_is_whole [.int n] = .ok (.bl true) := rfl
theorem is_part_ev {x : Str} {n : Int} (h : OkT x) : f_is_part [.tup [.str x, .int n]] = .ok (.bl (nmL (tl x) && decide (0 < n))) := by
  refine e_runF (β := [some (.im (.tup [.str x, .int n]))]) (s_ret (e_andM_t (β1 := [some (.im (.tup [.str x, .int n]))]) (e_call (e_cons rfl (e_one rfl)) is_tup2) ?_))
  exact e_and2 (e_call (e_one (e_op rfl rfl rfl)) (is_name_ev h)) fun _ => e_andM_t (β1 := [some (.im (.tup [.str x, .int n]))]) (e_call (e_one (e_op rfl rfl rfl)) is_whole_int) (e_op rfl rfl rfl)
abbrev Row := Str × Int
def rowD (p : Row) : D := .tup [.str p.1, .int p.2]
def kvD (p : Row) : Key × D := (.inr p.1, .int p.2)
structure GoodR (p : Row) : Prop where
  ok : OkT p.1
  nm : nmL (tl p.1) = true
  pos : 0 < p.2
theorem part_row {p : Row} (h : GoodR p) : f_is_part [rowD p] = .ok (.bl true) := by
  have e := is_part_ev (n := p.2) h.ok
  rw [h.nm, decide_eq_true h.pos] at e
  exact e
def cntO (rows : List Row) (n : Str) : Option Int := (rows.find? fun p => decide (p.1 = n)).map (·.2)
def cnt (rows : List Row) (n : Str) : Int := (cntO rows n).getD 0
theorem val_kv (n : Str) : ∀ rows : List Row, valD (rows.map kvD) (.inr n) = (cntO rows n).map .int
  | [] => rfl
  | p :: rows => by
    unfold valD cntO
    rw [List.map_cons, List.find?_cons, List.find?_cons]
    have e : decide ((kvD p).1 = Sum.inr n) = decide (p.1 = n) := decide_eq_decide.mpr ⟨fun h => by unfold kvD at h; cases h; rfl, fun h => by unfold kvD; rw [h]⟩
    rw [e]
    cases decide (p.1 = n) with
    | true => rfl
    | false => exact val_kv n rows
theorem cntO_none {n : Str} {rows : List Row} (h : n ∉ rows.map (·.1)) : cntO rows n = none := by
  unfold cntO
  rw [List.find?_eq_none.mpr fun p hp => ?_]
  · rfl
  · rw [decide_eq_true_iff]
    exact fun e => h (List.mem_map.mpr ⟨p, hp, e⟩)
theorem cntO_some {n : Str} {rows : List Row} (h : n ∈ rows.map (·.1)) : ∃ p ∈ rows, p.1 = n ∧ cntO rows n = some p.2 := by
  unfold cntO
  cases hf : rows.find? fun p => decide (p.1 = n) with
  | none =>
    obtain ⟨p, hp, e⟩ := List.mem_map.mp h
    exact absurd (decide_eq_true e) (by simpa using List.find?_eq_none.mp hf p hp)
  | some p => exact ⟨p, List.mem_of_find?_eq_some hf, of_decide_eq_true (List.find?_some (p := fun p : Row => decide (p.1 = n)) hf), rfl⟩
theorem any_key {n : Str} {rows : List Row} (h : n ∉ rows.map (·.1)) : ((rows.map kvD).any fun kv => decide (kv.1 = Sum.inr n)) = false := by
  rw [List.any_eq_false]
  intro kv hk
  obtain ⟨p, hp, rfl⟩ := List.mem_map.mp hk
  rw [decide_eq_true_iff]
  intro e
  unfold kvD at e
  cases e
  exact h (List.mem_map.mpr ⟨p, hp, rfl⟩)
abbrev cBody : MM Fl := (seqM (ifM (orT (notT (truthM (callM f_is_part (consM (nameM 3) nilM)))) (flatT (truthM (opM (inF false) (opM subF (nameM 3) (constM (.int 0))) (nameM 1))))) (raiseM "InvalidPairs" "index" (nameM 2)) passM) (putM 1 (opM subF (nameM 3) (constM (.int 1))) (opM subF (nameM 3) (constM (.int 0)))))
abbrev cTg : GM := gTp (gCs (gN 2) (gCs (gN 3) gNl))
theorem cTg_ev {T C : Option B} {o2 o3 : Option B} {i : Int} {d : D} (h2 : imO o2) (h3 : imO o3) : cTg (.tup [.int i, d]) [T, C, o2, o3] = .ok [T, C, some (.im (.int i)), some (.im d)] := by
  rcases h2 with rfl | ⟨x, rfl⟩ <;> rcases h3 with rfl | ⟨y, rfl⟩ <;> rfl
theorem imS {d : D} : imO (some (.im d)) := .inr ⟨d, rfl⟩
theorem c_step {T : D} {pre : List Row} {p : Row} {i : Int} (h : GoodR p) (hn : p.1 ∉ pre.map (·.1)) (hl : pre.length < 1000) :
    cBody [some (.im T), some (.od false (pre.map kvD)), some (.im (.int i)), some (.im (rowD p))] = .ok (.nx, [some (.im T), some (.od false ((pre ++ [p]).map kvD)), some (.im (.int i)), some (.im (rowD p))]) := by
  refine s_nx (s_if_f (e_orT_f (e_notT (k := true) (e_truth (e_call (e_one rfl) (part_row h)))) (e_flatT (e_truth (e_op (e_op rfl rfl rfl) rfl ?_)))) rfl) ?_
  · show (match some ((valD (pre.map kvD) (.inr p.1)).isSome) with | some k => Res.ok (D.bl (if false = true then !k else k)) | none => .bad) = .ok (.bl false)
    rw [val_kv, cntO_none hn]
    rfl
  · show (if lenOk (pre.map kvD).length = true then Res.ok (Fl.nx, ([some (.im T), some (.od false (putD (pre.map kvD) (.inr p.1) (.int p.2))), some (.im (.int i)), some (.im (rowD p))] : En)) else .bad) = _
    rw [if_pos (by unfold lenOk; rw [List.length_map]; exact decide_eq_true (by omega))]
    unfold putD
    rw [any_key hn, if_neg Bool.false_ne_true, List.map_append]
    rfl
theorem c_bad {T d : D} {C : B} {i : Int} (h : f_is_part [d] = .ok (.bl false)) : cBody [some (.im T), some C, some (.im (.int i)), some (.im d)] = .exc "InvalidPairs" [("index", .int i)] :=
  s_ex (s_if_t (e_orT_t (e_notT (k := false) (e_truth (e_call (e_one rfl) h)))) (s_raise rfl))
theorem c_dup {T : D} {pre : List Row} {p : Row} {i : Int} (h : GoodR p) (hn : p.1 ∈ pre.map (·.1)) : cBody [some (.im T), some (.od false (pre.map kvD)), some (.im (.int i)), some (.im (rowD p))] = .exc "InvalidPairs" [("index", .int i)] := by
  refine s_ex (s_if_t (e_orT_f (e_notT (k := true) (e_truth (e_call (e_one rfl) (part_row h)))) (e_flatT (e_truth (e_op (e_op rfl rfl rfl) rfl ?_)))) (s_raise rfl))
  show (match some ((valD (pre.map kvD) (.inr p.1)).isSome) with | some k => Res.ok (D.bl (if false = true then !k else k)) | none => .bad) = .ok (.bl true)
  obtain ⟨q, _, _, e⟩ := cntO_some hn
  rw [val_kv, e]
  rfl
theorem c_loop {T : D} : ∀ (l : List Row) (pre : List Row) (i : Nat) (o2 o3 : Option B) (rest : List D), (∀ p ∈ l, GoodR p) → ((pre ++ l).map (·.1)).Nodup → (pre ++ l).length < 1000 → imO o2 → imO o3 →
    ∃ o2' o3', imO o2' ∧ imO o3' ∧ forM cTg cBody (enumD i (l.map rowD ++ rest)) [some (.im T), some (.od false (pre.map kvD)), o2, o3] = forM cTg cBody (enumD (i + l.length) rest) [some (.im T), some (.od false ((pre ++ l).map kvD)), o2', o3']
  | [], pre, i, o2, o3, rest, _, _, _, h2, h3 => ⟨o2, o3, h2, h3, by rw [List.append_nil]; rfl⟩
  | p :: l, pre, i, o2, o3, rest, hg, nd, hl, h2, h3 => by
    have hn : p.1 ∉ pre.map (·.1) := fun hm => by
      rw [List.map_append, List.nodup_append] at nd
      exact nd.2.2 _ hm _ (by rw [List.map_cons]; exact List.mem_cons_self) rfl
    have e : pre ++ p :: l = (pre ++ [p]) ++ l := by rw [List.append_assoc]; rfl
    obtain ⟨o2', o3', a, b, c⟩ := c_loop l (pre ++ [p]) (i + 1) (some (.im (.int i))) (some (.im (rowD p))) rest (fun q hq => hg q (List.mem_cons_of_mem _ hq)) (e ▸ nd) (e ▸ hl) imS imS
    refine ⟨o2', o3', a, b, ?_⟩
    rw [e, show i + (p :: l).length = i + 1 + l.length by rw [List.length_cons]; omega, ← c]
    exact f_cons (cTg_ev h2 h3) (c_step (hg p List.mem_cons_self) hn (by rw [List.length_append, List.length_cons] at hl; omega)) rfl
structure GoodL (rows : List Row) : Prop where
  all : ∀ p ∈ rows, GoodR p
  nd : (rows.map (·.1)).Nodup
  len : rows.length < 100
theorem counts_ev {rows : List Row} (h : GoodL rows) : f_counts_in [.tup (rows.map rowD)] = .ok (.dic true (rows.map kvD)) := by
  obtain ⟨o2, o3, _, _, e⟩ := c_loop (T := .tup (rows.map rowD)) rows [] 0 none none [] h.all h.nd (by have := h.len; rw [List.nil_append]; omega) (.inl rfl) (.inl rfl)
  rw [List.append_nil] at e
  exact e_runF (β := [some (.im (.tup (rows.map rowD))), some (.im (.dic true (rows.map kvD))), o2, o3]) (s_nx rfl (s_nx (s_for rfl e) rfl))
theorem counts_exc {rows : List Row} {d : D} {rest : List D} (h : GoodL rows) (hd : f_is_part [d] = .ok (.bl false) ∨ ∃ p, GoodR p ∧ d = rowD p ∧ p.1 ∈ rows.map (·.1)) : f_counts_in [.tup (rows.map rowD ++ d :: rest)] = .exc "InvalidPairs" [("index", .int rows.length)] := by
  obtain ⟨o2, o3, h2, h3, e⟩ := c_loop (T := .tup (rows.map rowD ++ d :: rest)) rows [] 0 none none (d :: rest) h.all h.nd (by have := h.len; rw [List.nil_append]; omega) (.inl rfl) (.inl rfl)
  refine x_runF (s_nx (β1 := [some (.im (.tup (rows.map rowD ++ d :: rest))), some (.od false []), none, none]) rfl (s_ex (s_for rfl (e.trans ?_))))
  rw [Nat.zero_add]
  rcases hd with hd | ⟨p, hp, rfl, hm⟩
  · exact f_exc (cTg_ev h2 h3) (c_bad hd)
  · exact f_exc (cTg_ev h2 h3) (c_dup hp hm)
theorem asc_strs {names : List Str} (hl : names.length < 4000) : ∀ d : D, (∀ β : En, β[0]? = some (some (.im d)) → β[1]? = some none → β.length = 2 → iterK (nameM 0) β = .ok (names.map D.str, β)) → f_ascending [d] = .ok (.lst ((ascS names).map .str)) := by
  intro d hi
  refine e_runF (β := [some (.im d), none]) (s_ret (e_un (e_fr (e_lcA (f := fun x => D.str x) (hi _ rfl rfl rfl) (by omega) rfl fun x _ => ⟨[some (.im d), some (.im (.str x))], rfl, rfl, rfl⟩)) ?_))
  show (match strsD (names.map D.str) with | some xs => if xs.length < 4000 then Res.ok (D.lst ((ascS xs).map .str)) else .bad | none => .bad) = _
  rw [strsD_map]
  dsimp only
  rw [if_pos hl]
theorem asc_dict {rows : List Row} (h : rows.length < 4000) : f_ascending [.dic true (rows.map kvD)] = .ok (.lst ((ascS (rows.map (·.1))).map .str)) :=
  asc_strs (by rw [List.length_map]; exact h) _ fun β h0 _ _ => by
    unfold iterK
    rw [e_name h0]
    show Res.ok (((rows.map kvD).map fun kv => keyAs kv.1), β) = _
    rw [List.map_map, List.map_map]
    rfl
theorem asc_list {names : List Str} (h : names.length < 4000) : f_ascending [.lst (names.map .str)] = .ok (.lst ((ascS names).map .str)) :=
  asc_strs h _ fun β h0 _ _ => by
    unfold iterK
    rw [e_name h0]
    rfl
theorem mem_asc {names : List Str} {n : Str} : n ∈ ascS names ↔ n ∈ names := by
  unfold ascS
  rw [(sortS_perm _).mem_iff, mem_dedS]
theorem asc_nodup (names : List Str) : (ascS names).Nodup := (sortS_perm _).nodup_iff.mpr (nodup_dedS names)
theorem asc_pw (names : List Str) : (ascS names).Pairwise (fun x y => leS x y = true) := sortS_pw _
def srt (rows : List Row) : List Row := (ascS (rows.map (·.1))).map fun n => (n, cnt rows n)
theorem cnt_of {rows : List Row} {n : Str} (h : n ∈ rows.map (·.1)) : ∃ p ∈ rows, p.1 = n ∧ cntO rows n = some (cnt rows n) ∧ cnt rows n = p.2 := by
  obtain ⟨p, hp, e1, e2⟩ := cntO_some h
  exact ⟨p, hp, e1, by unfold cnt; rw [e2]; rfl, by unfold cnt; rw [e2]; rfl⟩
theorem asc_len {names : List Str} : (ascS names).length ≤ names.length := by
  unfold ascS
  rw [(sortS_perm _).length_eq]
  induction names with
  | nil => exact Nat.le_refl _
  | cons a l ih =>
    unfold dedS
    split
    · rw [List.length_cons]; omega
    · rw [List.length_cons, List.length_cons]; omega
theorem subF_kv {rows : List Row} {n : Str} (h : n ∈ rows.map (·.1)) {l : Bool} : subF (.dic l (rows.map kvD)) (.str n) = .ok (.int (cnt rows n)) := by
  obtain ⟨p, _, _, e, _⟩ := cnt_of h
  show (match valD (rows.map kvD) (.inr n) with | some d => Res.ok d | none => .bad) = _
  rw [val_kv, e]
  rfl
theorem pairs_ev {rows : List Row} (h : GoodL rows) : f_pairs_of [.dic true (rows.map kvD)] = .ok (.tup ((srt rows).map rowD)) := by
  have hl := h.len
  have key : lcM (iterK (callM f_ascending (consM (nameM 0) nilM))) [1] (gN 1) (truthM (opM nePD (opM subF (nameM 0) (nameM 1)) (constM (.int 0)))) (apM tupF (consM (nameM 1) (consM (opM subF (nameM 0) (nameM 1)) nilM))) [some (.im (.dic true (rows.map kvD))), none] = .ok ((((ascS (rows.map (·.1))).filter fun _ => true).map fun n => rowD (n, cnt rows n)), [some (.im (.dic true (rows.map kvD))), none]) := by
    refine e_lcF (src := D.str) (β1 := [some (.im (.dic true (rows.map kvD))), none]) ?_ ?_ rfl fun n hn => ⟨[some (.im (.dic true (rows.map kvD))), some (.im (.str n))], rfl, ?_, fun _ => ?_, rfl⟩
    · unfold iterK
      rw [e_call (d := .lst ((ascS (rows.map (·.1))).map .str)) (e_one rfl) (asc_dict (by omega))]
      rfl
    · have := asc_len (names := rows.map (·.1))
      rw [List.length_map] at this
      omega
    · obtain ⟨p, hp, _, _, e⟩ := cnt_of (mem_asc.mp hn)
      refine e_truth (e_op (e_op rfl rfl (subF_kv (mem_asc.mp hn))) rfl ?_)
      show Res.ok (D.bl (!(cnt rows n == 0))) = _
      rw [beq_eq_false_iff_ne.mpr (by have := (h.all p hp).pos; omega)]
      rfl
    · exact e_ap (e_cons rfl (e_one (e_op rfl rfl (subF_kv (mem_asc.mp hn))))) rfl
  refine e_runF (β := [some (.im (.dic true (rows.map kvD))), none]) (s_ret (e_ap (e_one (e_fr key)) ?_))
  show Res.ok (D.tup _) = _
  rw [List.filter_eq_self.mpr (fun _ _ => rfl)]
  unfold srt
  rw [List.map_map]
  rfl
def loadF (sr : List Row) : List (Str × D) := [("pairs", .tup (sr.map rowD)), ("names", .tup (sr.map fun p => .str p.1)), ("size", .int (sr.map (·.2)).sum)]
def loadD (sr : List Row) : D := .obj "Load" (loadF sr)
theorem nums_map {α : Type} (f : α → Int) : ∀ l : List α, numsD (l.map fun c => D.int (f c)) = some (l.map f)
  | [] => rfl
  | a :: l => by
    show (numsD (l.map fun c => D.int (f c))).map (f a :: ·) = _
    rw [nums_map f l]; rfl
theorem sumF_map {α : Type} (f : α → Int) (l : List α) : sumF [.lst (l.map fun c => D.int (f c))] = .ok (.int (l.map f).sum) := by
  unfold sumF
  simp only [nums_map]
theorem srt_len {rows : List Row} : (srt rows).length ≤ rows.length := by
  unfold srt
  rw [List.length_map]
  exact Nat.le_trans asc_len (by rw [List.length_map]; exact Nat.le_refl _)
theorem fl_pairs : (Str.ofString "pairs") ∈ flds (Str.ofString "Load") := by decide +kernel
theorem fl_names : (Str.ofString "names") ∈ flds (Str.ofString "Load") := by decide +kernel
theorem fl_size : (Str.ofString "size") ∈ flds (Str.ofString "Load") := by decide +kernel
theorem s_oset {β β1 : En} {m : MM D} {d : D} {i : Nat} {f c : Str} {q : Bool} {fs : List (Str × D)} (h : m β = .ok (d, β1)) (hb : β1[i]? = some (some (.oi q c fs))) (hf : f ∈ flds c) (hl : fs.length < 900) : oSetM flds i f m β = .ok (.nx, β1.set i (some (.oi q c (putFD f d fs)))) := by
  unfold oSetM
  rw [h]
  dsimp only [Res.bind_ok]
  rw [hb]
  dsimp only
  rw [if_pos ⟨hf, hl⟩]
theorem put1 {d : D} : putFD "pairs" d [] = [((Str.ofString "pairs"), d)] := rfl
theorem put2 {a d : D} : putFD "names" d [((Str.ofString "pairs"), a)] = [((Str.ofString "pairs"), a), ((Str.ofString "names"), d)] := by
  unfold putFD
  rw [if_neg (by decide +kernel)]
  rfl
theorem put3 {a b d : D} : putFD "size" d [((Str.ofString "pairs"), a), ((Str.ofString "names"), b)] = [((Str.ofString "pairs"), a), ((Str.ofString "names"), b), ((Str.ofString "size"), d)] := by
  unfold putFD
  rw [if_neg (by decide +kernel)]
  unfold putFD
  rw [if_neg (by decide +kernel)]
  rfl
theorem look_pairs {d : D} {r : List (Str × D)} : List.lookup (Str.ofString "pairs") ((Str.ofString "pairs", d) :: r) = some d := by simp [List.lookup]
theorem look_names {a d : D} {r : List (Str × D)} : List.lookup (Str.ofString "names") ((Str.ofString "pairs", a) :: (Str.ofString "names", d) :: r) = some d := by
  rw [List.lookup_cons, show (Str.ofString "names" == Str.ofString "pairs") = false by decide +kernel]
  simp [List.lookup]
theorem look_size {a b d : D} {r : List (Str × D)} : List.lookup (Str.ofString "size") ((Str.ofString "pairs", a) :: (Str.ofString "names", b) :: (Str.ofString "size", d) :: r) = some d := by
  rw [List.lookup_cons, show (Str.ofString "size" == Str.ofString "pairs") = false by decide +kernel]
  simp only
  rw [List.lookup_cons, show (Str.ofString "size" == Str.ofString "names") = false by decide +kernel]
  simp [List.lookup]
theorem e_ofld {β : En} {i : Nat} {f c : Str} {q : Bool} {fs : List (Str × D)} {d : D} (hb : β[i]? = some (some (.oi q c fs))) (hf : f ∈ flds c) (hl : fs.lookup f = some d) : oFldM flds i f β = .ok (d, β) := by
  unfold oFldM
  rw [hb]
  dsimp only
  rw [if_pos hf, hl]
theorem e_fld {β β1 : En} {m : MM D} {f c : Str} {fs : List (Str × D)} {d : D} (h : m β = .ok (.obj c fs, β1)) (hf : f ∈ flds c) (hl : fs.lookup f = some d) : fldM flds f m β = .ok (d, β1) := by
  unfold fldM
  rw [h]
  dsimp only [Res.bind_ok]
  rw [if_pos hf, hl]
theorem iter_tup {β β1 : En} {m : MM D} {ds : List D} (h : m β = .ok (.tup ds, β1)) : iterK m β = .ok (ds, β1) := by unfold iterK; rw [h]; rfl
theorem iter_lst {β β1 : En} {m : MM D} {ds : List D} (h : m β = .ok (.lst ds, β1)) : iterK m β = .ok (ds, β1) := by unfold iterK; rw [h]; rfl
theorem init_ev {rows : List Row} (h : GoodL rows) : f_LoadD_initD (.oi false "Load" []) [.tup (rows.map rowD)] = .ok (.non, .oi true "Load" (loadF (srt rows))) := by
  have hl := h.len
  have hs := srt_len (rows := rows)
  let T : D := .tup (rows.map rowD)
  let C : D := .dic true (rows.map kvD)
  let P : D := .tup ((srt rows).map rowD)
  let N : D := .tup ((srt rows).map fun p => .str p.1)
  have k1 : lcM (iterK (oFldM flds 0 "pairs")) [3] (gN 3) yesM (opM subF (nameM 3) (constM (.int 0))) [some (.oi true "Load" [("pairs", P)]), some (.im T), some (.im C), none] = .ok (((srt rows).map fun p => D.str p.1), [some (.oi true "Load" [("pairs", P)]), some (.im T), some (.im C), none]) :=
    e_lcA (iter_tup (e_ofld rfl fl_pairs look_pairs)) (by omega) rfl fun p _ => ⟨[some (.oi true "Load" [("pairs", P)]), some (.im T), some (.im C), some (.im (rowD p))], rfl, rfl, rfl⟩
  have k2 : lcM (iterK (fldM flds "pairs" (nameM 0))) [3] (gN 3) yesM (opM subF (nameM 3) (constM (.int 1))) [some (.im (.obj "Load" [("pairs", P), ("names", N)])), some (.im T), some (.im C), none] = .ok (((srt rows).map fun p => D.int p.2), [some (.im (.obj "Load" [("pairs", P), ("names", N)])), some (.im T), some (.im C), none]) :=
    e_lcA (iter_tup (e_fld rfl fl_pairs look_pairs)) (by omega) rfl fun p _ => ⟨[some (.im (.obj "Load" [("pairs", P), ("names", N)])), some (.im T), some (.im C), some (.im (rowD p))], rfl, rfl, rfl⟩
  refine e_runMn (β := [some (.oi true "Load" (loadF (srt rows))), some (.im T), some (.im C), none]) (s_nx (s_set (e_call (e_one rfl) (counts_ev h)) rfl) (s_nx (s_oset (e_call (e_one rfl) (pairs_ev h)) rfl fl_pairs (by decide)) (s_nx (s_oset (e_ap (d := N) (e_one (e_fr k1)) rfl) rfl fl_names (show (1 : Nat) < 900 by decide)) ?_))) rfl rfl
  rw [put2]
  have e := s_oset (i := 0) (β := [some (.oi true "Load" [("pairs", P), ("names", N)]), some (.im T), some (.im C), none]) (e_flat (e_ap (e_one (e_fr k2)) (sumF_map _ _)) rfl) rfl fl_size (show (2 : Nat) < 900 by decide)
  rw [put3] at e
  exact e
theorem e_makeS {β β1 : En} {c : Str} {fm : B → List D → Res (D × B)} {ms : MM (List D)} {ds : List D} {q : Bool} {fs : List (Str × D)} (h : ms β = .ok (ds, β1)) (hl : ds.length ≤ 1000000) (hf : fm (.oi false c []) [.tup ds] = .ok (.non, .oi q c fs)) : makeS c fm ms β = .ok (.obj c fs, β1) := by
  unfold makeS makeM
  rw [h]
  dsimp only [Res.bind_ok]
  rw [if_pos hl, hf]
  dsimp only [Res.bind_ok]
  rw [if_pos rfl]
theorem x_makeS {β β1 : En} {c cx : Str} {fm : B → List D → Res (D × B)} {ms : MM (List D)} {ds : List D} {fs : List (Str × D)} (h : ms β = .ok (ds, β1)) (hl : ds.length ≤ 1000000) (hf : fm (.oi false c []) [.tup ds] = .exc cx fs) : makeS c fm ms β = .exc cx fs := by
  unfold makeS makeM
  rw [h]
  dsimp only [Res.bind_ok]
  rw [if_pos hl, hf]
  rfl
theorem init_exc {ds : List D} {c : Str} {fs : List (Str × D)} (h : f_counts_in [.tup ds] = .exc c fs) : f_LoadD_initD (.oi false "Load" []) [.tup ds] = .exc c fs :=
  x_runM (s_ex (x_set (x_call (e_one rfl) h)))
theorem make_ev {β β1 : En} {ms : MM (List D)} {rows : List Row} (h : ms β = .ok (rows.map rowD, β1)) (g : GoodL rows) : makeS "Load" f_LoadD_initD ms β = .ok (loadD (srt rows), β1) :=
  e_makeS h (by rw [List.length_map]; have := g.len; omega) (init_ev g)
theorem isiB_tt (ds : List D) : isiB "tuple" (.tup ds) = true := by kernel_rfl
theorem isiB_tl (ds : List D) : isiB "tuple" (.lst ds) = false := by kernel_rfl
theorem of_tup {ds : List D} {r : Res D} (h : ∀ β : En, β[0]? = some (some (.im (.tup ds))) → retM (makeS "Load" f_LoadD_initD (starM (nameM 0))) β = (r.bind fun d => .ok (.rt d, β))) : f_Load_of [.tup ds] = r := by
  have e : m_Load_of [some (.im (.tup ds))] = (r.bind fun d => .ok (.rt d, [some (.im (.tup ds))])) :=
    s_nx (s_if_f (e_notT (k := true) (e_truth (show Res.ok (D.bl (isiB "tuple" (.tup ds)), ([some (.im (.tup ds))] : En)) = _ by rw [isiB_tt]))) rfl) (h _ rfl)
  cases r with
  | ok d => exact e_runF e
  | exc c fs => exact x_runF e
  | bad =>
    show runF m_Load_of 1 [.tup ds] = .bad
    unfold runF
    rw [show m_Load_of (env0 1 [.tup ds]) = .bad from e]
    rfl
theorem star_tup {β : En} {ds : List D} (h : β[0]? = some (some (.im (.tup ds)))) : starM (nameM 0) β = .ok (ds, β) := by unfold starM; rw [e_name h]; rfl
theorem of_ev {rows : List Row} (g : GoodL rows) : f_Load_of [.tup (rows.map rowD)] = .ok (loadD (srt rows)) := of_tup fun β h => s_ret (make_ev (star_tup h) g)
theorem of_exc {ds : List D} {c : Str} {fs : List (Str × D)} (hl : ds.length ≤ 1000000) (h : f_counts_in [.tup ds] = .exc c fs) : f_Load_of [.tup ds] = .exc c fs := of_tup fun β hb => x_ret (x_makeS (star_tup hb) hl (init_exc h))
theorem of_list {ds : List D} : f_Load_of [.lst ds] = .exc "InvalidPairs" [("index", .non)] :=
  x_runF (s_ex (s_if_t (e_notT (k := false) (e_truth (show Res.ok (D.bl (isiB "tuple" (.lst ds)), ([some (.im (.lst ds))] : En)) = _ by rw [isiB_tl]))) (s_raise rfl)))
theorem load_of_ev {rows : List Row} (g : GoodL rows) (g2 : GoodL (srt rows)) : f_load_of [.dic true (rows.map kvD)] = .ok (loadD (srt (srt rows))) := by
  refine e_runF (β := [some (.im (.dic true (rows.map kvD))), some (.im (.tup ((srt rows).map rowD)))]) (s_nx (s_set (e_call (e_one rfl) (pairs_ev g)) rfl) (s_ret (make_ev ?_ g2)))
  rfl
theorem srt_names (rows : List Row) : (srt rows).map (·.1) = ascS (rows.map (·.1)) := by
  unfold srt
  rw [List.map_map]
  exact List.map_id' _
theorem srt_good {rows : List Row} (g : GoodL rows) : GoodL (srt rows) := by
  refine ⟨fun p hp => ?_, by rw [srt_names]; exact asc_nodup _, Nat.lt_of_le_of_lt srt_len g.len⟩
  unfold srt at hp
  obtain ⟨n, hn, rfl⟩ := List.mem_map.mp hp
  obtain ⟨q, hq, e1, _, e2⟩ := cnt_of (mem_asc.mp hn)
  have := g.all q hq
  rw [show ((n, cnt rows n) : Row) = q from Prod.ext e1.symm e2]
  exact this
def Ord (rows : List Row) : Prop := (rows.map (·.1)).Pairwise (fun x y => leS x y = true)
theorem srt_ord (rows : List Row) : Ord (srt rows) := by unfold Ord; rw [srt_names]; exact asc_pw _
theorem cnt_self {rows : List Row} (nd : (rows.map (·.1)).Nodup) {p : Row} (hp : p ∈ rows) : cnt rows p.1 = p.2 := by
  induction rows with
  | nil => cases hp
  | cons q rows ih =>
    unfold cnt cntO
    rw [List.find?_cons]
    rw [List.map_cons, List.nodup_cons] at nd
    by_cases e : q.1 = p.1
    · rw [decide_eq_true e]
      rcases List.mem_cons.mp hp with rfl | hp
      · rfl
      · exact absurd (e ▸ List.mem_map_of_mem hp) nd.1
    · rw [decide_eq_false e]
      rcases List.mem_cons.mp hp with rfl | hp
      · exact absurd rfl e
      · exact ih nd.2 hp
theorem srt_of_ord {rows : List Row} (nd : (rows.map (·.1)).Nodup) (o : Ord rows) : srt rows = rows := by
  unfold srt
  rw [← ascS_eq o nd fun _ => Iff.rfl, List.map_map]
  refine (List.map_congr_left fun p hp => ?_).trans (List.map_id _)
  exact Prod.ext rfl (cnt_self nd hp)
theorem srt_perm {rows rows' : List Row} (nd : (rows.map (·.1)).Nodup) (p : rows.Perm rows') : srt rows' = srt rows := by
  have nd' : (rows'.map (·.1)).Nodup := (p.map _).nodup_iff.mp nd
  unfold srt
  have e : ascS (rows'.map (·.1)) = ascS (rows.map (·.1)) := (ascS_eq (asc_pw _) (asc_nodup _) fun k => by rw [mem_asc]; exact (p.map (·.1)).mem_iff).symm
  rw [e]
  refine List.map_congr_left fun n hn => ?_
  have hm := mem_asc.mp hn
  obtain ⟨q, hq, e1, _⟩ := cnt_of hm
  rw [← e1, cnt_self nd hq, cnt_self nd' (p.mem_iff.mp hq)]
theorem load_of_ev' {rows : List Row} (g : GoodL rows) (o : Ord rows) : f_load_of [.dic true (rows.map kvD)] = .ok (loadD rows) := by
  have e := load_of_ev g (srt_good g)
  rw [srt_of_ord g.nd o, srt_of_ord g.nd o] at e
  exact e
mutual
theorem eqv_self : ∀ p : PyData, p.canLay0 = true → PyData.eqv p p = true
  | .none, _ => by simp [PyData.eqv]
  | .bool _, _ => by simp [PyData.eqv]
  | .int _, _ => by simp [PyData.eqv]
  | .str _, _ => by simp [PyData.eqv]
  | .list xs, h => by simp only [PyData.eqv]; exact eqvAll_self xs (by simpa [PyData.canLay0] using h)
  | .tuple xs, h => by simp only [PyData.eqv]; exact eqvAll_self xs (by simpa [PyData.canLay0] using h)
  | .dict _, h => by simp [PyData.canLay0] at h
theorem eqvAll_self : ∀ ps : List PyData, PyData.canLayAll0 ps = true → PyData.eqvAll ps ps = true
  | [], _ => by simp [PyData.eqvAll]
  | p :: ps, h => by
    simp only [PyData.canLayAll0, Bool.and_eq_true] at h
    simp only [PyData.eqvAll, Bool.and_eq_true]
    exact ⟨eqv_self p h.1, eqvAll_self ps h.2⟩
end
theorem eqvAll_len : ∀ {ps qs : List PyData}, ps.length ≠ qs.length → PyData.eqvAll ps qs = false
  | [], [], h => (h rfl).elim
  | [], _ :: _, _ => by simp [PyData.eqvAll]
  | _ :: _, [], _ => by simp [PyData.eqvAll]
  | _ :: ps, _ :: qs, h => by
    simp only [PyData.eqvAll]
    rw [eqvAll_len (ps := ps) (qs := qs) (by simpa using h), Bool.and_false]
def Py (k : Nat) (d : D) : Prop := ∃ p, toPy d = some p ∧ p.canLay0 = true ∧ p.depth ≤ k
def PyL (k : Nat) (ds : List D) : Prop := ∃ ps, toPyL ds = some ps ∧ PyData.canLayAll0 ps = true ∧ PyData.depthAll ps ≤ k ∧ ps.length = ds.length
theorem py_str {x : Str} (h : OkT x) {k : Nat} : Py k (.str x) := ⟨.str x, by simp [toPy], by simp only [PyData.canLay0]; exact h.ok, by simp [PyData.depth]⟩
theorem py_int {i : Int} {k : Nat} : Py k (.int i) := ⟨.int i, by simp [toPy], by simp [PyData.canLay0], by simp [PyData.depth]⟩
theorem py_bl {b : Bool} {k : Nat} : Py k (.bl b) := ⟨.bool b, by simp [toPy], by simp [PyData.canLay0], by simp [PyData.depth]⟩
theorem py_non {k : Nat} : Py k .non := ⟨.none, by simp [toPy], by simp [PyData.canLay0], by simp [PyData.depth]⟩
theorem pyL_nil {k : Nat} : PyL k [] := ⟨[], by simp [toPyL], by simp [PyData.canLayAll0], by simp [PyData.depthAll], rfl⟩
theorem pyL_cons {k : Nat} {d : D} {ds : List D} (h : Py k d) (t : PyL k ds) : PyL k (d :: ds) := by
  obtain ⟨p, a, b, c⟩ := h
  obtain ⟨ps, a', b', c', l'⟩ := t
  exact ⟨p :: ps, by simp [toPyL, a, a'], by simp [PyData.canLayAll0, b, b'], by simp only [PyData.depthAll]; omega, by simp [l']⟩
theorem pyL_of {k : Nat} : ∀ {ds : List D}, (∀ d ∈ ds, Py k d) → PyL k ds
  | [], _ => pyL_nil
  | d :: ds, h => pyL_cons (h d List.mem_cons_self) (pyL_of fun x hx => h x (List.mem_cons_of_mem _ hx))
theorem py_lst {k : Nat} {ds : List D} (h : PyL k ds) : Py (k + 1) (.lst ds) := by
  obtain ⟨ps, a, b, c, _⟩ := h
  exact ⟨.list ps, by simp [toPy, a], by simp only [PyData.canLay0]; exact b, by simp only [PyData.depth]; omega⟩
theorem py_tup {k : Nat} {ds : List D} (h : PyL k ds) : Py (k + 1) (.tup ds) := by
  obtain ⟨ps, a, b, c, _⟩ := h
  exact ⟨.tuple ps, by simp [toPy, a], by simp only [PyData.canLay0]; exact b, by simp only [PyData.depth]; omega⟩
theorem py_shaped {k : Nat} {p : PyData} (h : p.canLay0 = true) (d : p.depth ≤ k) (hk : k ≤ 64) : SeqAt.shaped p = true := by
  unfold SeqAt.shaped
  rw [h, decide_eq_true (by omega)]
  rfl
theorem eqP_same {k : Nat} {d : D} (h : Py k d) (hk : k ≤ 64 := by decide) : eqP d d = some true := by
  obtain ⟨p, a, b, c⟩ := h
  unfold eqP
  rw [a]
  dsimp only
  rw [if_pos ⟨py_shaped b c hk, py_shaped b c hk⟩, eqv_self p b]
theorem eqPD_same {k : Nat} {d : D} (h : Py k d) (hk : k ≤ 64 := by decide) : eqPD d d = .ok (.bl true) := by unfold eqPD; rw [eqP_same h hk]
theorem nePD_same {k : Nat} {d : D} (h : Py k d) (hk : k ≤ 64 := by decide) : nePD d d = .ok (.bl false) := by unfold nePD; rw [eqP_same h hk]; rfl
theorem eqP_len {k : Nat} {xs ys : List D} (hx : PyL k xs) (hy : PyL k ys) (hn : xs.length ≠ ys.length) (hk : k ≤ 63 := by decide) : eqP (.tup xs) (.tup ys) = some false ∧ eqP (.lst xs) (.lst ys) = some false := by
  obtain ⟨p, a, b, c, l⟩ := hx
  obtain ⟨q, a', b', c', l'⟩ := hy
  have e : PyData.eqvAll p q = false := eqvAll_len (by rw [l, l']; exact hn)
  constructor
  · unfold eqP
    simp only [toPy, a, a', Option.map_some]
    rw [if_pos ⟨py_shaped (k := k + 1) (by simp only [PyData.canLay0]; exact b) (by simp only [PyData.depth]; omega) (by omega), py_shaped (k := k + 1) (by simp only [PyData.canLay0]; exact b') (by simp only [PyData.depth]; omega) (by omega)⟩]
    simp only [PyData.eqv]
    rw [e]
  · unfold eqP
    simp only [toPy, a, a', Option.map_some]
    rw [if_pos ⟨py_shaped (k := k + 1) (by simp only [PyData.canLay0]; exact b) (by simp only [PyData.depth]; omega) (by omega), py_shaped (k := k + 1) (by simp only [PyData.canLay0]; exact b') (by simp only [PyData.depth]; omega) (by omega)⟩]
    simp only [PyData.eqv]
    rw [e]
theorem py_row {p : Row} (h : OkT p.1) : Py 1 (rowD p) := py_tup (pyL_cons (py_str h) (pyL_cons py_int pyL_nil))
theorem pyL_rows {rows : List Row} (h : ∀ p ∈ rows, OkT p.1) : PyL 1 (rows.map rowD) := pyL_of fun d hd => by
  obtain ⟨p, hp, rfl⟩ := List.mem_map.mp hd
  exact py_row (h p hp)
theorem pyL_strs {l : List Str} (h : ∀ x ∈ l, OkT x) {k : Nat} : PyL k (l.map D.str) := pyL_of fun d hd => by
  obtain ⟨p, hp, rfl⟩ := List.mem_map.mp hd
  exact py_str (h p hp)
theorem pairsD_rows : ∀ rows : List Row, pairsD (rows.map rowD) = some (rows.map kvD)
  | [] => rfl
  | p :: rows => by
    show (match keyD (.str p.1), pairsD (rows.map rowD) with | some k, some t => some ((k, D.int p.2) :: t) | _, _ => none) = _
    rw [pairsD_rows rows]
    rfl
theorem merge_rows : ∀ (l pre : List Row), ((pre ++ l).map (·.1)).Nodup → mergeD (pre.map kvD) (l.map kvD) = (pre ++ l).map kvD
  | [], pre, _ => by rw [List.append_nil]; rfl
  | p :: l, pre, nd => by
    have hn : p.1 ∉ pre.map (·.1) := fun hm => by
      rw [List.map_append, List.nodup_append] at nd
      exact nd.2.2 _ hm _ (by rw [List.map_cons]; exact List.mem_cons_self) rfl
    have e : pre ++ p :: l = (pre ++ [p]) ++ l := by rw [List.append_assoc]; rfl
    rw [e, ← merge_rows l (pre ++ [p]) (e ▸ nd)]
    show mergeD (putD (pre.map kvD) (.inr p.1) (.int p.2)) (l.map kvD) = _
    congr 1
    unfold putD
    rw [any_key hn, if_neg Bool.false_ne_true, List.map_append]
    rfl
theorem dict_lst {rows : List Row} (nd : (rows.map (·.1)).Nodup) : dictP (.lst (rows.map rowD)) = some (rows.map kvD) := by
  show (pairsD (rows.map rowD)).map (mergeD []) = _
  rw [pairsD_rows]
  exact congrArg some (merge_rows rows [] nd)
theorem dict_tup {rows : List Row} (nd : (rows.map (·.1)).Nodup) : dictP (.tup (rows.map rowD)) = some (rows.map kvD) := by
  show (pairsD (rows.map rowD)).map (mergeD []) = _
  rw [pairsD_rows]
  exact congrArg some (merge_rows rows [] nd)
theorem e_dict {β β1 : En} {m : MM D} {d : D} {kvs : List (Key × D)} (h : m β = .ok (d, β1)) (hd : dictP d = some kvs) : dictM m β = .ok (.dic true kvs, β1) := by unfold dictM; rw [h]; dsimp only [Res.bind_ok]; rw [hd]
theorem e_isi {β β1 : En} {m : MM D} {d : D} {f : D → Bool} {k : Bool} (h : m β = .ok (d, β1)) (hk : f d = k) : isiM f m β = .ok (.bl k, β1) := by unfold isiM; rw [h]; dsimp only [Res.bind_ok]; rw [hk]
theorem e_get2 {β β1 β2 β3 : En} {m1 m2 m3 : MM D} {l : Bool} {kvs : List (Key × D)} {k d : D} {kk : Key} (h1 : m1 β = .ok (.dic l kvs, β1)) (h2 : m2 β1 = .ok (k, β2)) (h3 : m3 β2 = .ok (d, β3)) (hk : keyD k = some kk) : get2M m1 m2 m3 β = .ok ((valD kvs kk).getD d, β3) := by
  unfold get2M
  rw [h1]
  dsimp only [Res.bind_ok]
  rw [h2]
  dsimp only [Res.bind_ok]
  rw [h3]
  dsimp only [Res.bind_ok]
  rw [hk]
theorem any_eqV {x : Str} : ∀ l : List Str, ((l.map D.str).any fun z => eqV (vOf z) (vOf (.str x))) = decide (x ∈ l)
  | [] => rfl
  | y :: l => by
    rw [List.map_cons, List.any_cons, any_eqV l]
    have e : eqV (vOf (.str y)) (vOf (.str x)) = decide (x = y) := by
      show decide (y = x) = _
      exact decide_eq_decide.mpr eq_comm
    rw [e]
    by_cases h : x = y
    · rw [decide_eq_true h, decide_eq_true (List.mem_cons.mpr (.inl h))]; rfl
    · rw [decide_eq_false h, Bool.false_or]
      exact decide_eq_decide.mpr ⟨fun z => List.mem_cons_of_mem _ z, fun z => (List.mem_cons.mp z).elim (fun e => (h e).elim) id⟩
theorem isiC_load (sr : List Row) : isiC "Load" (loadD sr) = true := by kernel_rfl
theorem eq_self {sr : List Row} (h : ∀ p ∈ sr, OkT p.1) : f_LoadD_eqD [loadD sr, loadD sr] = .ok (.bl true) :=
  e_runF (β := [some (.im (loadD sr)), some (.im (loadD sr))]) (s_ret (e_andM_t (β1 := [some (.im (loadD sr)), some (.im (loadD sr))]) (e_isi rfl (isiC_load sr)) (e_op (e_fld rfl fl_pairs look_pairs) (e_fld rfl fl_pairs look_pairs) (eqPD_same (py_tup (pyL_rows h))))))
theorem eq_len {a b : List Row} (ha : ∀ p ∈ a, OkT p.1) (hb : ∀ p ∈ b, OkT p.1) (hn : a.length ≠ b.length) : f_LoadD_eqD [loadD a, loadD b] = .ok (.bl false) := by
  refine e_runF (β := [some (.im (loadD a)), some (.im (loadD b))]) (s_ret (e_andM_t (β1 := [some (.im (loadD a)), some (.im (loadD b))]) (e_isi rfl (isiC_load b)) (e_op (e_fld rfl fl_pairs look_pairs) (e_fld rfl fl_pairs look_pairs) ?_)))
  unfold eqPD
  rw [(eqP_len (pyL_rows ha) (pyL_rows hb) (by rw [List.length_map, List.length_map]; exact hn)).1]
theorem eq_not {a : List Row} {d : D} (h : isiC "Load" d = false) : f_LoadD_eqD [loadD a, d] = .ok (.bl false) :=
  e_runF (β := [some (.im (loadD a)), some (.im d)]) (s_ret (e_andM_f (e_isi rfl h)))
theorem objOf_load (sr : List Row) : objOf "Load" (loadD sr) = some (loadF sr) := by
  show (if Str.ofString "Load" = Str.ofString "Load" then some (loadF sr) else none) = _
  rw [if_pos rfl]
theorem e_dun1 {β β1 : En} {m : MM D} {sr : List Row} {ok : D → Bool} {fm : List D → Res D} {d : D} (h : m β = .ok (loadD sr, β1)) (hf : fm [loadD sr] = .ok d) (hk : ok d = true) : dun1 "Load" ok fm m β = .ok (d, β1) := by
  unfold dun1
  rw [h]
  dsimp only [Res.bind_ok]
  rw [objOf_load]
  dsimp only
  rw [show fm [D.obj "Load" (loadF sr)] = .ok d from hf]
  dsimp only [Res.bind_ok]
  rw [if_pos hk]
theorem e_dun2 {β β1 β2 : En} {m1 m2 : MM D} {sr : List Row} {ok : D → Bool} {fm : List D → Res D} {a d : D} (h : m1 β = .ok (loadD sr, β1)) (h2 : m2 β1 = .ok (a, β2)) (hf : fm [loadD sr, a] = .ok d) (hk : ok d = true) : dun2 "Load" ok fm m1 m2 β = .ok (d, β2) := by
  unfold dun2
  rw [h]
  dsimp only [Res.bind_ok]
  rw [objOf_load]
  dsimp only
  rw [h2]
  dsimp only [Res.bind_ok]
  rw [show fm [D.obj "Load" (loadF sr), a] = .ok d from hf]
  dsimp only [Res.bind_ok]
  rw [if_pos hk]
theorem e_dunR {β β1 β2 : En} {m1 m2 : MM D} {sr : List Row} {ok : D → Bool} {fm : List D → Res D} {a d : D} (h : m1 β = .ok (a, β1)) (h2 : m2 β1 = .ok (loadD sr, β2)) (hf : fm [loadD sr, a] = .ok d) (hk : ok d = true) : dunR "Load" ok fm m1 m2 β = .ok (d, β2) := by
  unfold dunR
  rw [h]
  dsimp only [Res.bind_ok]
  rw [h2]
  dsimp only [Res.bind_ok]
  rw [objOf_load]
  dsimp only
  rw [show fm [D.obj "Load" (loadF sr), a] = .ok d from hf]
  dsimp only [Res.bind_ok]
  rw [if_pos hk]
theorem catL_ev {x y : List D} (h : x.length + y.length ≤ 1000000) : addD (.lst x) (.lst y) = .ok (.lst (x ++ y)) := by
  show catL (.lst x) (.lst y) = _
  unfold catL sz
  dsimp only
  rw [if_pos h]
theorem sort_names {names : List Str} (nd : names.Nodup) : sortF [.lst (names.map D.str)] = .ok (.lst ((ascS names).map D.str)) := by
  unfold sortF
  simp only [strsD_map]
  rw [ascS_eq (sortS_pw names) ((sortS_perm names).nodup_iff.mpr nd) fun k => (sortS_perm names).mem_iff]
theorem srt_mem {rows : List Row} {p : Row} (hp : p ∈ srt rows) : p.1 ∈ rows.map (·.1) ∧ cnt rows p.1 = p.2 := by
  unfold srt at hp
  obtain ⟨n, hn, rfl⟩ := List.mem_map.mp hp
  exact ⟨mem_asc.mp hn, rfl⟩
theorem rep_flat {α β : Type} (x : β) : ∀ l : List α, (List.replicate l.length [x]).flatten = l.map fun _ => x
  | [] => rfl
  | a :: l => by rw [List.length_cons, List.replicate_succ, List.flatten_cons, rep_flat x l]; rfl
theorem repL_ev {ds : List D} {k : Nat} (hk : k ≤ 1000) (h : ds.length * k ≤ 1000) : repL ds (k : Nat) = .ok (.lst (List.replicate k ds).flatten) := by
  have h63 : ∀ n : Int, n = (k : Nat) → -(2 ^ 63) ≤ n ∧ n < 2 ^ 63 → repL ds n = .ok (.lst (List.replicate n.toNat ds).flatten) := fun n hn hl => by
    unfold repL
    exact if_pos ⟨hl, by rw [hn, Int.toNat_natCast]; omega⟩
  have e := h63 k rfl ⟨by omega, by omega⟩
  rw [Int.toNat_natCast] at e
  exact e
theorem cut_to_any {α : Type} {xs : List α} {k : Nat} : cutL xs none (some (k : Int)) = xs.take k := by
  unfold cutL
  rw [HT.sIx_none, HT.sIx_nat]
  rcases Nat.le_total k xs.length with h | h
  · rw [Nat.min_eq_left h]; simp
  · rw [Nat.min_eq_right h]; simp [List.take_of_length_le h]
theorem cut_from_any {α : Type} {xs : List α} {k : Nat} : cutL xs (some (k : Int)) none = xs.drop k := by
  unfold cutL
  rw [HT.sIx_none, HT.sIx_nat]
  rcases Nat.le_total k xs.length with h | h
  · rw [Nat.min_eq_left h]
    exact List.take_of_length_le (by rw [List.length_drop]; exact Nat.le_refl _)
  · rw [Nat.min_eq_right h, List.drop_of_length_le h, List.drop_of_length_le (Nat.le_refl _)]
    simp
theorem e_sl {β β1 β2 β3 : En} {m : MM D} {lo hi : MM (Option Int)} {a d : D} {l h : Option Int} (h1 : m β = .ok (a, β1)) (h2 : lo β1 = .ok (l, β2)) (h3 : hi β2 = .ok (h, β3)) (hc : cutD a l h = .ok d) : slM m lo hi β = .ok (d, β3) := by
  unfold slM
  rw [h1, Res.bind_ok, h2, Res.bind_ok, h3, Res.bind_ok, hc]
  rfl
theorem e_so {β β1 : En} {m : MM D} {i : Int} (h : m β = .ok (.int i, β1)) : soM m β = .ok (some i, β1) := by unfold soM; rw [h]; rfl
theorem item_ev {l : List D} {j : Int} (h0 : 0 ≤ j) (h : j < l.length) : ∃ d ∈ l, subF (.lst l) (.int j) = .ok d := by
  have hj : j.toNat < l.length := by omega
  refine ⟨l[j.toNat], List.getElem_mem hj, ?_⟩
  show ixF (.lst l) (.int j) = _
  unfold ixF
  dsimp only
  unfold L2.atI L2.ixN
  rw [if_pos h0, if_pos h, Option.bind_some, List.getElem?_eq_getElem hj]
theorem e_lam {β : En} {m : MM D} {l : List ((Str → Bool) × XH)} {r : Res (D × En)} {d : D} (h : m (imB β) = r) (he : errF l (resOf r) = .ok d) : lamM l m β = .ok (d, β) := by
  unfold lamM
  rw [h, he]
  rfl
abbrev toldD (c : Str) (d : D) : D := .lst [.str c, d, .bl true]
theorem lenF_lst {l : List D} {n : Nat} (h : l.length = n) : lenF [.lst l] = .ok (.int n) := by rw [← h]; rfl
abbrev sgn (c : Nat) : D := .str ⟨#[c]⟩
abbrev tailT : Str := "abcdefghijklmnopqrstuvwxyz0123456789"
theorem tail_tl : tl tailT = List.range' 97 26 ++ List.range' 48 10 := by kernel_rfl
theorem sign_ev {x : Str} {j : Int} (hx : x.length ≤ 1000000) (h0 : 0 ≤ j) (h : j < (tl x).length) : ∃ c ∈ tl x, (tl x)[j.toNat]? = some c ∧ subF (.str x) (.int j) = .ok (sgn c) := by
  have hj : j.toNat < (tl x).length := by omega
  refine ⟨(tl x)[j.toNat], List.getElem_mem hj, List.getElem?_eq_getElem hj, ?_⟩
  show ixF (.str x) (.int j) = _
  unfold ixF
  dsimp only
  rw [if_pos hx]
  unfold L2.atI L2.ixN
  rw [if_pos h0, if_pos h, Option.bind_some, List.getElem?_eq_getElem hj]
theorem small_at {j : Int} (h0 : 0 ≤ j) (h : j < 26) : subF (.str smallT) (.int j) = .ok (sgn (97 + j.toNat)) := by
  obtain ⟨c, _, h1, h2⟩ := sign_ev (x := smallT) (by decide +kernel) h0 (by rw [small_tl]; exact h)
  rw [small_tl, List.getElem?_range' (by omega)] at h1
  cases h1
  rw [h2]
  simp
theorem rng_ev {n : Nat} (h : n ≤ 1000) : rngF1 [.int n] = .ok ((List.range n).map fun i => D.int ((i : Nat) : Int)) := by
  unfold rngF1
  dsimp only
  rw [if_pos ⟨by omega, by omega⟩, Int.toNat_natCast]
  unfold rngD
  congr 1
  exact List.map_congr_left fun i _ => by rw [Int.zero_add]
theorem e_it {β β1 : En} {f : List D → Res (List D)} {ms : MM (List D)} {as ds : List D} (h : ms β = .ok (as, β1)) (hf : f as = .ok ds) : itM f ms β = .ok (ds, β1) := by unfold itM; rw [h, Res.bind_ok, hf]; rfl
theorem join_sgn : ∀ cs : List Nat, tl (Txt.join Str.empty (cs.map fun c => (⟨#[c]⟩ : Str))) = cs := fun cs => by
  rw [TL.join_eq, TL.tl_join, List.map_map]
  have : ∀ cs : List Nat, TL.joinL (tl Str.empty) (cs.map (tl ∘ fun c => (⟨#[c]⟩ : Str))) = cs := by
    intro cs
    induction cs with
    | nil => rfl
    | cons c r ih =>
      cases r with
      | nil => rfl
      | cons d r =>
        show [c] ++ ([] ++ TL.joinL (tl Str.empty) ((d :: r).map (tl ∘ fun c => (⟨#[c]⟩ : Str)))) = c :: d :: r
        rw [ih]
        rfl
  exact this cs
structure Spare (cs : List Nat) : Prop where
  ne : 1 ≤ cs.length
  le : cs.length ≤ 3
  hd : ∀ c, cs[0]? = some c → 97 ≤ c ∧ c < 123
  all : ∀ c ∈ cs, (97 ≤ c ∧ c < 123) ∨ (48 ≤ c ∧ c < 58)
theorem spare_nm {cs : List Nat} (h : Spare cs) : nmL cs = true := by
  cases cs with
  | nil => exact absurd h.ne (by decide)
  | cons c r =>
    have h1 := h.hd c rfl
    simp only [nmL, Bool.and_eq_true, decide_eq_true_eq, Bool.not_eq_true']
    refine ⟨⟨Nat.le_trans h.le (by decide), ?_⟩, List.all_eq_true.mpr fun d hd => ?_⟩
    · cases hf : figC c with
      | false => rfl
      | true => rw [figC_iff] at hf; omega
    · rw [Bool.or_eq_true, smallC_iff, figC_iff]
      exact h.all d hd
theorem spare_set {cs : List Nat} (h : Spare cs) {i c : Nat} (hc : 97 ≤ c ∧ c < 123) : Spare (cs.set i c) := by
  refine ⟨by rw [List.length_set]; exact h.ne, by rw [List.length_set]; exact h.le, fun d hd => ?_, fun d hd => ?_⟩
  · rw [List.getElem?_set] at hd
    split at hd
    · split at hd
      · cases hd; exact hc
      · cases hd
    · exact h.hd d hd
  · rcases List.mem_or_eq_of_mem_set hd with hd | hd
    · exact h.all d hd
    · rw [hd]; exact .inl hc
abbrev ofL (l : List Nat) : Str := ⟨l.toArray⟩
theorem tl_ofL (l : List Nat) : tl (ofL l) = l := rfl
theorem spare_ok {cs : List Nat} (h : Spare cs) : OkT (ofL cs) := ⟨fun c hc => by have := h.all c hc; omega, Nat.le_trans h.le (by decide)⟩
def nmK (cs : List Nat) (spot : Nat) (b : Int) (k : Nat) : Str := ofL (cs.set spot (97 + ((b + 7 * k) % 26).toNat))
theorem nmK_spare {cs : List Nat} (h : Spare cs) (spot : Nat) (b : Int) (k : Nat) : Spare (cs.set spot (97 + ((b + 7 * k) % 26).toNat)) := by
  refine spare_set h ⟨by omega, ?_⟩
  have := Int.emod_lt_of_pos (b + 7 * k) (show (0 : Int) < 26 by decide)
  have := Int.emod_nonneg (b + 7 * k) (show (26 : Int) ≠ 0 by decide)
  omega
theorem nmK_inj {cs : List Nat} {spot : Nat} {b : Int} (hs : spot < cs.length) {i j : Nat} (hi : i < 6) (hj : j < 6) (h : nmK cs spot b i = nmK cs spot b j) : i = j := by
  have e : tl (nmK cs spot b i) = tl (nmK cs spot b j) := by rw [h]
  unfold nmK at e
  rw [tl_ofL, tl_ofL] at e
  have e2 : (cs.set spot (97 + ((b + 7 * i) % 26).toNat))[spot]? = (cs.set spot (97 + ((b + 7 * j) % 26).toNat))[spot]? := by rw [e]
  rw [List.getElem?_set_self hs, List.getElem?_set_self hs] at e2
  have e3 : ((b + 7 * i) % 26).toNat = ((b + 7 * j) % 26).toNat := by
    have := Option.some.inj e2
    omega
  omega
theorem e_pull {β : En} {s s1 : List D} {w d : Int} (hb : β[0]? = some (some (.ol true s))) (h : f_x_law_pull (.ol true s) [.int w] = .ok (.int d, .ol true s1)) : callO f_x_law_pull 0 (consM (constM (.int w)) nilM) β = .ok (.int d, β.set 0 (some (.ol true s1))) :=
  e_callO (q := true) (l := s) ⟨_, hb⟩ (e_one rfl) hb h
theorem spare_ev {s : List D} (hs : Src s) {M : Option B} : ∃ cs s', Spare cs ∧ Src s' ∧ setM 4 (opM addD (apM lstF (consM (opM subF (nameM 2) (callO f_x_law_pull 0 (consM (constM (.int 26)) nilM))) nilM)) (frM (lcM (itM rngF1 (consM (callO f_x_law_pull 0 (consM (constM (.int 3)) nilM)) nilM)) [8] (gN 8) yesM (opM subF (nameM 3) (callO f_x_law_pull 0 (consM (constM (.int 36)) nilM))))))
    [some (.ol true s), M, some (.im (.str smallT)), some (.im (.str tailT)), none, none, none, none, none, none, none, none, none] = .ok (.nx, [some (.ol true s'), M, some (.im (.str smallT)), some (.im (.str tailT)), some (.im (.lst (cs.map sgn))), none, none, none, none, none, none, none, none]) := by
  obtain ⟨d, s1, h1, hs1, d0, d1⟩ := pull_ev hs (w := 26) (by decide) (by decide)
  obtain ⟨r, s2, h2, hs2, r0, r1⟩ := pull_ev hs1 (w := 3) (by decide) (by decide)
  obtain ⟨rn, rfl⟩ : ∃ rn : Nat, r = (rn : Int) := ⟨r.toNat, by omega⟩
  let En0 : List D → En := fun s => [some (.ol true s), M, some (.im (.str smallT)), some (.im (.str tailT)), none, none, none, none, none, none, none, none, none]
  obtain ⟨out, β', e1, s3, l, hs3, rfl, rfl, hl, hn, _⟩ := lc_inv (vs := [8]) (g := gN 8) (te := opM subF (nameM 3) (callO f_x_law_pull 0 (consM (constM (.int 36)) nilM)))
    (fun ds acc β => ∃ (s' : List D) (l : List Nat), Src s' ∧ β = En0 s' ∧ acc = l.map sgn ∧ (∀ c ∈ l, c ∈ tl tailT) ∧ l.length + ds.length = rn ∧ True)
    (fun d ds acc β ⟨s', l, hs', hb, ha, hl, hn, _⟩ => by
      subst hb ha
      obtain ⟨c, s4, h4, hs4, c0, c1⟩ := pull_ev hs' (w := 36) (by decide) (by decide)
      obtain ⟨x, hx, _, ex⟩ := sign_ev (x := tailT) (by decide +kernel) c0 (by rw [tail_tl]; exact c1)
      refine ⟨_, sgn x, _, rfl, e_op rfl (e_callO (q := true) (l := s') ⟨_, rfl⟩ (e_one rfl) rfl h4) ex, s4, l ++ [x], hs4, rfl, by rw [List.map_append]; rfl, fun y hy => ?_, by rw [List.length_append]; rw [List.length_cons] at hn; show l.length + 1 + ds.length = rn; omega, trivial⟩
      rcases List.mem_append.mp hy with hy | hy
      · exact hl y hy
      · rw [List.mem_singleton] at hy; rw [hy]; exact hx)
    ((List.range rn).map fun i => D.int ((i : Nat) : Int)) [] (En0 s2) ⟨s2, [], hs2, rfl, rfl, (fun _ h => nomatch h), by rw [List.length_map, List.length_range]; exact Nat.zero_add _, trivial⟩
  have hl3 : l.length = rn := by simpa using hn
  refine ⟨(97 + d.toNat) :: l, s3, ⟨by rw [List.length_cons]; omega, by rw [List.length_cons]; omega, fun c hc => by cases hc; omega, fun c hc => ?_⟩, hs3, ?_⟩
  · rcases List.mem_cons.mp hc with rfl | hc
    · exact .inl (by omega)
    · have := hl c hc
      rw [tail_tl, List.mem_append, List.mem_range'_1, List.mem_range'_1] at this
      omega
  · refine s_set (d := .lst (((97 + d.toNat) :: l).map sgn)) (β1 := En0 s3) (e_op (a := .lst [sgn (97 + d.toNat)]) (b := .lst (l.map sgn)) (e_ap (e_one (e_op rfl (e_callO (q := true) (l := s) ⟨_, rfl⟩ (e_one rfl) rfl h1) (small_at d0 d1))) rfl) (e_fr (e_lc (β1 := En0 s2) (e_it (e_one (e_pull (β := En0 s1) rfl h2)) (rng_ev (by omega))) (by rw [List.length_map, List.length_range]; omega) e1)) ?_) rfl
    rw [catL_ev (by rw [List.length_map]; show 1 + _ ≤ _; omega)]
    rfl
theorem join_names {cs : List Nat} (h : cs.length ≤ 3) : joinB (.str "") [.lst (cs.map sgn)] = .ok (.str (ofL cs)) := by
  have e : cs.map sgn = (cs.map fun c => (⟨#[c]⟩ : Str)).map D.str := by rw [List.map_map]; rfl
  have e0 : (Str.ofString "") = Str.empty := str_ext (by kernel_rfl)
  rw [e]
  unfold joinB
  simp only [strsD_map]
  have hs : ((cs.map fun c => (⟨#[c]⟩ : Str)).map (·.length)).sum = cs.length := by
    clear h e
    induction cs with
    | nil => rfl
    | cons c r ih =>
      rw [List.map_cons, List.map_cons, List.sum_cons, ih, List.length_cons, Nat.add_comm]
      rfl
  have hz : (Str.ofString "").length = 0 := by kernel_rfl
  rw [if_pos (by rw [hs, hz]; omega)]
  congr 2
  refine str_ext ?_
  rw [e0, join_sgn]
abbrev EnT (s : List D) (m : Nat) (cs : List Nat) (spot b : Int) (fd : List Str) (o8 o9 : Option B) : En := [some (.ol true s), some (.im (.int m)), some (.im (.str smallT)), some (.im (.str tailT)), some (.im (.lst (cs.map sgn))), some (.im (.int spot)), some (.im (.int b)), some (.ol false (fd.map .str)), o8, o9, none, none, none]
def npO (o : Option B) : Prop := o = none ∨ ∃ d, o = some (.ol false d)
theorem setB_np {β : En} {i : Nat} {o : Option B} {b : B} (h : β[i]? = some o) (ho : npO o) : setB i b β = .ok (β.set i (some b)) := by
  unfold setB
  rw [h]
  rcases ho with rfl | ⟨d, rfl⟩ <;> rfl
abbrev tBody : MM Fl := (seqM (ownM 9 (listFM (consM (nameM 4) nilM)))
  (seqM (setLM 9 (opM subF (nameM 2) (opM modD (apM intF (consM (opM addD (nameM 6) (opM mulD (constM (.int 7)) (nameM 8))) nilM)) (constM (.int 26)))) (nameM 5))
  (appM 7 (flatM (bmM "str" joinB (constM (.str "")) (consM (nameM 9) nilM))))))
theorem map_set {cs : List Nat} {i c : Nat} : (cs.map sgn).set i (sgn c) = (cs.set i c).map sgn := List.map_set.symm
theorem t_step {s : List D} {m : Nat} {cs : List Nat} (hc : cs.length ≤ 3) {spot : Nat} (hs : spot < cs.length) {b : Int} {fd : List Str} (hf : fd.length ≤ 100) {k : Nat} {o9 : Option B} (h9 : npO o9) :
    ∃ o9', npO o9' ∧ tBody (EnT s m cs spot b fd (some (.im (.int k))) o9) = .ok (.nx, EnT s m cs spot b (fd ++ [nmK cs spot b k]) (some (.im (.int k))) o9') := by
  have p0 : (0 : Int) ≤ (b + 7 * k) % 26 := Int.emod_nonneg _ (by decide)
  have p1 : (b + 7 * k) % 26 < 26 := Int.emod_lt_of_pos _ (by decide)
  have e1 : opM subF (nameM 2) (opM modD (apM intF (consM (opM addD (nameM 6) (opM mulD (constM (.int 7)) (nameM 8))) nilM)) (constM (.int 26))) (EnT s m cs spot b fd (some (.im (.int k))) (some (.ol false (cs.map sgn)))) = .ok (sgn (97 + ((b + 7 * k) % 26).toNat), EnT s m cs spot b fd (some (.im (.int k))) (some (.ol false (cs.map sgn)))) :=
    e_op rfl (e_op (a := .int (b + 7 * k)) (e_ap (e_one (e_op (a := .int b) (b := .int (7 * k)) rfl (e_op (a := .int 7) (b := .int k) rfl rfl (mulD_l (by decide) (by decide))) rfl)) rfl) rfl (modD_ok (by decide))) (small_at p0 p1)
  refine ⟨some (.ol false ((cs.set spot (97 + ((b + 7 * k) % 26).toNat)).map sgn)), .inr ⟨_, rfl⟩, ?_⟩
  refine s_nx (s_own (ds := cs.map sgn) rfl (setB_np (o := o9) rfl h9)) (s_nx (s_setL (q := false) (q0 := false) (l := cs.map sgn) (l0 := cs.map sgn) (n := spot) (k := spot) e1 rfl rfl rfl ?_) ?_)
  · unfold L2.ixN
    rw [if_pos (by omega), List.length_map, if_pos (by omega), Int.toNat_natCast]
  · rw [map_set]
    have e2 := s_app (i := 7) (β := EnT s m cs spot b fd (some (.im (.int k))) (some (.ol false ((cs.set spot (97 + ((b + 7 * k) % 26).toNat)).map sgn)))) (q := false) (l := fd.map .str) ⟨_, _, rfl⟩ (e_flat (m := bmM "str" joinB (constM (.str "")) (consM (nameM 9) nilM)) (e_bm rfl tyD_str (e_one rfl) (join_names (cs := cs.set spot (97 + ((b + 7 * k) % 26).toNat)) (by rw [List.length_set]; exact hc))) rfl) rfl (by unfold lenOk; rw [List.length_map]; exact decide_eq_true (by omega))
    refine e2.trans ?_
    show Res.ok (Fl.nx, ([some (.ol true s), some (.im (.int m)), some (.im (.str smallT)), some (.im (.str tailT)), some (.im (.lst (cs.map sgn))), some (.im (.int spot)), some (.im (.int b)), some (.ol false (fd.map .str ++ [.str (ofL (cs.set spot (97 + ((b + 7 * k) % 26).toNat)))])), some (.im (.int k)), some (.ol false ((cs.set spot (97 + ((b + 7 * k) % 26).toNat)).map sgn)), none, none, none] : En)) = _
    rw [show fd.map D.str ++ [D.str (ofL (cs.set spot (97 + ((b + 7 * k) % 26).toNat)))] = (fd ++ [nmK cs spot b k]).map D.str by rw [List.map_append]; rfl]
theorem t_loop {s : List D} {m : Nat} {cs : List Nat} (hc : cs.length ≤ 3) {spot : Nat} (hs : spot < cs.length) {b : Int} : ∀ (l : List Nat) (fd : List Str) (o8 o9 : Option B), fd.length + l.length ≤ 100 → imO o8 → npO o9 →
    ∃ o8' o9', imO o8' ∧ forM (gN 8) tBody (l.map fun i => D.int ((i : Nat) : Int)) (EnT s m cs spot b fd o8 o9) = .ok (.nx, EnT s m cs spot b (fd ++ l.map (nmK cs spot b)) o8' o9')
  | [], fd, o8, o9, _, h8, h9 => ⟨o8, o9, h8, by rw [List.map_nil, List.map_nil, List.append_nil]; rfl⟩
  | k :: l, fd, o8, o9, hl, h8, h9 => by
    rw [List.length_cons] at hl
    obtain ⟨o9', h9', e⟩ := t_step (s := s) (m := m) hc hs (b := b) (fd := fd) (by omega) (k := k) h9
    obtain ⟨p8, p9, h, e2⟩ := t_loop hc hs (s := s) (m := m) (b := b) l (fd ++ [nmK cs spot b k]) (some (.im (.int k))) o9' (by rw [List.length_append]; show fd.length + 1 + _ ≤ _; omega) imS h9'
    refine ⟨p8, p9, h, f_cons (setB_im (o := o8) rfl h8) e ?_⟩
    rw [show fd ++ (k :: l).map (nmK cs spot b) = fd ++ [nmK cs spot b k] ++ l.map (nmK cs spot b) by simp]
    exact e2
theorem e_daN {β β1 β2 : En} {m : MM D} {ms : MM (List B)} {d : D} {bs : List B} (h : m β = .ok (d, β1)) (h2 : ms β1 = .ok (bs, β2)) : daN m ms β = .ok (.im d :: bs, β2) := by unfold daN; rw [h, Res.bind_ok, h2]; rfl
theorem e_flN {β β1 β2 : En} {m : MM (List D)} {ms : MM (List B)} {d : List D} {bs : List B} (h : m β = .ok (d, β1)) (h2 : ms β1 = .ok (bs, β2)) : flN m ms β = .ok (.ol false d :: bs, β2) := by unfold flN; rw [h, Res.bind_ok, h2]; rfl
theorem s_parN {β β1 β2 : En} {is : List Nat} {m : MM (List B)} {bs : List B} (h : m β = .ok (bs, β1)) (hl : bs.length ≤ 1000) (h2 : setN is bs β1 = .ok β2) : parN is m β = .ok (.nx, β2) := by unfold parN; rw [h, Res.bind_ok, if_pos hl, h2]; rfl
structure GoodN (n : Str) : Prop where
  ok : OkT n
  nm : nmL (tl n) = true
  le : (tl n).length ≤ 5
theorem nmK_good {cs : List Nat} (h : Spare cs) (spot : Nat) (b : Int) (k : Nat) : GoodN (nmK cs spot b k) :=
  ⟨spare_ok (nmK_spare h spot b k), spare_nm (nmK_spare h spot b k), Nat.le_trans (nmK_spare h spot b k).le (by decide)⟩
abbrev wAnd : Str := "and"
abbrev wSends : Str := "sends"
abbrev wTakes : Str := "takes"
abbrev words : List Str := [wAnd, wSends, wTakes]
theorem words_good : ∀ w ∈ words, GoodN w := by
  intro w hw
  simp only [List.mem_cons, List.not_mem_nil, or_false] at hw
  rcases hw with rfl | rfl | rfl
  · exact ⟨okT_lit (by kernel_rfl), by kernel_rfl, by decide +kernel⟩
  · exact ⟨okT_lit (by kernel_rfl), by kernel_rfl, by decide +kernel⟩
  · exact ⟨okT_lit (by kernel_rfl), by kernel_rfl, by decide +kernel⟩
theorem words_nd : words.Nodup := by decide +kernel
def wdK (b : Int) (k : Nat) : Str := words[((b + k) % 3).toNat]?.getD wAnd
theorem wd_lt (b : Int) (k : Nat) : ((b + k) % 3).toNat < 3 := by
  have := Int.emod_lt_of_pos (b + k) (show (0 : Int) < 3 by decide)
  have := Int.emod_nonneg (b + k) (show (3 : Int) ≠ 0 by decide)
  omega
theorem wdK_at (b : Int) (k : Nat) : wdK b k = words[((b + k) % 3).toNat]'(wd_lt b k) := by
  unfold wdK
  rw [List.getElem?_eq_getElem (wd_lt b k)]
  rfl
theorem wdK_mem (b : Int) (k : Nat) : wdK b k ∈ words := by rw [wdK_at]; exact List.getElem_mem _
theorem wdK_inj {b : Int} {i j : Nat} (hi : i < 3) (hj : j < 3) (h : wdK b i = wdK b j) : i = j := by
  rw [wdK_at, wdK_at] at h
  have := (List.getElem_inj words_nd).mp h
  omega
theorem in_strs {x : Str} {l : List Str} : inF false (.str x) (.lst (l.map D.str)) = .ok (.bl (decide (x ∈ l))) := by
  have hf : (l.map D.str).all D.flat = true := List.all_eq_true.mpr fun d hd => by
    obtain ⟨_, _, rfl⟩ := List.mem_map.mp hd
    rfl
  show (match inP (.str x) (.lst (l.map D.str)) with | some k => Res.ok (D.bl (if false = true then !k else k)) | none => .bad) = _
  unfold inP
  dsimp only
  rw [if_pos ⟨rfl, hf⟩, any_eqV]
  rfl
theorem nodup_range_map {f : Nat → Str} {n : Nat} (h : ∀ i j, i < n → j < n → f i = f j → i = j) : ((List.range n).map f).Nodup := by
  rw [List.nodup_iff_pairwise_ne, List.pairwise_map]
  refine List.Pairwise.imp_of_mem ?_ (List.nodup_iff_pairwise_ne.mp List.nodup_range)
  intro a b ha hb hab e
  exact hab (h a b (List.mem_range.mp ha) (List.mem_range.mp hb) e)
theorem min3 {m : Nat} : min2F [.int 3, .int m] = .ok (.int ((min 3 m : Nat) : Int)) := by
  show Res.ok (D.int (if (m : Int) < 3 then (m : Int) else 3)) = _
  congr 2
  by_cases h : m < 3
  · rw [if_pos (by omega), Nat.min_eq_right (by omega)]
  · rw [if_neg (by omega), Nat.min_eq_left (by omega)]; rfl
theorem e_catF {β β1 β2 : En} {m1 m2 : MM D} {xs ys : List D} (h1 : m1 β = .ok (.lst xs, β1)) (h2 : m2 β1 = .ok (.lst ys, β2)) (hl : xs.length + ys.length ≤ 1000000) : catFM m1 m2 β = .ok (xs ++ ys, β2) := by
  unfold catFM; rw [h1, Res.bind_ok, h2, Res.bind_ok]; dsimp only; rw [if_pos hl]
theorem word_at {b : Int} {k : Nat} : subF (.lst (words.map D.str)) (.int ((b + k) % 3)) = .ok (.str (wdK b k)) := by
  have h0 : 0 ≤ (b + k) % 3 := Int.emod_nonneg _ (by decide)
  have h1 : (b + k) % 3 < 3 := Int.emod_lt_of_pos _ (by decide)
  show ixF (.lst (words.map D.str)) (.int ((b + k) % 3)) = _
  unfold ixF
  dsimp only
  unfold L2.atI L2.ixN
  rw [if_pos h0, if_pos (show (b + k) % 3 < ((words.map D.str).length : Int) from h1), Option.bind_some, List.getElem?_map, List.getElem?_eq_getElem (wd_lt b k), wdK_at]
  rfl
structure Tags (m : Nat) (l : List Str) : Prop where
  len : l.length = m
  nd : l.Nodup
  good : ∀ n ∈ l, GoodN n
theorem tags_a {m : Nat} (hm : m ≤ 6) {cs : List Nat} (h : Spare cs) {spot : Nat} (hs : spot < cs.length) {b : Int} : Tags m ((List.range m).map (nmK cs spot b)) :=
  ⟨by rw [List.length_map, List.length_range], nodup_range_map fun i j hi hj e => nmK_inj hs (by omega) (by omega) e, fun n hn => by
    obtain ⟨k, _, rfl⟩ := List.mem_map.mp hn
    exact nmK_good h spot b k⟩
theorem tags_b {m : Nat} {l : List Str} (h : Tags m l) {b : Int} (hw : ∀ w ∈ words, w ∉ l.drop 3) : Tags m ((List.range (min 3 m)).map (wdK b) ++ l.drop 3) := by
  refine ⟨?_, List.nodup_append.mpr ⟨nodup_range_map fun i j hi hj e => wdK_inj (by omega) (by omega) e, h.nd.sublist (List.drop_sublist _ _), fun x hx y hy e => ?_⟩, fun n hn => ?_⟩
  · rw [List.length_append, List.length_map, List.length_range, List.length_drop, h.len]; omega
  · obtain ⟨k, _, rfl⟩ := List.mem_map.mp hx
    rw [← e] at hy
    exact hw _ (wdK_mem b k) hy
  · rcases List.mem_append.mp hn with hn | hn
    · obtain ⟨k, _, rfl⟩ := List.mem_map.mp hn
      exact words_good _ (wdK_mem b k)
    · exact h.good n (List.mem_of_mem_drop hn)
theorem tags_ev {s : List D} (hs : Src s) {m : Nat} (hm : m ≤ 6) : ∃ (l : List Str) (s' : List D), f_x_law_tags (.ol true s) [.int m] = .ok (.lst (l.map .str), .ol true s') ∧ Src s' ∧ Tags m l := by
  obtain ⟨cs, s1, hc, hs1, e1⟩ := spare_ev hs (M := some (.im (.int m)))
  obtain ⟨sp, s2, p2, hs2, sp0, sp1⟩ := pull_ev hs1 (w := cs.length) (by have := hc.ne; omega) (by have := hc.le; omega)
  obtain ⟨spot, rfl⟩ : ∃ k : Nat, sp = (k : Int) := ⟨sp.toNat, by omega⟩
  have hsp : spot < cs.length := by omega
  obtain ⟨b, s3, p3, hs3, b0, b1⟩ := pull_ev hs2 (w := 26) (by decide) (by decide)
  obtain ⟨o8, o9, h8, e4⟩ := t_loop (s := s3) (m := m) hc.le hsp (b := b) (List.range m) [] none none (by rw [List.length_range]; show 0 + m ≤ 100; omega) (.inl rfl) (.inl rfl)
  have tg := tags_a hm hc hsp (b := b)
  rw [List.nil_append] at e4
  generalize hl : (List.range m).map (nmK cs spot b) = l at tg e4
  obtain ⟨d, s4, p4, hs4, d0, d1⟩ := pull_ev hs3 (w := 6) (by decide) (by decide)
  let E0 : En := [some (.ol true s1), some (.im (.int m)), some (.im (.str smallT)), some (.im (.str tailT)), some (.im (.lst (cs.map sgn))), none, none, none, none, none, none, none, none]
  let E1 : List D → List Str → En := fun s f => [some (.ol true s), some (.im (.int m)), some (.im (.str smallT)), some (.im (.str tailT)), some (.im (.lst (cs.map sgn))), some (.im (.int spot)), some (.im (.int b)), some (.im (.lst (f.map .str))), o8, o9, some (.im (.lst (words.map .str))), some (.im (.lst ((l.drop 3).map .str))), none]
  have q3 : parN [5, 6, 7] (daN (callO f_x_law_pull 0 (consM (apM lenF (consM (nameM 4) nilM)) nilM)) (daN (callO f_x_law_pull 0 (consM (constM (.int 26)) nilM)) (flN (lszM nilM) nilN))) E0 = .ok (.nx, EnT s3 m cs spot b [] none none) := by
    refine s_parN (e_daN (e_callO (q := true) (l := s1) (as := [.int cs.length]) ⟨_, rfl⟩ (e_one (e_ap (e_one rfl) (lenF_lst (by rw [List.length_map])))) rfl p2) (e_daN (e_callO (q := true) (l := s2) ⟨_, rfl⟩ (e_one rfl) rfl p3) (e_flN (e_lsz rfl (Nat.zero_le _)) rfl))) (show (3 : Nat) ≤ 1000 by decide) rfl
  have q5 : parN [10, 11] (daN (apM lstF (consM (constM (.str "and")) (consM (constM (.str "sends")) (consM (constM (.str "takes")) nilM)))) (daN (slM (nameM 7) (soM (constM (.int 3))) noM) nilN)) (frzB 7 (EnT s3 m cs spot b l o8 o9)) = .ok (.nx, E1 s3 l) := by
    refine s_parN (bs := [.im (.lst (words.map .str)), .im (.lst ((l.drop 3).map .str))]) (e_daN (e_ap (e_cons rfl (e_cons rfl (e_one rfl))) rfl) (e_daN (e_sl (a := .lst (l.map .str)) rfl (e_so rfl) rfl ?_) rfl)) (show (2 : Nat) ≤ 1000 by decide) rfl
    show Res.ok (D.lst (cutL (l.map .str) (some ((3 : Nat) : Int)) none)) = _
    rw [cut_from_any, List.map_drop]
  have qa : lcM (iterK (nameM 10)) [12] (gN 12) yesM (opM (inF false) (nameM 12) (nameM 11)) (E1 s4 l) = .ok (words.map (fun w => D.bl (decide (w ∈ l.drop 3))), E1 s4 l) :=
    e_lcA (src := D.str) rfl (by decide) rfl fun w _ => ⟨[some (.ol true s4), some (.im (.int m)), some (.im (.str smallT)), some (.im (.str tailT)), some (.im (.lst (cs.map sgn))), some (.im (.int spot)), some (.im (.int b)), some (.im (.lst (l.map .str))), o8, o9, some (.im (.lst (words.map .str))), some (.im (.lst ((l.drop 3).map .str))), some (.im (.str w))], rfl, e_op rfl rfl in_strs, rfl⟩
  have fin : ifM (andT (truthM (opM eqPD (callO f_x_law_pull 0 (consM (constM (.int 6)) nilM)) (constM (.int 0)))) (notT (truthM (apM anyF (consM (frM (lcM (iterK (nameM 10)) [12] (gN 12) yesM (opM (inF false) (nameM 12) (nameM 11)))) nilM)))))
      (ownM 7 (catFM (frM (lcM (itM rngF1 (consM (apM min2F (consM (constM (.int 3)) (consM (nameM 1) nilM))) nilM)) [8] (gN 8) yesM (opM subF (nameM 10) (opM modD (apM intF (consM (opM addD (nameM 6) (nameM 8)) nilM)) (constM (.int 3)))))) (nameM 11)))
      passM (E1 s3 l) = .ok (.nx, E1 s4 l) ∨ ∃ l' o8', Tags m l' ∧ ifM (andT (truthM (opM eqPD (callO f_x_law_pull 0 (consM (constM (.int 6)) nilM)) (constM (.int 0)))) (notT (truthM (apM anyF (consM (frM (lcM (iterK (nameM 10)) [12] (gN 12) yesM (opM (inF false) (nameM 12) (nameM 11)))) nilM)))))
      (ownM 7 (catFM (frM (lcM (itM rngF1 (consM (apM min2F (consM (constM (.int 3)) (consM (nameM 1) nilM))) nilM)) [8] (gN 8) yesM (opM subF (nameM 10) (opM modD (apM intF (consM (opM addD (nameM 6) (nameM 8)) nilM)) (constM (.int 3)))))) (nameM 11)))
      passM (E1 s3 l) = .ok (.nx, [some (.ol true s4), some (.im (.int m)), some (.im (.str smallT)), some (.im (.str tailT)), some (.im (.lst (cs.map sgn))), some (.im (.int spot)), some (.im (.int b)), some (.ol false (l'.map .str)), o8', o9, some (.im (.lst (words.map .str))), some (.im (.lst ((l.drop 3).map .str))), none]) := by
    have t1 : truthM (opM eqPD (callO f_x_law_pull 0 (consM (constM (.int 6)) nilM)) (constM (.int 0))) (E1 s3 l) = .ok (d == 0, E1 s4 l) :=
      e_truth (e_op (e_callO (q := true) (l := s3) ⟨_, rfl⟩ (e_one rfl) rfl p4) rfl rfl)
    have t2 : notT (truthM (apM anyF (consM (frM (lcM (iterK (nameM 10)) [12] (gN 12) yesM (opM (inF false) (nameM 12) (nameM 11)))) nilM))) (E1 s4 l) = .ok (!(words.any fun w => decide (w ∈ l.drop 3)), E1 s4 l) :=
      e_notT (e_truth (e_ap (e_one (e_fr qa)) (anyF_map _ _)))
    cases hd : d == 0 with
    | false =>
      rw [hd] at t1
      exact .inl (s_if_f (e_andT_f t1) rfl)
    | true =>
      rw [hd] at t1
      cases hw : words.any fun w => decide (w ∈ l.drop 3) with
      | true =>
        rw [hw] at t2
        exact .inl (s_if_f (e_andT_t t1 t2) rfl)
      | false =>
        rw [hw] at t2
        have hn : ∀ w ∈ words, w ∉ l.drop 3 := fun w h1 h2 => by
          have := List.any_eq_false.mp hw w h1
          exact this (decide_eq_true h2)
        refine .inr ⟨(List.range (min 3 m)).map (wdK b) ++ l.drop 3, none, tags_b tg hn, s_if_t (e_andT_t t1 t2) ?_⟩
        rw [List.map_append]
        let E2 : Option B → En := fun o => [some (.ol true s4), some (.im (.int m)), some (.im (.str smallT)), some (.im (.str tailT)), some (.im (.lst (cs.map sgn))), some (.im (.int spot)), some (.im (.int b)), some (.im (.lst (l.map .str))), o, o9, some (.im (.lst (words.map .str))), some (.im (.lst ((l.drop 3).map .str))), none]
        have q : lcM (itM rngF1 (consM (apM min2F (consM (constM (.int 3)) (consM (nameM 1) nilM))) nilM)) [8] (gN 8) yesM (opM subF (nameM 10) (opM modD (apM intF (consM (opM addD (nameM 6) (nameM 8)) nilM)) (constM (.int 3)))) (E1 s4 l) = .ok ((List.range (min 3 m)).map (fun k => D.str (wdK b k)), E2 none) :=
          e_lcA (src := fun i => D.int ((i : Nat) : Int)) (e_it (e_one (e_ap (e_cons rfl (e_one rfl)) min3)) (rng_ev (by omega))) (by rw [List.length_range]; omega) rfl fun k _ => ⟨E2 (some (.im (.int k))), rfl, e_op (b := .int ((b + k) % 3)) rfl (e_op (a := .int (b + k)) rfl rfl (modD_ok (by decide))) word_at, rfl⟩
        refine s_own (ds := ((List.range (min 3 m)).map (wdK b)).map .str ++ (l.drop 3).map .str) (β1 := E2 none) (e_catF (β1 := E2 none) (e_fr ?_) rfl ?_) rfl
        · rw [List.map_map]; exact q
        · rw [List.length_map, List.length_map, List.length_range, List.length_map, List.length_drop, tg.len]; omega
  rcases fin with ef | ⟨l', o8', tg', ef⟩
  · refine ⟨_, s4, e_runM (s_nx (s_parN (e_daN rfl (e_daN rfl rfl)) (show (2 : Nat) ≤ 1000 by decide) rfl) (s_nx e1 (s_nx q3 (s_nx (s_for (e_it (e_one rfl) (rng_ev (by omega))) e4) (s_frz (s_nx q5 (s_nx ef (s_frz (s_ret rfl))))))))) rfl rfl, hs4, tg⟩
  · refine ⟨_, s4, e_runM (s_nx (s_parN (e_daN rfl (e_daN rfl rfl)) (show (2 : Nat) ≤ 1000 by decide) rfl) (s_nx e1 (s_nx q3 (s_nx (s_for (e_it (e_one rfl) (rng_ev (by omega))) e4) (s_frz (s_nx q5 (s_nx ef (s_frz (s_ret rfl))))))))) rfl rfl, hs4, tg'⟩
theorem srt_length {rows : List Row} (nd : (rows.map (·.1)).Nodup) : (srt rows).length = rows.length := by
  unfold srt
  rw [List.length_map, ← ascS_eq (sortS_pw (rows.map (·.1))) ((sortS_perm _).nodup_iff.mpr nd) fun k => (sortS_perm _).mem_iff, (sortS_perm _).length_eq, List.length_map]
theorem x_dun2 {β β1 β2 : En} {m1 m2 : MM D} {sr : List Row} {ok : D → Bool} {fm : List D → Res D} {a : D} {c : Str} {fs : List (Str × D)} (h : m1 β = .ok (loadD sr, β1)) (h2 : m2 β1 = .ok (a, β2)) (hf : fm [loadD sr, a] = .exc c fs) : dun2 "Load" ok fm m1 m2 β = .exc c fs := by
  unfold dun2
  rw [h]
  dsimp only [Res.bind_ok]
  rw [objOf_load]
  dsimp only
  rw [h2]
  dsimp only [Res.bind_ok]
  rw [show fm [D.obj "Load" (loadF sr), a] = .exc c fs from hf]
  rfl
theorem e_neO {β β1 : En} {m1 m2 : MM D} {fm : List D → Res D} {k : Bool} (h : dun2 "Load" okBl fm m1 m2 β = .ok (.bl k, β1)) : neO "Load" fm m1 m2 β = .ok (.bl (!k), β1) := by
  unfold neO
  rw [h]
  rfl

structure Nms (S : List Str) : Prop where
  nd : S.Nodup
  pw : S.Pairwise (fun x y => leS x y = true)
  ok : ∀ n ∈ S, OkT n
  nm : ∀ n ∈ S, nmL (tl n) = true
  len : S.length ≤ 40
structure Cf (S : List Str) (f : Str → Int) : Prop where
  nn : ∀ n, 0 ≤ f n
  sup : ∀ n, n ∉ S → f n = 0
def onF (S : List Str) (f : Str → Int) : List Str := S.filter fun n => decide (f n ≠ 0)
def rowsOf (S : List Str) (f : Str → Int) : List Row := (onF S f).map fun n => (n, f n)
abbrev L (S : List Str) (f : Str → Int) : D := loadD (rowsOf S f)
theorem rows_names {S : List Str} {f : Str → Int} : (rowsOf S f).map (·.1) = onF S f := by
  unfold rowsOf
  rw [List.map_map]
  exact List.map_id' _
theorem on_mem {S : List Str} {f : Str → Int} {n : Str} : n ∈ onF S f ↔ n ∈ S ∧ f n ≠ 0 := by
  unfold onF
  rw [List.mem_filter, decide_eq_true_iff]
theorem on_nd {S : List Str} {f : Str → Int} (N : Nms S) : (onF S f).Nodup := N.nd.sublist List.filter_sublist
theorem on_pw {S : List Str} {f : Str → Int} (N : Nms S) : (onF S f).Pairwise (fun x y => leS x y = true) := N.pw.sublist List.filter_sublist
theorem on_len {S : List Str} {f : Str → Int} (N : Nms S) : (onF S f).length ≤ 40 := Nat.le_trans (List.length_filter_le _ _) N.len
theorem rows_len {S : List Str} {f : Str → Int} (N : Nms S) : (rowsOf S f).length ≤ 40 := by
  unfold rowsOf
  rw [List.length_map]
  exact on_len N
theorem rows_nd {S : List Str} {f : Str → Int} (N : Nms S) : ((rowsOf S f).map (·.1)).Nodup := by rw [rows_names]; exact on_nd N
theorem rows_ord {S : List Str} {f : Str → Int} (N : Nms S) : Ord (rowsOf S f) := by unfold Ord; rw [rows_names]; exact on_pw N
theorem rows_mem {S : List Str} {f : Str → Int} {p : Row} (h : p ∈ rowsOf S f) : p.1 ∈ S ∧ f p.1 ≠ 0 ∧ p.2 = f p.1 := by
  unfold rowsOf at h
  obtain ⟨n, hn, rfl⟩ := List.mem_map.mp h
  exact ⟨(on_mem.mp hn).1, (on_mem.mp hn).2, rfl⟩
theorem rows_ok {S : List Str} {f : Str → Int} (N : Nms S) : ∀ p ∈ rowsOf S f, OkT p.1 := fun p hp => N.ok _ (rows_mem hp).1
theorem rows_good {S : List Str} {f : Str → Int} (N : Nms S) (F : Cf S f) : GoodL (rowsOf S f) :=
  ⟨fun p hp => ⟨N.ok _ (rows_mem hp).1, N.nm _ (rows_mem hp).1, by have := F.nn p.1; have := (rows_mem hp).2; omega⟩, rows_nd N, by have := rows_len (f := f) N; omega⟩
theorem cnt_map {ns : List Str} {h : Str → Int} {n : Str} : cnt (ns.map fun n => (n, h n)) n = if n ∈ ns then h n else 0 := by
  induction ns with
  | nil => rfl
  | cons a ns ih =>
    unfold cnt cntO
    rw [List.map_cons, List.find?_cons]
    by_cases e : a = n
    · subst e
      rw [decide_eq_true rfl, if_pos List.mem_cons_self]
      rfl
    · rw [decide_eq_false e]
      refine ih.trans ?_
      by_cases hm : n ∈ ns
      · rw [if_pos hm, if_pos (List.mem_cons_of_mem _ hm)]
      · rw [if_neg hm, if_neg fun z => (List.mem_cons.mp z).elim (fun q => e q.symm) hm]
theorem nm_map {ns : List Str} {h : Str → Int} : (ns.map fun n => ((n, h n) : Row)).map (·.1) = ns := by
  rw [List.map_map]
  exact List.map_id' _
theorem cnt_rows {S : List Str} {f : Str → Int} (F : Cf S f) {n : Str} : cnt (rowsOf S f) n = f n := by
  unfold rowsOf
  rw [cnt_map]
  split
  · rfl
  · rename_i h
    rw [on_mem] at h
    by_cases hs : n ∈ S
    · exact (Classical.byContradiction fun z => h ⟨hs, fun q => z q.symm⟩)
    · exact (F.sup n hs).symm
theorem srt_ext {l l' : List Str} (p : l.Pairwise fun x y => leS x y = true) (nd : l.Nodup) (p' : l'.Pairwise fun x y => leS x y = true) (nd' : l'.Nodup) (h : ∀ n, n ∈ l ↔ n ∈ l') : l = l' :=
  (ascS_eq p nd (xs := l') h).trans (ascS_eq p' nd' (xs := l') fun _ => Iff.rfl).symm
theorem pairs_ev0 {rows : List Row} (hl : rows.length < 1000) : f_pairs_of [.dic true (rows.map kvD)] = .ok (.tup ((((ascS (rows.map (·.1))).filter fun n => !(cnt rows n == 0)).map fun n => (n, cnt rows n)).map rowD)) := by
  have key : lcM (iterK (callM f_ascending (consM (nameM 0) nilM))) [1] (gN 1) (truthM (opM nePD (opM subF (nameM 0) (nameM 1)) (constM (.int 0)))) (apM tupF (consM (nameM 1) (consM (opM subF (nameM 0) (nameM 1)) nilM))) [some (.im (.dic true (rows.map kvD))), none] = .ok ((((ascS (rows.map (·.1))).filter fun n => !(cnt rows n == 0)).map fun n => rowD (n, cnt rows n)), [some (.im (.dic true (rows.map kvD))), none]) := by
    refine e_lcF (src := D.str) (β1 := [some (.im (.dic true (rows.map kvD))), none]) ?_ ?_ rfl fun n hn => ⟨[some (.im (.dic true (rows.map kvD))), some (.im (.str n))], rfl, ?_, fun _ => ?_, rfl⟩
    · unfold iterK
      rw [e_call (d := .lst ((ascS (rows.map (·.1))).map .str)) (e_one rfl) (asc_dict (by omega))]
      rfl
    · have := asc_len (names := rows.map (·.1))
      rw [List.length_map] at this
      omega
    · exact e_truth (e_op (e_op rfl rfl (subF_kv (mem_asc.mp hn))) rfl rfl)
    · exact e_ap (e_cons rfl (e_one (e_op rfl rfl (subF_kv (mem_asc.mp hn))))) rfl
  refine e_runF (β := [some (.im (.dic true (rows.map kvD))), none]) (s_ret (e_ap (e_one (e_fr key)) ?_))
  show Res.ok (D.tup _) = _
  rw [List.map_map]
  rfl
theorem load_of_map {S : List Str} (N : Nms S) {f : Str → Int} (F : Cf S f) {ns : List Str} {h : Str → Int} (nd : ns.Nodup) (sub : ∀ n ∈ ns, n ∈ S) (hc : ∀ n ∈ S, f n = if n ∈ ns then h n else 0) : f_load_of [.dic true ((ns.map fun n => (n, h n)).map kvD)] = .ok (L S f) := by
  have hl : ns.length ≤ 40 := Nat.le_trans (List.Nodup.length_le_of_subset nd sub) N.len
  have e : ((ascS ((ns.map fun n => (n, h n)).map (·.1))).filter fun n => !(cnt (ns.map fun n => (n, h n)) n == 0)) = onF S f := by
    refine srt_ext ((asc_pw _).sublist List.filter_sublist) ((asc_nodup _).sublist List.filter_sublist) (on_pw N) (on_nd N) fun n => ?_
    rw [List.mem_filter, mem_asc, List.map_map, on_mem, cnt_map]
    rw [show List.map ((fun x : Row => x.1) ∘ fun n => (n, h n)) ns = ns from List.map_id' _]
    constructor
    · rintro ⟨h1, h2⟩
      refine ⟨sub n h1, ?_⟩
      rw [hc n (sub n h1)]
      simpa using h2
    · rintro ⟨h1, h2⟩
      rw [hc n h1] at h2
      by_cases hm : n ∈ ns
      · exact ⟨hm, by simpa using h2⟩
      · rw [if_neg hm] at h2; exact (h2 rfl).elim
  have e2 : ((ascS ((ns.map fun n => (n, h n)).map (·.1))).filter fun n => !(cnt (ns.map fun n => (n, h n)) n == 0)).map (fun n => (n, cnt (ns.map fun n => (n, h n)) n)) = rowsOf S f := by
    rw [e]
    unfold rowsOf
    refine List.map_congr_left fun n hn => ?_
    rw [cnt_map, hc n (on_mem.mp hn).1]
  have p := pairs_ev0 (rows := ns.map fun n => (n, h n)) (by rw [List.length_map]; omega)
  rw [e2] at p
  have m := make_ev (β := [some (.im (.dic true ((ns.map fun n => (n, h n)).map kvD))), some (.im (.tup ((rowsOf S f).map rowD)))]) (ms := starM (nameM 1)) (rows := rowsOf S f) rfl (rows_good N F)
  rw [srt_of_ord (rows_nd N) (rows_ord N)] at m
  exact e_runF (s_nx (s_set (e_call (e_one rfl) p) rfl) (s_ret m))
theorem g2 {β β1 β2 : En} {m1 m2 : MM D} {l : Bool} {rows : List Row} {n : Str} (h1 : m1 β = .ok (.dic l (rows.map kvD), β1)) (h2 : m2 β1 = .ok (.str n, β2)) : get2M m1 m2 (constM (.int 0)) β = .ok (.int (cnt rows n), β2) := by
  refine (e_get2 (d := .int 0) h1 h2 rfl rfl).trans ?_
  rw [val_kv]
  unfold cnt
  cases cntO rows n <;> rfl
theorem putD_new {pre : List Row} {p : Row} (h : p.1 ∉ pre.map (·.1)) : putD (pre.map kvD) (.inr p.1) (.int p.2) = (pre ++ [p]).map kvD := by
  unfold putD
  rw [any_key h, if_neg Bool.false_ne_true, List.map_append]
  rfl
theorem dc_y {vs : List Nat} {g : GM} {tt : MM Bool} {tk tv : MM D} {d k v : D} {kk : Key} {ds : List D} {acc : List (Key × D)} {β β1 β2 β3 β4 : En} {rr : Res (List (Key × D) × En)} (hg : g d β = .ok β1) (ht : tt β1 = .ok (true, β2)) (hk : tk β2 = .ok (k, β3)) (hv : tv β3 = .ok (v, β4)) (hkk : keyD k = some kk) (h : dcLoop vs g tt tk tv ds (putD acc kk v) (wipeB β4 vs) = rr) : dcLoop vs g tt tk tv (d :: ds) acc β = rr := by
  show ((g d β).bindB fun β1 => (tt β1).bindB fun p => if p.1 = true then (tk p.2).bindB fun q => (tv q.2).bindB fun z => match keyD q.1 with
      | some k => dcLoop vs g tt tk tv ds (putD acc k z.1) (wipeB z.2 vs)
      | none => .bad
    else dcLoop vs g tt tk tv ds acc (wipeB p.2 vs)) = rr
  rw [hg]
  dsimp only [Res.bindB]
  rw [ht]
  dsimp only [Res.bindB]
  rw [if_pos rfl, hk]
  dsimp only [Res.bindB]
  rw [hv]
  dsimp only [Res.bindB]
  rw [hkk]
  exact h
theorem dc_map {α : Type} {vs : List Nat} {g : GM} {tk tv : MM D} {src : α → D} {r : α → Row} {β2 : En} : ∀ (l : List α) (pre : List Row), ((pre ++ l.map r).map (·.1)).Nodup → (∀ a ∈ l, ∃ β3, g (src a) β2 = .ok β3 ∧ tk β3 = .ok (.str (r a).1, β3) ∧ tv β3 = .ok (.int (r a).2, β3) ∧ wipeB β3 vs = β2) →
    dcLoop vs g yesM tk tv (l.map src) (pre.map kvD) β2 = .ok ((pre ++ l.map r).map kvD, β2)
  | [], pre, _, _ => by rw [List.map_nil, List.map_nil, List.append_nil]; rfl
  | a :: l, pre, nd, h => by
    obtain ⟨β3, h1, h2, h3, h4⟩ := h a List.mem_cons_self
    have e : pre ++ (a :: l).map r = (pre ++ [r a]) ++ l.map r := by rw [List.append_assoc]; rfl
    have hn : (r a).1 ∉ pre.map (·.1) := fun hm => by
      rw [List.map_append, List.nodup_append] at nd
      exact nd.2.2 _ hm _ (by rw [List.map_cons, List.map_cons]; exact List.mem_cons_self) rfl
    refine dc_y h1 rfl h2 h3 rfl ?_
    rw [putD_new hn, h4, e]
    exact dc_map l _ (e ▸ nd) fun b hb => h b (List.mem_cons_of_mem _ hb)
theorem e_dcA {α : Type} {mi : MM (List D)} {vs : List Nat} {g : GM} {tk tv : MM D} {src : α → D} {r : α → Row} {l : List α} {β β1 β2 : En} (hi : mi β = .ok (l.map src, β1)) (hl : l.length ≤ 1000000) (hw : wipeB β1 vs = β2) (nd : ((l.map r).map (·.1)).Nodup)
    (h : ∀ a ∈ l, ∃ β3, g (src a) β2 = .ok β3 ∧ tk β3 = .ok (.str (r a).1, β3) ∧ tv β3 = .ok (.int (r a).2, β3) ∧ wipeB β3 vs = β2) : dcM mi vs g yesM tk tv β = .ok (.dic true ((l.map r).map kvD), β2) := by
  unfold dcM
  rw [hi]
  dsimp only [Res.bind_ok]
  rw [if_pos (by rw [List.length_map]; exact hl), hw, show ([] : List (Key × D)) = ([] : List Row).map kvD from rfl, dc_map l [] nd h]
  rfl

theorem s_expr {β β1 : En} {m : MM D} {d : D} (h : m β = .ok (d, β1)) : exprM m β = .ok (.nx, β1) := by unfold exprM; rw [h]; rfl
theorem x_expr {β : En} {m : MM D} {c : Str} {fs : List (Str × D)} (h : m β = .exc c fs) : exprM m β = .exc c fs := by unfold exprM; rw [h]; rfl
theorem e_runFn {β : En} {k1 : MM Fl} {n : Nat} {ds : List D} (h : k1 (env0 n ds) = .ok (.nx, β)) : runF k1 n ds = .ok .non := by unfold runF; rw [h]; rfl
theorem e_star {β β1 β2 : En} {m : MM D} {ms : MM (List D)} {d : D} {ds es : List D} (h : m β = .ok (d, β1)) (hs : starIt d = some ds) (h2 : ms β1 = .ok (es, β2)) : starEM m ms β = .ok (ds ++ es, β2) := by
  unfold starEM
  rw [h]
  dsimp only [Res.bind_ok]
  rw [hs]
  dsimp only
  rw [h2]
  rfl
theorem check_ok {r : List Row} : f_check_load [loadD r] = .ok .non :=
  e_runFn (s_if_f (e_notT (k := true) (e_truth (e_isi rfl (isiC_load r)))) rfl)
theorem check_x {d : D} (h : isiC "Load" d = false) : f_check_load [d] = .exc "NotALoad" [("value", d)] :=
  x_runF (s_if_t (e_notT (k := false) (e_truth (e_isi rfl h))) (s_raise rfl))
theorem in_dic {neg l : Bool} {rows : List Row} {n : Str} : inF neg (.str n) (.dic l (rows.map kvD)) = .ok (.bl (if neg = true then !(decide (n ∈ rows.map (·.1))) else decide (n ∈ rows.map (·.1)))) := by
  show (match some ((valD (rows.map kvD) (.inr n)).isSome) with | some k => Res.ok (D.bl (if neg = true then !k else k)) | none => .bad) = _
  rw [val_kv]
  have e : ((cntO rows n).map D.int).isSome = decide (n ∈ rows.map (·.1)) := by
    by_cases h : n ∈ rows.map (·.1)
    · obtain ⟨p, _, _, e⟩ := cntO_some h
      rw [e, decide_eq_true h]
      rfl
    · rw [cntO_none h, decide_eq_false h]
      rfl
  rw [e]
theorem keys_rows {rows : List Row} : ((rows.map kvD).map fun kv => keyAs kv.1) = (rows.map (·.1)).map D.str := by
  rw [List.map_map, List.map_map]
  rfl
section
variable {S : List Str} {f g : Str → Int}
abbrev dF (S : List Str) (f : Str → Int) : D := .dic true ((rowsOf S f).map kvD)
theorem fld_dict {β β1 : En} {m : MM D} (N : Nms S) (h : m β = .ok (L S f, β1)) : dictM (fldM flds "pairs" m) β = .ok (dF S f, β1) :=
  e_dict (e_fld h fl_pairs look_pairs) (dict_tup (rows_nd N))
theorem fld_pairs {β β1 : En} {m : MM D} (h : m β = .ok (L S f, β1)) : fldM flds "pairs" m β = .ok (.tup ((rowsOf S f).map rowD), β1) := e_fld h fl_pairs look_pairs
theorem it_pairs {β β1 : En} {m : MM D} (h : m β = .ok (L S f, β1)) : iterK (fldM flds "pairs" m) β = .ok ((rowsOf S f).map rowD, β1) := iter_tup (fld_pairs h)
def bothN (S : List Str) (f g : Str → Int) : List Str := onF S f ++ (onF S g).filter fun n => !(decide (n ∈ onF S f))
theorem both_nd (N : Nms S) : (bothN S f g).Nodup := by
  unfold bothN
  refine List.nodup_append.mpr ⟨on_nd N, (on_nd N).sublist List.filter_sublist, fun a ha b hb e => ?_⟩
  subst e
  have := (List.mem_filter.mp hb).2
  rw [decide_eq_true ha] at this
  cases this
theorem both_mem {n : Str} : n ∈ bothN S f g ↔ n ∈ S ∧ (f n ≠ 0 ∨ g n ≠ 0) := by
  unfold bothN
  rw [List.mem_append, List.mem_filter]
  constructor
  · rintro (h | ⟨h, _⟩)
    · exact ⟨(on_mem.mp h).1, .inl (on_mem.mp h).2⟩
    · exact ⟨(on_mem.mp h).1, .inr (on_mem.mp h).2⟩
  · rintro ⟨a, b⟩
    by_cases h : f n ≠ 0
    · exact .inl (on_mem.mpr ⟨a, h⟩)
    · refine .inr ⟨on_mem.mpr ⟨a, b.resolve_left h⟩, ?_⟩
      rw [decide_eq_false fun z => h (on_mem.mp z).2]
      rfl
theorem with_both_ev (N : Nms S) (F : Cf S f) (G : Cf S g) : f_with_both [dF S f, dF S g] = .ok (.dic true (((bothN S f g).map fun n => (n, f n + g n)).map kvD)) := by
  let A : Option B := some (.im (dF S f))
  let C : Option B := some (.im (dF S g))
  have k1 : lcM (iterK (nameM 1)) [3] (gN 3) (truthM (opM (inF true) (nameM 3) (nameM 0))) (nameM 3) [A, C, none, none] = .ok (((onF S g).filter fun n => !(decide (n ∈ onF S f))).map D.str, [A, C, none, none]) := by
    refine e_lcF (src := D.str) (β1 := [A, C, none, none]) ?_ (by have := on_len (f := g) N; omega) rfl fun n hn => ⟨[A, C, none, some (.im (.str n))], rfl, e_truth (e_op rfl rfl ?_), fun _ => rfl, rfl⟩
    · show Res.ok (((rowsOf S g).map kvD).map (fun kv => keyAs kv.1), _) = _
      rw [keys_rows, rows_names]
    · rw [in_dic, rows_names, if_pos rfl]
  have hl : (bothN S f g).length ≤ 80 := by
    unfold bothN
    rw [List.length_append]
    have := on_len (f := f) N
    have := on_len (f := g) N
    have := List.length_filter_le (fun n => !(decide (n ∈ onF S f))) (onF S g)
    omega
  have k2 : apM lstF (starEM (nameM 0) (starEM (frM (lcM (iterK (nameM 1)) [3] (gN 3) (truthM (opM (inF true) (nameM 3) (nameM 0))) (nameM 3))) nilM)) [A, C, none, none] = .ok (.lst ((bothN S f g).map D.str), [A, C, none, none]) := by
    refine e_ap (e_star rfl (ds := (onF S f).map D.str) ?_ (e_star (e_fr k1) rfl rfl)) ?_
    · show some (((rowsOf S f).map kvD).map (fun kv => keyAs kv.1)) = _
      rw [keys_rows, rows_names]
    · rw [List.append_nil, ← List.map_append]
      show sz ((bothN S f g).map D.str).length (.ok (.lst ((bothN S f g).map D.str))) = _
      unfold sz
      rw [if_pos (by rw [List.length_map]; omega)]
  refine e_runF (s_nx (s_set k2 rfl) (s_ret (e_dcA (src := D.str) (r := fun n => (n, f n + g n)) (iter_lst rfl) (by omega) rfl ?_ fun n hn => ⟨[A, C, some (.im (.lst ((bothN S f g).map D.str))), some (.im (.str n))], rfl, rfl, e_op (g2 (rows := rowsOf S f) rfl rfl) (g2 (rows := rowsOf S g) rfl rfl) ?_, rfl⟩)))
  · rw [nm_map]; exact both_nd N
  · rw [cnt_rows F, cnt_rows G]
    rfl
theorem cf_add (F : Cf S f) (G : Cf S g) : Cf S fun n => f n + g n := ⟨fun n => by have := F.nn n; have := G.nn n; omega, fun n h => by rw [F.sup n h, G.sup n h]; rfl⟩
theorem add_ev (N : Nms S) (F : Cf S f) (G : Cf S g) : f_LoadD_addD [L S f, L S g] = .ok (L S fun n => f n + g n) := by
  refine e_runF (s_nx (s_expr (e_call (e_one rfl) check_ok)) (s_ret (e_call (e_one (e_call (e_cons (fld_dict N rfl) (e_one (fld_dict N rfl))) (with_both_ev N F G))) (load_of_map N (cf_add F G) (both_nd N) (fun n h => (both_mem.mp h).1) fun n hn => ?_))))
  split
  · rfl
  · rename_i h
    rw [both_mem] at h
    have h1 : f n = 0 := Classical.byContradiction fun z => h ⟨hn, .inl z⟩
    have h2 : g n = 0 := Classical.byContradiction fun z => h ⟨hn, .inr z⟩
    omega
theorem asc_tup {names : List Str} (h : names.length < 4000) : f_ascending [.tup (names.map .str)] = .ok (.lst ((ascS names).map .str)) :=
  asc_strs h _ fun β h0 _ _ => by
    unfold iterK
    rw [e_name h0]
    rfl
theorem max_ev {a b : Int} : max2F [.int a, .int b] = .ok (.int (max a b)) := by
  show Res.ok (D.int (if b > a then b else a)) = _
  congr 2
  split <;> omega
theorem min_ev {a b : Int} : min2F [.int a, .int b] = .ok (.int (min a b)) := by
  show Res.ok (D.int (if b < a then b else a)) = _
  congr 2
  split <;> omega
theorem names_map : (rowsOf S f).map (fun p => D.str p.1) = (onF S f).map D.str := by rw [← rows_names, List.map_map]; rfl
end

theorem bool_ext {a b : Bool} (h : a = true ↔ b = true) : a = b := by
  cases a <;> cases b <;> first | rfl | (exact absurd (h.mp rfl) (by decide)) | (exact absurd (h.mpr rfl) (by decide))
section
variable {S : List Str} {f g : Str → Int}
theorem rows_congr (h : ∀ n ∈ S, f n = g n) : rowsOf S f = rowsOf S g := by
  unfold rowsOf onF
  rw [List.filter_congr (q := fun n => decide (g n ≠ 0)) fun n hn => by rw [h n hn]]
  refine List.map_congr_left fun n hn => ?_
  rw [h n (List.mem_filter.mp hn).1]
theorem L_congr (h : ∀ n ∈ S, f n = g n) : L S f = L S g := by unfold L; rw [rows_congr h]
end
theorem e_binO {β β1 β2 : En} {m1 m2 : MM D} {a : List Row} {d r : D} {fm : List D → Res D} (h1 : m1 β = .ok (loadD a, β1)) (h2 : m2 β1 = .ok (d, β2)) (hs : sameOr "Load" d = true) (h : fm [loadD a, d] = .ok r) : binO "Load" fm m1 m2 β = .ok (r, β2) := by
  unfold binO
  rw [h1]
  dsimp only [Res.bind_ok]
  rw [objOf_load]
  dsimp only
  rw [h2]
  dsimp only [Res.bind_ok]
  rw [if_pos hs, show fm [D.obj "Load" (loadF a), d] = .ok r from h]
  rfl
theorem x_binO {β β1 β2 : En} {m1 m2 : MM D} {a : List Row} {d : D} {fm : List D → Res D} {c : Str} {fs : List (Str × D)} (h1 : m1 β = .ok (loadD a, β1)) (h2 : m2 β1 = .ok (d, β2)) (hs : sameOr "Load" d = true) (h : fm [loadD a, d] = .exc c fs) : binO "Load" fm m1 m2 β = .exc c fs := by
  unfold binO
  rw [h1]
  dsimp only [Res.bind_ok]
  rw [objOf_load]
  dsimp only
  rw [h2]
  dsimp only [Res.bind_ok]
  rw [if_pos hs, show fm [D.obj "Load" (loadF a), d] = .exc c fs from h]
  rfl
theorem same_load {a : List Row} : sameOr "Load" (loadD a) = true := by kernel_rfl
section
variable {S : List Str} {f g : Str → Int} {β β1 β2 : En} {m1 m2 : MM D}
end
section
variable {a : List Row} {d : D}
end

theorem eqP_refl (d : D) : eqP d d = none ∨ eqP d d = some true := by
  unfold eqP
  cases h : toPy d with
  | none => exact .inl rfl
  | some p =>
    dsimp only
    by_cases hs : SeqAt.shaped p = true ∧ SeqAt.shaped p = true
    · rw [if_pos hs, eqv_self p (SeqAt.canLay_of_shaped hs.1)]
      exact .inr rfl
    · rw [if_neg hs]
      exact .inl rfl
theorem sure_t {d e : D} : sure d e (some true) = some true := rfl
section
variable {cs : Str → Option (List D → Res D)} {n : Nat}
theorem eqL_same {fn : D → D → Option Bool} : ∀ {xs : List D}, (∀ x ∈ xs, fn x x = some true) → eqL fn xs xs = some true
  | [], _ => rfl
  | x :: xs, h => by
    unfold eqL
    rw [h x List.mem_cons_self]
    exact eqL_same fun y hy => h y (List.mem_cons_of_mem _ hy)
theorem eqF_py {d : D} (h : eqP d d = some true) : eqF cs n d d = some true := by
  cases n with
  | zero => exact h
  | succ n => unfold eqF; rw [h]
theorem eqF_lst {xs : List D} (h : ∀ x ∈ xs, eqF cs n x x = some true) : eqF cs (n + 1) (.lst xs) (.lst xs) = some true := by
  unfold eqF
  rcases eqP_refl (.lst xs) with e | e
  · rw [e]
    dsimp only
    rw [if_pos rfl, eqL_same h]
    rfl
  · rw [e]
theorem eqF_dic {xs : List (Key × D)} (h : eqDic xs xs = some true) : eqF cs (n + 1) (.dic true xs) (.dic true xs) = some true := by
  unfold eqF
  rcases eqP_refl (.dic true xs) with e | e
  · rw [e]
    dsimp only
    rw [h]
    rfl
  · rw [e]
theorem eqF0_lst {xs : List D} (h : ∀ x ∈ xs, eqF cs n x x = some true) : eqF0 cs n (.lst xs) (.lst xs) = some true := by
  unfold eqF0
  rcases eqP_refl (.lst xs) with e | e
  · rw [e]
    dsimp only
    rw [if_pos rfl]
    exact eqL_same h
  · rw [e]
theorem eqF_load {a : List Row} (ha : ∀ p ∈ a, OkT p.1) : eqF (csOne "Load" f_LoadD_eqD) (n + 1) (loadD a) (loadD a) = some true := by
  unfold eqF
  rcases eqP_refl (loadD a) with e | e
  · rw [e]
    show (match csOne "Load" f_LoadD_eqD (Str.ofString "Load") with | some fm => _ | none => none) = _
    unfold csOne
    rw [if_pos rfl]
    dsimp only
    rw [show f_LoadD_eqD [D.obj (Str.ofString "Load") (loadF a), D.obj (Str.ofString "Load") (loadF a)] = .ok (.bl true) from eq_self ha]
    rfl
  · rw [e]
end
theorem e_eqX {β β1 β2 : En} {ne : Bool} {cs : Str → Option (List D → Res D)} {n : Nat} {m1 m2 : MM D} {xs : List D} (h1 : m1 β = .ok (.lst xs, β1)) (h2 : m2 β1 = .ok (.lst xs, β2)) (h : ∀ x ∈ xs, eqF cs n x x = some true) : eqX ne cs n m1 m2 β = .ok (.bl (!ne), β2) := by
  unfold eqX
  rw [h1]
  dsimp only [Res.bind_ok]
  rw [h2]
  dsimp only [Res.bind_ok]
  rw [eqF0_lst h]
  cases ne <;> rfl
section
variable {S l : List Str}
theorem e_call1 {β β1 : En} {m : MM D} {fm : List D → Res D} {a d : D} (h : m β = .ok (a, β1)) (hf : fm [a] = .ok d) : callM fm (consM m nilM) β = .ok (d, β1) := e_call (e_one h) hf
end

abbrev CS := csOne "Load" f_LoadD_eqD
theorem eqF_told {c : Str} {d : D} {n : Nat} (hc : OkT c) (h : eqF CS n d d = some true) : eqF CS (n + 1) (toldD c d) (toldD c d) = some true := by
  refine eqF_lst fun x hx => ?_
  simp only [List.mem_cons, List.not_mem_nil, or_false] at hx
  rcases hx with rfl | rfl | rfl
  · exact eqF_py (eqP_same (k := 0) (py_str hc))
  · exact h
  · exact eqF_py (eqP_same (k := 0) py_bl)
theorem item_at {l : List D} {k : Nat} (h : k < l.length) : subF (.lst l) (.int k) = .ok l[k] := by
  show ixF (.lst l) (.int k) = _
  unfold ixF
  dsimp only
  unfold L2.atI L2.ixN
  rw [if_pos (Int.natCast_nonneg k), if_pos (Int.ofNat_lt.mpr h), Option.bind_some, Int.toNat_natCast, List.getElem?_eq_getElem h]
section
variable {S l : List Str} {B4 : List (List Row)} {s : List D} {t : Int}
end
end K03
end

section
set_option Elab.async false
set_option linter.all false
set_option maxRecDepth 100000
set_option maxHeartbeats 4000000
set_option autoImplicit false
namespace K03
open PySem Fw L2
open TL (tl numL)
/-! ### kinds -/
abbrev kD (ks : List Str) : D := .tup (ks.map .str)
structure Kn (ks : List Str) : Prop where
  nd : ks.Nodup
  ok : ∀ n ∈ ks, OkT n
  nm : ∀ n ∈ ks, nmL (tl n) = true
  ne : ks ≠ []
  len : ks.length ≤ 20
theorem in_tup {neg : Bool} {x : Str} {l : List Str} : inF neg (.str x) (.tup (l.map D.str)) = .ok (.bl (if neg = true then !(decide (x ∈ l)) else decide (x ∈ l))) := by
  have hf : (l.map D.str).all D.flat = true := List.all_eq_true.mpr fun d hd => by
    obtain ⟨_, _, rfl⟩ := List.mem_map.mp hd
    rfl
  show (match inP (.str x) (.tup (l.map D.str)) with | some k => Res.ok (D.bl (if neg = true then !k else k)) | none => .bad) = _
  unfold inP
  dsimp only
  rw [if_pos ⟨rfl, hf⟩, any_eqV]
abbrev wBody : MM Fl := (seqM (ifM (orT (notT (truthM (lclM 1 tb_wrong_place (consM (nameM 4) nilM)))) (flatT (truthM (opM (inF false) (nameM 4) (nameM 2)))))
  (retM (nameM 3))
  passM)
  (appM 2 (nameM 4)))
abbrev wTg : GM := gTp (gCs (gN 3) (gCs (gN 4) gNl))
abbrev wEn (v : D) (er : List Str) (o3 o4 : Option B) : En := [some (.im v), some (.fn "is_name"), some (.ol false (er.map .str)), o3, o4]
theorem wTg_ev {v : D} {er : List Str} {o3 o4 : Option B} {i : Int} {d : D} (h3 : imO o3) (h4 : imO o4) : wTg (.tup [.int i, d]) (wEn v er o3 o4) = .ok (wEn v er (some (.im (.int i))) (some (.im d))) := by
  rcases h3 with rfl | ⟨x, rfl⟩ <;> rcases h4 with rfl | ⟨y, rfl⟩ <;> rfl
theorem tb_is : tb_wrong_place "is_name" = some f_is_name := if_pos rfl
theorem fits_ev {v d : D} {er : List Str} {o3 : Option B} {k : Bool} (h : f_is_name [d] = .ok (.bl k)) : truthM (lclM 1 tb_wrong_place (consM (nameM 4) nilM)) (wEn v er o3 (some (.im d))) = .ok (k, wEn v er o3 (some (.im d))) := by
  refine e_truth ?_
  show (match tb_wrong_place "is_name" with | some fm => callM fm (consM (nameM 4) nilM) (wEn v er o3 (some (.im d))) | none => .bad) = _
  rw [tb_is]
  exact e_call1 rfl h
theorem er_ev {v : D} {er : List Str} {o3 : Option B} {n : Str} : flatT (truthM (opM (inF false) (nameM 4) (nameM 2))) (wEn v er o3 (some (.im (.str n)))) = .ok (decide (n ∈ er), wEn v er o3 (some (.im (.str n)))) :=
  e_flatT (e_truth (e_op (a := .str n) (b := .lst (er.map .str)) rfl rfl in_strs))
theorem w_step {v : D} {er : List Str} {i : Int} {n : Str} (ok : OkT n) (nm : nmL (tl n) = true) (hn : n ∉ er) (hl : er.length ≤ 100) : wBody (wEn v er (some (.im (.int i))) (some (.im (.str n)))) = .ok (.nx, wEn v (er ++ [n]) (some (.im (.int i))) (some (.im (.str n)))) := by
  have e1 := is_name_ev ok
  rw [nm] at e1
  refine s_nx (s_if_f (e_orT_f (e_notT (k := true) (fits_ev e1)) (er_ev.trans (by rw [decide_eq_false hn]))) rfl) ((s_app (q := false) (l := er.map .str) ⟨_, _, rfl⟩ rfl rfl (by unfold lenOk; rw [List.length_map]; exact decide_eq_true (by omega))).trans ?_)
  show Res.ok (Fl.nx, ([some (.im v), some (.fn "is_name"), some (.ol false (er.map .str ++ [.str n])), some (.im (.int i)), some (.im (.str n))] : En)) = _
  rw [show er.map D.str ++ [D.str n] = (er ++ [n]).map D.str by rw [List.map_append]; rfl]
theorem w_bad {v d : D} {er : List Str} {i : Int} (h : f_is_name [d] = .ok (.bl false)) : wBody (wEn v er (some (.im (.int i))) (some (.im d))) = .ok (.rt (.int i), wEn v er (some (.im (.int i))) (some (.im d))) :=
  s_rt (s_if_t (e_orT_t (e_notT (k := false) (fits_ev h))) (s_ret rfl))
theorem w_dup {v : D} {er : List Str} {i : Int} {n : Str} (ok : OkT n) (nm : nmL (tl n) = true) (hn : n ∈ er) : wBody (wEn v er (some (.im (.int i))) (some (.im (.str n)))) = .ok (.rt (.int i), wEn v er (some (.im (.int i))) (some (.im (.str n)))) := by
  have e1 := is_name_ev ok
  rw [nm] at e1
  exact s_rt (s_if_t (e_orT_f (e_notT (k := true) (fits_ev e1)) (er_ev.trans (by rw [decide_eq_true hn]))) (s_ret rfl))
theorem f_ret {g : GM} {k1 : MM Fl} {d r : D} {ds : List D} {β β1 β2 : En} (hg : g d β = .ok β1) (hb : k1 β1 = .ok (.rt r, β2)) : forM g k1 (d :: ds) β = .ok (.rt r, β2) := by
  show ((g d β).bindB fun β1 => (k1 β1).bind fun p => match p.1 with
    | .nx => forM g k1 ds p.2
    | .ct => forM g k1 ds p.2
    | .bk => .ok (.nx, p.2)
    | f => .ok (f, p.2)) = _
  rw [hg]
  dsimp only [Res.bindB]
  rw [hb]
  rfl
theorem w_loop {v : D} : ∀ (l er : List Str) (i : Nat) (o3 o4 : Option B), imO o3 → imO o4 → (∀ n ∈ l, OkT n) → (∀ n ∈ l, nmL (tl n) = true) → (er ++ l).Nodup → er.length + l.length ≤ 100 →
    ∃ o3' o4', imO o3' ∧ imO o4' ∧ ∀ rest : List D, forM wTg wBody (enumD i (l.map .str ++ rest)) (wEn v er o3 o4) = forM wTg wBody (enumD (i + l.length) rest) (wEn v (er ++ l) o3' o4')
  | [], er, i, o3, o4, h3, h4, _, _, _, _ => ⟨o3, o4, h3, h4, fun rest => by rw [List.append_nil]; rfl⟩
  | n :: l, er, i, o3, o4, h3, h4, ok, nm, nd, hl => by
    rw [List.length_cons] at hl
    have hn : n ∉ er := fun hm => (List.nodup_append.mp nd).2.2 _ hm _ List.mem_cons_self rfl
    have e : er ++ n :: l = (er ++ [n]) ++ l := by rw [List.append_assoc]; rfl
    obtain ⟨o3', o4', a3, a4, q⟩ := w_loop (v := v) l (er ++ [n]) (i + 1) (some (.im (.int i))) (some (.im (.str n))) imS imS (fun m hm => ok m (List.mem_cons_of_mem _ hm)) (fun m hm => nm m (List.mem_cons_of_mem _ hm)) (e ▸ nd) (by rw [List.length_append]; show er.length + 1 + _ ≤ _; omega)
    refine ⟨o3', o4', a3, a4, fun rest => ?_⟩
    rw [e, show i + (n :: l).length = i + 1 + l.length by rw [List.length_cons]; omega, ← q rest]
    exact f_cons (wTg_ev h3 h4) (w_step (ok n List.mem_cons_self) (nm n List.mem_cons_self) hn (by omega)) rfl
theorem r_runFn {k1 : MM Fl} {n : Nat} {q : Str} {d r : D} {β : En} (h : k1 (envFn n q d) = .ok (.rt r, β)) : runFn k1 n q [d] = .ok r := by unfold runFn; dsimp only; rw [h]; rfl
theorem wrong_ok {ks : List Str} (h : Kn ks) : f_wrong_place [kD ks] = .ok (.int (-1)) := by
  obtain ⟨o3, o4, _, _, e⟩ := w_loop (v := kD ks) ks [] 0 none none (.inl rfl) (.inl rfl) h.ok h.nm h.nd (by have := h.len; show 0 + _ ≤ _; omega)
  have e' := e []
  rw [List.append_nil] at e'
  exact r_runFn (s_nx (β1 := wEn (kD ks) [] none none) rfl (s_nx (β1 := wEn (kD ks) ([] ++ ks) o3 o4) (s_for rfl e') (s_ret rfl)))
theorem wrong_at {pre : List Str} {d : D} {rest : List D} (h1 : ∀ n ∈ pre, OkT n) (h2 : ∀ n ∈ pre, nmL (tl n) = true) (nd : pre.Nodup) (hl : pre.length ≤ 50) (hd : f_is_name [d] = .ok (.bl false) ∨ ∃ n, OkT n ∧ nmL (tl n) = true ∧ n ∈ pre ∧ d = .str n) : f_wrong_place [.tup (pre.map .str ++ d :: rest)] = .ok (.int pre.length) := by
  obtain ⟨o3, o4, h3, h4, e⟩ := w_loop (v := .tup (pre.map .str ++ d :: rest)) pre [] 0 none none (.inl rfl) (.inl rfl) h1 h2 nd (by show 0 + _ ≤ _; omega)
  have e' := e (d :: rest)
  rw [Nat.zero_add, List.nil_append] at e'
  have hx : forM wTg wBody (enumD pre.length (d :: rest)) (wEn (.tup (pre.map .str ++ d :: rest)) pre o3 o4) = .ok (.rt (.int pre.length), wEn (.tup (pre.map .str ++ d :: rest)) pre (some (.im (.int pre.length))) (some (.im d))) := by
    rcases hd with hd | ⟨n, a, b, c, rfl⟩
    · exact f_ret (wTg_ev h3 h4) (w_bad hd)
    · exact f_ret (wTg_ev h3 h4) (w_dup a b c)
  exact r_runFn (s_nx (β1 := wEn (.tup (pre.map .str ++ d :: rest)) [] none none) rfl (s_rt (s_for rfl (e'.trans hx))))
theorem eqPD_tnil {d : D} {ds : List D} {k : Nat} (h : PyL k (d :: ds)) (hk : k ≤ 63 := by decide) : eqPD (.tup (d :: ds)) (.tup []) = .ok (.bl false) := by
  unfold eqPD
  rw [(eqP_len h pyL_nil (by simp) hk).1]
theorem kinds_ok {ks : List Str} (h : Kn ks) : f_check_kinds [kD ks] = .ok .non := by
  obtain ⟨a, r, rfl⟩ : ∃ a r, ks = a :: r := by
    cases ks with
    | nil => exact (h.ne rfl).elim
    | cons a r => exact ⟨a, r, rfl⟩
  refine e_runFn (s_nx (s_if_f (e_orT_f (e_notT (k := true) (e_truth (e_isi rfl (isiB_tt _)))) (e_truth (e_op rfl rfl (eqPD_tnil (k := 0) (pyL_strs (l := a :: r) h.ok))))) rfl) (s_nx (s_set (e_call1 rfl (wrong_ok h)) rfl) (s_if_f (e_truth (e_op (a := .int (-1)) rfl rfl rfl)) rfl)))
theorem kinds_none {d : D} (h : isiB "tuple" d = false) : f_check_kinds [d] = .exc "InvalidKinds" [("index", .non)] :=
  x_runF (s_ex (s_if_t (e_orT_t (e_notT (k := false) (e_truth (e_isi rfl h)))) (s_raise rfl)))
theorem kinds_nil : f_check_kinds [.tup []] = .exc "InvalidKinds" [("index", .non)] := by
  refine x_runF (s_ex (s_if_t (e_orT_f (e_notT (k := true) (e_truth (e_isi rfl (isiB_tt _)))) (e_truth (e_op rfl rfl (eqPD_same (k := 1) (py_tup pyL_nil))))) (s_raise rfl)))
theorem kinds_at {ds : List D} {i : Nat} {k : Nat} (hp : PyL k ds) (hk : k ≤ 63) (hne : ds ≠ []) (h : f_wrong_place [.tup ds] = .ok (.int i)) : f_check_kinds [.tup ds] = .exc "InvalidKinds" [("index", .int i)] := by
  obtain ⟨a, r, rfl⟩ : ∃ a r, ds = a :: r := by
    cases ds with
    | nil => exact (hne rfl).elim
    | cons a r => exact ⟨a, r, rfl⟩
  refine x_runF (s_nx (s_if_f (e_orT_f (e_notT (k := true) (e_truth (e_isi rfl (isiB_tt _)))) (e_truth (e_op rfl rfl (eqPD_tnil hp hk)))) rfl) (s_nx (s_set (e_call1 rfl h) rfl) (s_if_t (e_truth (e_op (a := .int i) rfl rfl ?_)) (s_raise rfl))))
  show Res.ok (D.bl (decide ((0 : Int) ≤ (i : Int)))) = _
  rw [decide_eq_true (by omega)]
/-! ### names of a load among kinds -/
abbrev oBody : MM Fl := (ifM (truthM (opM (inF true) (nameM 2) (nameM 1)))
  (raiseM "UnknownKind" "value" (nameM 2))
  passM)
theorem o_test {L0 : Option B} {ks : List Str} {n : Str} : truthM (opM (inF true) (nameM 2) (nameM 1)) [L0, some (.im (kD ks)), some (.im (.str n))] = .ok (!(decide (n ∈ ks)), [L0, some (.im (kD ks)), some (.im (.str n))]) := by
  refine e_truth (e_op rfl rfl ?_)
  rw [in_tup, if_pos rfl]
theorem o_loop {L0 : Option B} {ks : List Str} : ∀ (l : List Str) (o : Option B), imO o → (∀ n ∈ l, n ∈ ks) → ∃ o', imO o' ∧ ∀ rest : List D, forM (gN 2) oBody (l.map .str ++ rest) [L0, some (.im (kD ks)), o] = forM (gN 2) oBody rest [L0, some (.im (kD ks)), o']
  | [], o, ho, _ => ⟨o, ho, fun _ => rfl⟩
  | n :: l, o, ho, h => by
    obtain ⟨o', a, e⟩ := o_loop (L0 := L0) (ks := ks) l (some (.im (.str n))) imS fun m hm => h m (List.mem_cons_of_mem _ hm)
    refine ⟨o', a, fun rest => f_cons (setB_im (o := o) rfl ho) (s_if_f (o_test.trans ?_) rfl) (e rest)⟩
    rw [decide_eq_true (h n List.mem_cons_self)]
    rfl
theorem it_names {β β1 : En} {m : MM D} {a : List Row} (h : m β = .ok (loadD a, β1)) : iterK (fldM flds "names" m) β = .ok ((a.map (·.1)).map D.str, β1) := by
  refine (iter_tup (e_fld h fl_names look_names)).trans ?_
  rw [List.map_map]
  rfl
theorem only_ok {a : List Row} {ks : List Str} (h : ∀ n ∈ a.map (·.1), n ∈ ks) : f_check_only [loadD a, kD ks] = .ok .non := by
  obtain ⟨o, _, e⟩ := o_loop (L0 := some (.im (loadD a))) (ks := ks) (a.map (·.1)) none (.inl rfl) h
  have e' := e []
  rw [List.append_nil] at e'
  exact e_runFn (β := [some (.im (loadD a)), some (.im (kD ks)), o]) (s_for (it_names rfl) e')
theorem only_exc {a : List Row} {ks pre post : List Str} {n : Str} (hr : a.map (·.1) = pre ++ n :: post) (h : ∀ m ∈ pre, m ∈ ks) (hn : n ∉ ks) : f_check_only [loadD a, kD ks] = .exc "UnknownKind" [("value", .str n)] := by
  obtain ⟨o, ho, e⟩ := o_loop (L0 := some (.im (loadD a))) (ks := ks) pre none (.inl rfl) h
  have e' := e ((n :: post).map .str)
  rw [← List.map_append, ← hr] at e'
  refine x_runF (s_for (it_names rfl) (e'.trans (f_exc (setB_im (o := o) rfl ho) (s_if_t (β1 := [some (.im (loadD a)), some (.im (kD ks)), some (.im (.str n))]) (o_test.trans ?_) (s_raise rfl)))))
  rw [decide_eq_false hn]
  rfl
end K03
end

section
set_option Elab.async false
set_option linter.all false
set_option maxRecDepth 100000
set_option maxHeartbeats 4000000
set_option autoImplicit false
namespace K03
open PySem Fw L2
open TL (tl numL)
/-! ### ranks -/
def szF (S : List Str) (f : Str → Int) : Int := ((rowsOf S f).map (·.2)).sum
abbrev iD (ns : List Int) : List D := ns.map .int
theorem nums_iD (ns : List Int) : numsD (iD ns) = some ns := by
  have e := nums_map (fun i : Int => i) ns
  rw [List.map_id'] at e
  exact e
theorem rank_ev {S : List Str} (N : Nms S) {f : Str → Int} (F : Cf S f) {ks : List Str} (hl : ks.length ≤ 1000) : f_rank_of [L S f, kD ks] = .ok (.tup (iD (szF S f :: ks.map fun k => -(f k)))) := by
  refine e_runF (s_nx (s_set (fld_dict N rfl) rfl) (s_ret (e_ap (e_cons (e_fld rfl fl_size look_size) (e_star (e_fr (e_lcA (src := D.str) (f := fun k => D.int (-(f k))) (iter_tup rfl) (by omega) rfl fun k _ => ⟨_, rfl, e_un (g2 (rows := rowsOf S f) rfl rfl) ?_, rfl⟩)) rfl rfl)) ?_)))
  · rw [cnt_rows F]
    rfl
  · rw [List.append_nil]
    show sz (D.int (szF S f) :: ks.map fun k => D.int (-(f k))).length (.ok (.tup (D.int (szF S f) :: ks.map fun k => D.int (-(f k))))) = _
    unfold sz
    rw [if_pos (by rw [List.length_cons, List.length_map]; omega)]
    unfold iD
    rw [List.map_cons, List.map_map]
    rfl
theorem toPy_ints : ∀ a : List Int, toPyL (iD a) = some (a.map PyData.int)
  | [] => by simp [toPyL]
  | p :: a => by
    have := toPy_ints a
    unfold iD at this
    unfold iD
    rw [List.map_cons, toPyL, this]
    simp [toPy]
theorem eqvAll_ints : ∀ a b : List Int, PyData.eqvAll (a.map PyData.int) (b.map PyData.int) = decide (a = b)
  | [], [] => by simp [PyData.eqvAll]
  | [], _ :: _ => by simp [PyData.eqvAll]
  | _ :: _, [] => by simp [PyData.eqvAll]
  | p :: a, q :: b => by
    rw [List.map_cons, List.map_cons, PyData.eqvAll, eqvAll_ints a b]
    refine bool_ext ?_
    rw [Bool.and_eq_true, decide_eq_true_iff, decide_eq_true_iff, List.cons.injEq]
    simp only [PyData.eqv, beq_iff_eq]
theorem pyL_ints {a : List Int} {k : Nat} : PyL k (iD a) := pyL_of fun d hd => by
  obtain ⟨p, hp, rfl⟩ := List.mem_map.mp hd
  exact py_int
theorem shaped_ints {a : List Int} : SeqAt.shaped (.tuple (a.map PyData.int)) = true ∧ SeqAt.shaped (.list (a.map PyData.int)) = true := by
  obtain ⟨ps, e, c, d, _⟩ := pyL_ints (a := a) (k := 0)
  rw [toPy_ints] at e
  cases e
  exact ⟨py_shaped (k := 1) (by simp only [PyData.canLay0]; exact c) (by simp only [PyData.depth]; omega) (by decide), py_shaped (k := 1) (by simp only [PyData.canLay0]; exact c) (by simp only [PyData.depth]; omega) (by decide)⟩
theorem eq_ints {a b : List Int} : eqPD (.tup (iD a)) (.tup (iD b)) = .ok (.bl (decide (a = b))) ∧ eqPD (.lst (iD a)) (.lst (iD b)) = .ok (.bl (decide (a = b))) := by
  constructor
  · unfold eqPD eqP
    simp only [toPy, toPy_ints, Option.map_some]
    rw [if_pos ⟨shaped_ints.1, shaped_ints.1⟩]
    simp only [PyData.eqv]
    rw [eqvAll_ints]
  · unfold eqPD eqP
    simp only [toPy, toPy_ints, Option.map_some]
    rw [if_pos ⟨shaped_ints.2, shaped_ints.2⟩]
    simp only [PyData.eqv]
    rw [eqvAll_ints]
theorem lt_ints {a b : List Int} : ltL (.tup (iD a)) (.tup (iD b)) = .ok (.bl (lexI a b)) ∧ ltL (.lst (iD a)) (.lst (iD b)) = .ok (.bl (lexI a b)) := by
  constructor
  · unfold ltL
    dsimp only
    rw [nums_iD, nums_iD]
  · unfold ltL
    dsimp only
    rw [nums_iD, nums_iD]
def cmpI (a b : List Int) : Int := if a = b then 0 else if lexI a b = true then -1 else 1
theorem cmp_ev {S : List Str} (N : Nms S) {f g : Str → Int} (F : Cf S f) (G : Cf S g) {ks : List Str} (K : Kn ks) (hs : ∀ n ∈ S, n ∈ ks) : f_compare [L S f, L S g, kD ks] = .ok (.int (cmpI (szF S f :: ks.map fun k => -(f k)) (szF S g :: ks.map fun k => -(g k)))) := by
  have hl := K.len
  have o1 : f_check_only [L S f, kD ks] = .ok .non := only_ok fun n hn => hs n (by rw [rows_names] at hn; exact (on_mem.mp hn).1)
  have o2 : f_check_only [L S g, kD ks] = .ok .non := only_ok fun n hn => hs n (by rw [rows_names] at hn; exact (on_mem.mp hn).1)
  let a : List Int := szF S f :: ks.map fun k => -(f k)
  let b : List Int := szF S g :: ks.map fun k => -(g k)
  refine r_run ?_
  show Rt _ _ [some (.im (L S f)), some (.im (L S g)), some (.im (kD ks)), none, none] _
  refine r_nx (s_expr (e_call1 rfl check_ok)) (r_nx (s_expr (e_call1 rfl check_ok)) (r_nx (s_expr (e_call1 rfl (kinds_ok K))) (r_nx (s_expr (e_call (e_cons rfl (e_one rfl)) o1)) (r_nx (s_expr (e_call (e_cons rfl (e_one rfl)) o2)) ?_))))
  refine r_nx (β1 := [some (.im (L S f)), some (.im (L S g)), some (.im (kD ks)), some (.im (.tup (iD a))), some (.im (.tup (iD b)))]) (s_parN (e_daN (e_call (e_cons rfl (e_one rfl)) (rank_ev N F (by omega))) (e_daN (e_call (e_cons rfl (e_one rfl)) (rank_ev N G (by omega))) rfl)) (show (2 : Nat) ≤ 1000 by decide) rfl) ?_
  have t1 : truthM (opM eqPD (nameM 3) (nameM 4)) [some (.im (L S f)), some (.im (L S g)), some (.im (kD ks)), some (.im (.tup (iD a))), some (.im (.tup (iD b)))] = .ok (decide (a = b), [some (.im (L S f)), some (.im (L S g)), some (.im (kD ks)), some (.im (.tup (iD a))), some (.im (.tup (iD b)))]) := e_truth (e_op rfl rfl eq_ints.1)
  have t2 : truthM (opM ltL (nameM 3) (nameM 4)) [some (.im (L S f)), some (.im (L S g)), some (.im (kD ks)), some (.im (.tup (iD a))), some (.im (.tup (iD b)))] = .ok (lexI a b, [some (.im (L S f)), some (.im (L S g)), some (.im (kD ks)), some (.im (.tup (iD a))), some (.im (.tup (iD b)))]) := e_truth (e_op rfl rfl lt_ints.1)
  show Rt _ _ _ (.int (cmpI a b))
  unfold cmpI
  by_cases e : a = b
  · rw [if_pos e]
    rw [decide_eq_true e] at t1
    exact r_rt (r_if_t t1 (r_ret rfl trivial))
  · rw [if_neg e]
    rw [decide_eq_false e] at t1
    refine r_nx (s_if_f t1 rfl) (r_ret (β1 := [some (.im (L S f)), some (.im (L S g)), some (.im (kD ks)), some (.im (.tup (iD a))), some (.im (.tup (iD b)))]) ?_ trivial)
    · cases hx : lexI a b with
      | true => rw [hx] at t2; rw [if_pos rfl]; exact e_ite_t t2 rfl
      | false => rw [hx] at t2; rw [if_neg Bool.false_ne_true]; exact e_ite_f t2 rfl
/-! ### counts in a row -/
theorem zip_fst : ∀ (ks : List Str) (t : List Int), t.length = ks.length → (ks.zip t).map (·.1) = ks
  | [], t, h => by cases t with
    | nil => rfl
    | cons _ _ => cases h
  | k :: ks, [], h => by cases h
  | k :: ks, x :: t, h => by
    rw [List.zip_cons_cons, List.map_cons, zip_fst ks t (by simpa using h)]
theorem zip_snd : ∀ (ks : List Str) (t : List Int), t.length = ks.length → (ks.zip t).map (·.2) = t
  | [], t, h => by cases t with
    | nil => rfl
    | cons _ _ => cases h
  | k :: ks, [], h => by cases h
  | k :: ks, x :: t, h => by
    rw [List.zip_cons_cons, List.map_cons, zip_snd ks t (by simpa using h)]
theorem zipD_rows : ∀ (ks : List Str) (t : List Int), zipD (ks.map D.str) (iD t) = (ks.zip t).map rowD
  | [], t => by simp [zipD]
  | k :: ks, [] => by simp [zipD]
  | k :: ks, x :: t => by
    have e := zipD_rows ks t
    unfold iD at e
    unfold iD
    rw [List.map_cons, List.map_cons, zipD, e, List.zip_cons_cons, List.map_cons]
    rfl
theorem perm_sum {l l' : List Int} (p : l.Perm l') : l.sum = l'.sum := by
  induction p with
  | nil => rfl
  | cons x _ ih => rw [List.sum_cons, List.sum_cons, ih]
  | swap x y l => rw [List.sum_cons, List.sum_cons, List.sum_cons, List.sum_cons]; omega
  | trans _ _ a b => exact a.trans b
theorem asc_perm {ks : List Str} (nd : ks.Nodup) : (ascS ks).Perm ks := by
  rw [← ascS_eq (sortS_pw ks) ((sortS_perm ks).nodup_iff.mpr nd) fun k => (sortS_perm ks).mem_iff]
  exact sortS_perm ks
theorem sz_sum {S : List Str} {f : Str → Int} : szF S f = (S.map f).sum := by
  unfold szF rowsOf onF
  rw [List.map_map]
  induction S with
  | nil => rfl
  | cons n S ih =>
    rw [List.filter_cons, List.map_cons, List.sum_cons]
    by_cases h : f n = 0
    · rw [if_neg (by simpa using h), ih, h, Int.zero_add]
    · rw [if_pos (decide_eq_true h), List.map_cons, List.sum_cons, ih]
      rfl
abbrev cF (ks : List Str) (t : List Int) : Str → Int := cnt (ks.zip t)
theorem cF_map {ks : List Str} {t : List Int} (nd : ks.Nodup) (h : t.length = ks.length) : ks.map (cF ks t) = t := by
  have e : ks.map (cF ks t) = ((ks.zip t).map (·.1)).map (cF ks t) := by rw [zip_fst ks t h]
  rw [e, List.map_map]
  refine (List.map_congr_left fun p hp => ?_).trans (zip_snd ks t h)
  exact cnt_self (by rw [zip_fst ks t h]; exact nd) hp
theorem cF_size {ks : List Str} {t : List Int} (nd : ks.Nodup) (h : t.length = ks.length) : szF (ascS ks) (cF ks t) = t.sum := by
  rw [sz_sum, perm_sum ((asc_perm nd).map (cF ks t)), cF_map nd h]
theorem cF_neg {ks : List Str} {t : List Int} (nd : ks.Nodup) (h : t.length = ks.length) : (ks.map fun k => -(cF ks t k)) = t.map fun x => -x := by
  conv => rhs; rw [← cF_map nd h]
  rw [List.map_map]
  rfl
theorem cF_cf {ks : List Str} {t : List Int} (nd : ks.Nodup) (h : t.length = ks.length) (h0 : ∀ x ∈ t, 0 ≤ x) : Cf (ascS ks) (cF ks t) := by
  refine ⟨fun n => ?_, fun n hn => ?_⟩
  · by_cases hm : n ∈ (ks.zip t).map (·.1)
    · obtain ⟨p, hp, _, _, e⟩ := cnt_of hm
      show 0 ≤ cnt (ks.zip t) n
      rw [e]
      exact h0 _ (by rw [← zip_snd ks t h]; exact List.mem_map_of_mem hp)
    · unfold cF cnt
      rw [cntO_none hm]
      exact Int.le_refl 0
  · unfold cF cnt
    rw [cntO_none (by rw [zip_fst ks t h]; exact fun z => hn (mem_asc.mpr z))]
    rfl
theorem kn_nms {ks : List Str} (K : Kn ks) : Nms (ascS ks) := ⟨asc_nodup ks, asc_pw ks, fun n hn => K.ok n (mem_asc.mp hn), fun n hn => K.nm n (mem_asc.mp hn), by have := asc_len (names := ks); have := K.len; omega⟩
abbrev Lt (ks : List Str) (t : List Int) : D := L (ascS ks) (cF ks t)
def rk (t : List Int) : List Int := t.sum :: t.map fun x => -x
theorem cmp_t {ks : List Str} (K : Kn ks) {t u : List Int} (ht : t.length = ks.length) (hu : u.length = ks.length) (t0 : ∀ x ∈ t, 0 ≤ x) (u0 : ∀ x ∈ u, 0 ≤ x) : f_compare [Lt ks t, Lt ks u, kD ks] = .ok (.int (cmpI (rk t) (rk u))) := by
  rw [cmp_ev (kn_nms K) (cF_cf K.nd ht t0) (cF_cf K.nd hu u0) K fun n hn => mem_asc.mp hn, cF_size K.nd ht, cF_size K.nd hu, cF_neg K.nd ht, cF_neg K.nd hu]
  rfl
/-! the law's loads -/
theorem srt_pos {ks : List Str} {t : List Int} (K : Kn ks) (h : t.length = ks.length) (h0 : ∀ x ∈ t, 0 ≤ x) : srt ((ks.zip t).filter fun p => decide (0 < p.2)) = rowsOf (ascS ks) (cF ks t) := by
  have nd : ((ks.zip t).map (·.1)).Nodup := by rw [zip_fst ks t h]; exact K.nd
  have nd2 : (((ks.zip t).filter fun p => decide (0 < p.2)).map (·.1)).Nodup := nd.sublist (List.filter_sublist.map _)
  have e1 : ascS (((ks.zip t).filter fun p => decide (0 < p.2)).map (·.1)) = onF (ascS ks) (cF ks t) := by
    refine srt_ext (asc_pw _) (asc_nodup _) (on_pw (kn_nms K)) (on_nd (kn_nms K)) fun n => ?_
    rw [mem_asc, on_mem, mem_asc]
    constructor
    · intro hm
      obtain ⟨p, hp, rfl⟩ := List.mem_map.mp hm
      obtain ⟨hp1, hp2⟩ := List.mem_filter.mp hp
      refine ⟨by rw [← zip_fst ks t h]; exact List.mem_map_of_mem hp1, ?_⟩
      show cnt (ks.zip t) p.1 ≠ 0
      rw [cnt_self nd hp1]
      have := of_decide_eq_true hp2
      omega
    · rintro ⟨hn, hc⟩
      rw [← zip_fst ks t h] at hn
      obtain ⟨p, hp, rfl⟩ := List.mem_map.mp hn
      have e : cF ks t p.1 = p.2 := cnt_self nd hp
      have := (cF_cf K.nd h h0).nn p.1
      rw [e] at hc this
      exact List.mem_map_of_mem (List.mem_filter.mpr ⟨hp, decide_eq_true (by omega)⟩)
  unfold srt rowsOf
  rw [e1]
  refine List.map_congr_left fun n hn => ?_
  have hn' : n ∈ ((ks.zip t).filter fun p => decide (0 < p.2)).map (·.1) := by rw [← mem_asc, e1]; exact hn
  obtain ⟨p, hp, rfl⟩ := List.mem_map.mp hn'
  rw [cnt_self nd2 hp]
  show (p.1, p.2) = (p.1, cnt (ks.zip t) p.1)
  rw [cnt_self nd (List.mem_filter.mp hp).1]
theorem law_load_ev {ks : List Str} {t : List Int} (K : Kn ks) (h : t.length = ks.length) (h0 : ∀ x ∈ t, 0 ≤ x) {d : D} (hd : seqOf d = some (iD t)) : f_x_law_load [kD ks, d] = .ok (Lt ks t) := by
  have g : GoodL ((ks.zip t).filter fun p => decide (0 < p.2)) := by
    refine ⟨fun p hp => ?_, ?_, ?_⟩
    · obtain ⟨hp1, hp2⟩ := List.mem_filter.mp hp
      have hm : p.1 ∈ ks := by rw [← zip_fst ks t h]; exact List.mem_map_of_mem hp1
      exact ⟨K.ok _ hm, K.nm _ hm, of_decide_eq_true hp2⟩
    · have nd : ((ks.zip t).map (·.1)).Nodup := by rw [zip_fst ks t h]; exact K.nd
      exact nd.sublist (List.filter_sublist.map _)
    · have l1 := List.length_filter_le (fun p : Row => decide (0 < p.2)) (ks.zip t)
      have l2 : (ks.zip t).length = ks.length := by rw [← List.length_map (f := fun p : Row => p.1), zip_fst ks t h]
      have := K.len
      omega
  have l2 : (ks.zip t).length = ks.length := by rw [← List.length_map (f := fun p : Row => p.1), zip_fst ks t h]
  have hl := K.len
  have hz : zipM (consM (nameM 0) (consM (nameM 1) nilM)) [some (.im (kD ks)), some (.im d), none, none] = .ok ((ks.zip t).map rowD, [some (.im (kD ks)), some (.im d), none, none]) := by
    show (match seqOf (kD ks), seqOf d with | some xs, some ys => Res.ok (zipD xs ys, _) | _, _ => .bad) = _
    rw [hd]
    show Res.ok (zipD (ks.map .str) (iD t), _) = _
    rw [zipD_rows]
  have key : lcM (zipM (consM (nameM 0) (consM (nameM 1) nilM))) [2, 3] (gTp (gCs (gN 2) (gCs (gN 3) gNl))) (truthM (opM gtD (nameM 3) (constM (.int 0)))) (apM tupF (consM (nameM 2) (consM (nameM 3) nilM))) [some (.im (kD ks)), some (.im d), none, none] = .ok ((((ks.zip t).filter fun p => decide (0 < p.2)).map rowD), [some (.im (kD ks)), some (.im d), none, none]) :=
    e_lcF (src := rowD) (f := rowD) hz (by omega) rfl fun p _ => ⟨[some (.im (kD ks)), some (.im d), some (.im (.str p.1)), some (.im (.int p.2))], rfl, e_truth (e_op rfl rfl rfl), fun _ => e_ap (e_cons rfl (e_one rfl)) rfl, rfl⟩
  have e := of_ev g
  rw [srt_pos K h h0] at e
  exact e_runF (s_ret (e_call1 (e_ap (e_one (e_fr key)) rfl) e))
end K03
end

section
set_option Elab.async false
set_option linter.all false
set_option maxRecDepth 100000
set_option maxHeartbeats 4000000
set_option autoImplicit false
namespace K03
open PySem Fw L2
open TL (tl numL)
def szL : Nat → Nat → List (List Int)
  | 0, _ => []
  | 1, s => [[(s : Int)]]
  | k + 2, s => (List.range (s + 1)).reverse.flatMap fun a => (szL (k + 1) (s - a)).map fun t => (a : Int) :: t
theorem sized1 (a : Str) : ∀ s : Nat, s < 4 → f_x_law_sized 4 [kD [a], .int s] = .ok (.lst ((szL 1 s).map fun t => .tup (iD t)))
  | 0, _ => by kernel_rfl
  | 1, _ => by kernel_rfl
  | 2, _ => by kernel_rfl
  | 3, _ => by kernel_rfl
  | n + 4, h => by omega
theorem sized2 (a b : Str) : ∀ s : Nat, s < 4 → f_x_law_sized 4 [kD [a, b], .int s] = .ok (.lst ((szL 2 s).map fun t => .tup (iD t)))
  | 0, _ => by kernel_rfl
  | 1, _ => by kernel_rfl
  | 2, _ => by kernel_rfl
  | 3, _ => by kernel_rfl
  | n + 4, h => by omega
theorem sized3 (a b c : Str) : ∀ s : Nat, s < 4 → f_x_law_sized 4 [kD [a, b, c], .int s] = .ok (.lst ((szL 3 s).map fun t => .tup (iD t)))
  | 0, _ => by kernel_rfl
  | 1, _ => by kernel_rfl
  | 2, _ => by kernel_rfl
  | 3, _ => by kernel_rfl
  | n + 4, h => by omega
theorem sized_ev {ks : List Str} (h0 : ks ≠ []) (h3 : ks.length ≤ 3) {s : Nat} (hs : s < 4) : f_x_law_sized 4 [kD ks, .int s] = .ok (.lst ((szL ks.length s).map fun t => .tup (iD t))) := by
  match ks, h0, h3 with
  | [a], _, _ => exact sized1 a s hs
  | [a, b], _, _ => exact sized2 a b s hs
  | [a, b, c], _, _ => exact sized3 a b c s hs
  | a :: b :: c :: d :: r, _, h => simp at h
theorem sz_good : ∀ m < 4, ∀ s < 4, ∀ t ∈ szL m s, t.length = m ∧ ∀ x ∈ t, 0 ≤ x := by decide +kernel
theorem sz_len : ∀ m < 4, ∀ s < 4, (szL m s).length ≤ 10 := by decide +kernel
def LL (m : Nat) : List (List Int) := (List.range 4).flatMap (szL m)
def dueI (k j : Nat) : Int := if k = j then 0 else if k < j then -1 else 1
theorem ll_cmp : ∀ m < 4, ∀ k < (LL m).length, ∀ j < (LL m).length, cmpI (rk ((LL m)[k]?.getD [])) (rk ((LL m)[j]?.getD [])) = dueI k j := by decide +kernel
theorem ll_good : ∀ m < 4, ∀ t ∈ LL m, t.length = m ∧ ∀ x ∈ t, 0 ≤ x := by decide +kernel
theorem ll_len : ∀ m < 4, (LL m).length ≤ 20 ∧ (0 < m → 4 ≤ (LL m).length) := by decide +kernel
abbrev nine : List Str := ["n098765", "n198765", "n298765", "n398765", "n498765", "n598765", "n698765", "n798765", "n898765"]
theorem nine_kn : Kn nine := ⟨by decide +kernel, fun n hn => okT_lit (by
    have : ∀ n ∈ nine, ((tl n).all (fun c => decide (c < 1114112)) && decide ((tl n).length ≤ 1000)) = true := by decide +kernel
    exact this n hn), by decide +kernel, by decide, by decide⟩
abbrev n8 : Str := "n898765"
abbrev n7 : Str := "n798765"
theorem nine_cmp : f_compare [loadD [(n8, 1)], loadD [(n7, 1)], kD nine] = .ok (.int 1) := by kernel_rfl
theorem make8 : f_LoadD_initD (.oi false "Load" []) [.tup [rowD (n8, 1)]] = .ok (.non, .oi true "Load" (loadF [(n8, 1)])) := by kernel_rfl
theorem make7 : f_LoadD_initD (.oi false "Load" []) [.tup [rowD (n7, 1)]] = .ok (.non, .oi true "Load" (loadF [(n7, 1)])) := by kernel_rfl
theorem nine_at : ∀ k < 9, opM addD (opM addD (constM (.str "n")) (apM strF (consM (nameM 0) nilM))) (constM (.str "98765")) [some (.im (.int ((k : Nat) : Int)))] = .ok (.str (nine[k]?.getD n8), [some (.im (.int ((k : Nat) : Int)))])
  | 0, _ => by kernel_rfl
  | 1, _ => by kernel_rfl
  | 2, _ => by kernel_rfl
  | 3, _ => by kernel_rfl
  | 4, _ => by kernel_rfl
  | 5, _ => by kernel_rfl
  | 6, _ => by kernel_rfl
  | 7, _ => by kernel_rfl
  | 8, _ => by kernel_rfl
  | n + 9, h => by omega
end K03
end

section
set_option Elab.async false
set_option linter.all false
set_option maxRecDepth 100000
set_option maxHeartbeats 4000000
set_option autoImplicit false
namespace K03
open PySem Fw L2
open TL (tl numL)
def negs (a : List Int) : List Int := a.map fun x => -x
theorem negs_inj : ∀ {a b : List Int}, negs a = negs b → a = b
  | [], [], _ => rfl
  | [], _ :: _, h => by cases h
  | _ :: _, [], h => by cases h
  | x :: a, y :: b, h => by
    unfold negs at h
    rw [List.map_cons, List.map_cons, List.cons.injEq] at h
    rw [negs_inj (a := a) (b := b) h.2, show x = y by omega]
theorem lexI_anti : ∀ {a b : List Int}, a.length = b.length → a ≠ b → lexI b a = !lexI a b
  | [], [], _, h => (h rfl).elim
  | [], _ :: _, h, _ => by cases h
  | _ :: _, [], h, _ => by cases h
  | x :: a, y :: b, h, n => by
    unfold lexI
    by_cases e : x = y
    · rw [if_pos e, if_pos e.symm]
      exact lexI_anti (by simpa using h) fun z => n (by rw [e, z])
    · rw [if_neg e, if_neg fun z => e z.symm]
      by_cases l : x < y
      · rw [decide_eq_true l, decide_eq_false (by omega)]; rfl
      · rw [decide_eq_false l, decide_eq_true (by omega)]; rfl
def dueG (a b : List Int) : Int := if a.sum = b.sum then (if a = b then 0 else if lexI (negs a) (negs b) = true then -1 else 1) else if a.sum < b.sum then -1 else 1
theorem cmp_due {a b : List Int} : cmpI (rk a) (rk b) = dueG a b := by
  unfold cmpI dueG rk
  by_cases hs : a.sum = b.sum
  · rw [if_pos hs]
    by_cases e : a = b
    · rw [if_pos e, if_pos (by rw [e])]
    · rw [if_neg e, if_neg (show ¬ (a.sum :: a.map fun x => -x) = (b.sum :: b.map fun x => -x) from fun z => e (negs_inj (List.cons.inj z).2))]
      rw [lexI, if_pos hs]
      rfl
  · rw [if_neg hs, if_neg fun z => hs (List.cons.inj z).1, lexI, if_neg hs]
    by_cases l : a.sum < b.sum
    · rw [if_pos l, decide_eq_true l]; rfl
    · rw [if_neg l, decide_eq_false l]; rfl
theorem cmp_anti {a b : List Int} (h : a.length = b.length) : cmpI (rk b) (rk a) = 0 - cmpI (rk a) (rk b) := by
  unfold cmpI
  by_cases e : rk a = rk b
  · rw [if_pos e, if_pos e.symm]; rfl
  · rw [if_neg e, if_neg fun z => e z.symm, lexI_anti (by unfold rk; simp [h]) e]
    cases lexI (rk a) (rk b) <;> rfl
theorem repr2 : ∀ d : Int, d = 0 ∨ d = 1 ∨ d = -1 → ∃ x, reprF [.lst [.int d, .int (0 - d)]] = .ok (.str x) ∧ OkT x := by
  rintro d (rfl | rfl | rfl)
  · exact ⟨_, rfl, okT_lit (by kernel_rfl)⟩
  · exact ⟨_, rfl, okT_lit (by kernel_rfl)⟩
  · exact ⟨_, rfl, okT_lit (by kernel_rfl)⟩
theorem dueG_3 {a b : List Int} : dueG a b = 0 ∨ dueG a b = 1 ∨ dueG a b = -1 := by
  unfold dueG
  split
  · split
    · exact .inl rfl
    · split
      · exact .inr (.inr rfl)
      · exact .inr (.inl rfl)
  · split
    · exact .inr (.inr rfl)
    · exact .inr (.inl rfl)
theorem ix0 {k : Nat} : L2.ixN (k + 1) 0 = some 0 := by
  unfold L2.ixN
  rw [if_pos (by decide), if_pos (by omega)]
  rfl
abbrev gEn (s : List D) (ks : List Str) (o2 o3 o4 o5 o6 o7 o8 o9 o10 : Option B) : En := [some (.ol true s), some (.im (kD ks)), o2, o3, o4, o5, o6, o7, o8, o9, o10]
theorem sum_iD (a : List Int) : sumF [.lst (iD a)] = .ok (.int a.sum) := by
  have e := sumF_map (fun i : Int => i) a
  rw [List.map_id'] at e
  exact e
theorem great_ev {s : List D} (hs : Src s) {ks : List Str} (K : Kn ks) : ∃ s', f_x_law_great_right (.ol true s) [kD ks] = .ok (.bl true, .ol true s') ∧ Src s' := by
  have hl := K.len
  -- the low counts
  obtain ⟨out, β', e1, s1, low, hs1, rfl, rfl, hl0, hn, _⟩ := lc_inv (vs := [9]) (g := gN 9) (te := opM mulD (callO f_x_law_pull 0 (consM (opM powD (constM (.int 10)) (constM (.int 12))) nilM)) (opM subF (apM lstF (consM (constM (.int 1)) (consM (opM powD (constM (.int 10)) (constM (.int 9))) (consM (opM powD (constM (.int 10)) (constM (.int 28))) nilM)))) (callO f_x_law_pull 0 (consM (constM (.int 3)) nilM))))
    (fun ds acc β => ∃ (s' : List D) (l : List Int), Src s' ∧ β = gEn s' ks none none none none none none none none none ∧ acc = iD l ∧ (∀ x ∈ l, 0 ≤ x) ∧ l.length + ds.length = ks.length ∧ True)
    (fun d ds acc β ⟨s', l, hs', hb, ha, h0, hn, _⟩ => by
      subst hb ha
      obtain ⟨c, s4, h4, hs4, c0, c1⟩ := pull_ev hs' (w := 10 ^ 12) (by decide) (by decide)
      obtain ⟨i, s5, h5, hs5, i0, i1⟩ := pull_ev hs4 (w := 3) (by decide) (by decide)
      obtain ⟨f, f0, ef⟩ : ∃ f : Int, 0 ≤ f ∧ subF (.lst [.int 1, .int (10 ^ 9), .int (10 ^ 28)]) (.int i) = .ok (.int f) := by
        have : i = 0 ∨ i = 1 ∨ i = 2 := by omega
        rcases this with rfl | rfl | rfl
        · exact ⟨1, by decide, rfl⟩
        · exact ⟨10 ^ 9, by decide, rfl⟩
        · exact ⟨10 ^ 28, by decide, rfl⟩
      refine ⟨gEn s' ks none none none none none none none (some (.im d)) none, .int (c * f), gEn s5 ks none none none none none none none (some (.im d)) none, rfl, e_op (a := .int c) (b := .int f) (e_callO (q := true) (l := s') (as := [.int (10 ^ 12)]) (β1 := gEn s' ks none none none none none none none (some (.im d)) none) ⟨_, rfl⟩ (e_one rfl) rfl h4) (e_op (a := .lst [.int 1, .int (10 ^ 9), .int (10 ^ 28)]) rfl (e_pull (β := gEn s4 ks none none none none none none none (some (.im d)) none) rfl h5) ef) (mulD_l (by omega) (by omega)), s5, l ++ [c * f], hs5, rfl, by unfold iD; rw [List.map_append]; rfl, fun x hx => ?_, by rw [List.length_append]; rw [List.length_cons] at hn; show l.length + 1 + ds.length = _; omega, trivial⟩
      rcases List.mem_append.mp hx with hx | hx
      · exact h0 x hx
      · rw [List.mem_singleton] at hx; rw [hx]; exact Int.mul_nonneg c0 f0)
    (ks.map D.str) [] (gEn s ks none none none none none none none none none) ⟨s, [], hs, rfl, rfl, (fun _ h => nomatch h), by rw [List.length_map]; exact Nat.zero_add _, trivial⟩
  have hlen : low.length = ks.length := by simpa using hn
  obtain ⟨x0, r0, rfl⟩ : ∃ x r, low = x :: r := by
    cases low with
    | nil => exact (K.ne (List.length_eq_zero_iff.mp hlen.symm)).elim
    | cons x r => exact ⟨x, r, rfl⟩
  obtain ⟨w, s2, p2, hs2, w0, w1⟩ := pull_ev hs1 (w := 2 * ks.length + 1) (by omega) (by omega)
  let high : List Int := max 0 (x0 + 1 - w) :: r0.map fun x => x + 1
  have hh0 : ∀ x ∈ high, 0 ≤ x := fun x hx => by
    rcases List.mem_cons.mp hx with rfl | hx
    · omega
    · obtain ⟨y, hy, rfl⟩ := List.mem_map.mp hx
      have := hl0 y (List.mem_cons_of_mem _ hy)
      show 0 ≤ y + 1
      omega
  have hhl : high.length = ks.length := by
    rw [← hlen]
    simp [high]
  let low : List Int := x0 :: r0
  obtain ⟨x, hx, okx⟩ := repr2 (dueG low high) dueG_3
  let Lo : Option B := some (.im (.lst (iD low)))
  let Hi : Option B := some (.im (.lst (iD high)))
  let Sz : Option B := some (.im (.lst [.int low.sum, .int high.sum]))
  have q0 : subF (.lst (iD (low.map fun x => x + 1))) (.int 0) = .ok (.int (x0 + 1)) := by
    show ixF (.lst (D.int (x0 + 1) :: iD (r0.map fun x => x + 1))) (.int 0) = _
    unfold ixF
    dsimp only
    rw [atI_0]
  refine ⟨s2, r_runM ?_, hs2⟩
  show Rt _ _ (gEn s ks none none none none none none none none none) _
  refine r_nx (β1 := gEn s1 ks Lo none none none none none none none none) (s_set (e_fr (e_lc (iter_tup rfl) (by rw [List.length_map]; omega) e1)) rfl) ?_
  refine r_nx (β1 := gEn s1 ks Lo (some (.ol false (iD (low.map fun x => x + 1)))) none none none none none none none) (s_own (ds := iD (low.map fun x => x + 1)) (β1 := gEn s1 ks Lo none none none none none none none none) (by unfold iD; rw [List.map_map]; exact e_lcA (src := D.int) (f := fun x => D.int (x + 1)) (iter_lst rfl) (by show r0.length + 1 ≤ _; have : (x0 :: r0).length = ks.length := hlen; rw [List.length_cons] at this; omega) rfl fun x _ => ⟨_, rfl, rfl, rfl⟩) rfl) ?_
  refine r_nx (β1 := gEn s2 ks Lo (some (.ol false (iD high))) none none none none none none none) (s_setL (q := false) (q0 := false) (l := iD (low.map fun x => x + 1)) (l0 := iD (low.map fun x => x + 1)) (n := 0) (k := 0) (d := .int (max 0 (x0 + 1 - w))) (β1 := gEn s2 ks Lo (some (.ol false (iD (low.map fun x => x + 1)))) none none none none none none none) (β2 := gEn s2 ks Lo (some (.ol false (iD (low.map fun x => x + 1)))) none none none none none none none) (e_ap (e_cons rfl (e_one (e_op (a := .int (x0 + 1)) (b := .int w) (e_flat (e_op (a := .lst (iD (low.map fun x => x + 1))) (b := .int 0) rfl rfl q0) rfl) (e_callO (q := true) (l := s1) (as := [.int (2 * ks.length + 1)]) (β1 := gEn s1 ks Lo (some (.ol false (iD (low.map fun x => x + 1)))) none none none none none none none) ⟨_, rfl⟩ (e_one (e_op (a := .int (2 * ks.length)) (b := .int 1) (e_op (a := .int 2) (b := .int ks.length) rfl (e_ap (e_one rfl) ?_) (mulD_l (by decide) (by decide))) rfl rfl)) rfl p2) rfl))) max_ev) rfl rfl rfl ix0) ?_
  · show Res.ok (D.int ((ks.map D.str).length : Nat)) = _
    rw [List.length_map]
  refine r_frz (β := gEn s2 ks Lo (some (.ol false (iD high))) none none none none none none none) ?_
  show Rt _ _ (gEn s2 ks Lo Hi none none none none none none none) _
  refine r_nx (β1 := gEn s2 ks Lo Hi Sz none none none none none none) (s_set (e_ap (e_cons (e_ap (e_one rfl) (sum_iD low)) (e_one (e_ap (e_one rfl) (sum_iD high)))) rfl) rfl) ?_
  have st5 : ∃ c : Int, (¬ low.sum = high.sum → c = dueG low high) ∧ setM 5 (iteM (truthM (opM ltD (opM subF (nameM 4) (constM (.int 0))) (opM subF (nameM 4) (constM (.int 1))))) (unM negD (constM (.int 1))) (constM (.int 1))) (gEn s2 ks Lo Hi Sz none none none none none none) = .ok (.nx, gEn s2 ks Lo Hi Sz (some (.im (.int c))) none none none none none) := by
    have t : truthM (opM ltD (opM subF (nameM 4) (constM (.int 0))) (opM subF (nameM 4) (constM (.int 1)))) (gEn s2 ks Lo Hi Sz none none none none none none) = .ok (decide (low.sum < high.sum), gEn s2 ks Lo Hi Sz none none none none none none) := e_truth (e_op (a := .int low.sum) (b := .int high.sum) (e_op rfl rfl rfl) (e_op rfl rfl rfl) rfl)
    by_cases l : low.sum < high.sum
    · rw [decide_eq_true l] at t
      exact ⟨-1, fun z => by unfold dueG; rw [if_neg z, if_pos l], s_set (e_ite_t t rfl) rfl⟩
    · rw [decide_eq_false l] at t
      exact ⟨1, fun z => by unfold dueG; rw [if_neg z, if_neg l], s_set (e_ite_f t rfl) rfl⟩
  obtain ⟨c, hc, e5⟩ := st5
  refine r_nx e5 ?_
  have st6 : ∃ o6, ifM (truthM (opM eqPD (opM subF (nameM 4) (constM (.int 0))) (opM subF (nameM 4) (constM (.int 1))))) (seqM (setM 6 (opM ltL (frM (lcM (iterK (nameM 2)) [10] (gN 10) yesM (unM negD (nameM 10)))) (frM (lcM (iterK (nameM 3)) [10] (gN 10) yesM (unM negD (nameM 10)))))) (setM 5 (iteM (truthM (opM eqPD (nameM 2) (nameM 3))) (constM (.int 0)) (iteM (truthM (nameM 6)) (unM negD (constM (.int 1))) (constM (.int 1)))))) passM (gEn s2 ks Lo Hi Sz (some (.im (.int c))) none none none none none) = .ok (.nx, gEn s2 ks Lo Hi Sz (some (.im (.int (dueG low high)))) o6 none none none none) := by
    have t : truthM (opM eqPD (opM subF (nameM 4) (constM (.int 0))) (opM subF (nameM 4) (constM (.int 1)))) (gEn s2 ks Lo Hi Sz (some (.im (.int c))) none none none none none) = .ok (low.sum == high.sum, gEn s2 ks Lo Hi Sz (some (.im (.int c))) none none none none none) := e_truth (e_op (a := .int low.sum) (b := .int high.sum) (e_op rfl rfl rfl) (e_op rfl rfl rfl) rfl)
    by_cases l : low.sum = high.sum
    · rw [beq_iff_eq.mpr l] at t
      let M : Option B := some (.im (.bl (lexI (negs low) (negs high))))
      have ng : ∀ (a : List Int) (i : Nat) (β : En), a.length ≤ 1000 → β[i]? = some (some (.im (.lst (iD a)))) → wipeB β [10] = β → (∀ x, gN 10 x β = .ok (β.set 10 (some (.im x)))) → (∀ x : D, (β.set 10 (some (.im x)))[10]? = some (some (.im x))) → (∀ x : D, wipeB (β.set 10 (some (.im x))) [10] = β) → frM (lcM (iterK (nameM i)) [10] (gN 10) yesM (unM negD (nameM 10))) β = .ok (.lst (iD (negs a)), β) := fun a i β ha h1 h2 h3 h4 h5 => by
        unfold iD negs
        rw [List.map_map]
        exact e_fr (e_lcA (src := D.int) (f := fun x => D.int (-x)) (iter_lst (e_name h1)) (by omega) h2 fun x _ => ⟨_, h3 _, e_un (e_name (h4 _)) rfl, h5 _⟩)
      have l1 : low.length ≤ 1000 := by have : (x0 :: r0).length = ks.length := hlen; show (x0 :: r0).length ≤ _; omega
      have l2 : high.length ≤ 1000 := by omega
      refine ⟨M, s_if_t t (s_nx (β1 := gEn s2 ks Lo Hi Sz (some (.im (.int c))) M none none none none) (s_set (e_op (ng low 2 _ l1 rfl rfl (fun _ => rfl) (fun _ => rfl) (fun _ => rfl)) (ng high 3 _ l2 rfl rfl (fun _ => rfl) (fun _ => rfl) (fun _ => rfl)) lt_ints.2) rfl) ?_)⟩
      have t2 : truthM (opM eqPD (nameM 2) (nameM 3)) (gEn s2 ks Lo Hi Sz (some (.im (.int c))) M none none none none) = .ok (decide (low = high), gEn s2 ks Lo Hi Sz (some (.im (.int c))) M none none none none) := e_truth (e_op rfl rfl eq_ints.2)
      have t3 : truthM (nameM 6) (gEn s2 ks Lo Hi Sz (some (.im (.int c))) M none none none none) = .ok (lexI (negs low) (negs high), gEn s2 ks Lo Hi Sz (some (.im (.int c))) M none none none none) := e_truth rfl
      unfold dueG
      rw [if_pos l]
      by_cases e : low = high
      · rw [decide_eq_true e] at t2
        rw [if_pos e]
        exact s_set (e_ite_t t2 rfl) rfl
      · rw [decide_eq_false e] at t2
        rw [if_neg e]
        cases hq : lexI (negs low) (negs high) with
        | true => rw [hq] at t3; rw [if_pos rfl]; exact s_set (e_ite_f t2 (e_ite_t t3 rfl)) rfl
        | false => rw [hq] at t3; rw [if_neg Bool.false_ne_true]; exact s_set (e_ite_f t2 (e_ite_f t3 rfl)) rfl
    · rw [beq_eq_false_iff_ne.mpr l] at t
      exact ⟨none, by rw [← hc l]; exact s_if_f t rfl⟩
  obtain ⟨o6, e6⟩ := st6
  refine r_nx e6 ?_
  refine r_nx (β1 := gEn s2 ks Lo Hi Sz (some (.im (.int (dueG low high)))) o6 (some (.im (Lt ks low))) (some (.im (Lt ks high))) none none) (s_parN (e_daN (e_call (e_cons rfl (e_one rfl)) (law_load_ev K hlen hl0 rfl)) (e_daN (e_call (e_cons rfl (e_one rfl)) (law_load_ev K hhl hh0 rfl)) rfl)) (show (2 : Nat) ≤ 1000 by decide) rfl) ?_
  have c1 := cmp_t K hlen hhl hl0 hh0
  have c2 := cmp_t K hhl hlen hh0 hl0
  rw [cmp_anti (a := low) (b := high) (by rw [hhl]; exact hlen), cmp_due] at c2
  rw [cmp_due] at c1
  exact r_ret (e_op (a := .str x) (b := .str x) (e_ap (e_one (e_ap (e_cons (e_call (e_cons rfl (e_cons rfl (e_one rfl))) c1) (e_one (e_call (e_cons rfl (e_cons rfl (e_one rfl))) c2))) rfl)) hx) (e_ap (e_one (e_ap (e_cons rfl (e_one (e_op rfl rfl rfl))) rfl)) hx) (eqPD_same (k := 0) (py_str okx))) ⟨rfl, rfl⟩
end K03
end

section
set_option Elab.async false
set_option linter.all false
set_option maxRecDepth 100000
set_option maxHeartbeats 4000000
set_option autoImplicit false
namespace K03
open PySem Fw L2
open TL (tl numL)
theorem cmp_x1 {d a b : D} (h : isiC "Load" d = false) : f_compare [d, a, b] = .exc "NotALoad" [("value", d)] := x_runF (s_ex (x_expr (x_call (e_one rfl) (check_x h))))
theorem cmp_x2 {a : List Row} {d b : D} (h : isiC "Load" d = false) : f_compare [loadD a, d, b] = .exc "NotALoad" [("value", d)] := x_runF (s_nx (s_expr (e_call1 rfl check_ok)) (s_ex (x_expr (x_call (e_one rfl) (check_x h)))))
theorem cmp_x3 {a b : List Row} {d : D} {c : Str} {fs : List (Str × D)} (h : f_check_kinds [d] = .exc c fs) : f_compare [loadD a, loadD b, d] = .exc c fs := x_runF (s_nx (s_expr (e_call1 rfl check_ok)) (s_nx (s_expr (e_call1 rfl check_ok)) (s_ex (x_expr (x_call (e_one rfl) h)))))
theorem cmp_x4 {a b : List Row} {ks : List Str} (K : Kn ks) {c : Str} {fs : List (Str × D)} (h : f_check_only [loadD a, kD ks] = .exc c fs) : f_compare [loadD a, loadD b, kD ks] = .exc c fs := x_runF (s_nx (s_expr (e_call1 rfl check_ok)) (s_nx (s_expr (e_call1 rfl check_ok)) (s_nx (s_expr (e_call1 rfl (kinds_ok K))) (s_ex (x_expr (x_call (e_cons rfl (e_one rfl)) h))))))
theorem cmp_x5 {a b : List Row} {ks : List Str} (K : Kn ks) {c : Str} {fs : List (Str × D)} (h0 : f_check_only [loadD a, kD ks] = .ok .non) (h : f_check_only [loadD b, kD ks] = .exc c fs) : f_compare [loadD a, loadD b, kD ks] = .exc c fs := x_runF (s_nx (s_expr (e_call1 rfl check_ok)) (s_nx (s_expr (e_call1 rfl check_ok)) (s_nx (s_expr (e_call1 rfl (kinds_ok K))) (s_nx (s_expr (e_call (e_cons rfl (e_one rfl)) h0)) (s_ex (x_expr (x_call (e_cons rfl (e_one rfl)) h)))))))
/-! ### a load of other names -/
abbrev z1 : Str := "zz98765"
abbrev z2 : Str := "zz99999"
abbrev farR : List Row := [(z1, 1), (z2, 2)]
theorem far_make : f_LoadD_initD (.oi false "Load" []) [.tup (farR.map rowD)] = .ok (.non, .oi true "Load" (loadF farR)) := by kernel_rfl
theorem z_ok : ∀ n ∈ [z1, z2], OkT n := fun n hn => okT_lit (by
  have : ∀ n ∈ [z1, z2], ((tl n).all (fun c => decide (c < 1114112)) && decide ((tl n).length ≤ 1000)) = true := by decide +kernel
  exact this n hn)
theorem z_nm : ∀ n ∈ [z1, z2], nmL (tl n) = true := by decide +kernel
theorem z_ne : z1 ≠ z2 := by decide +kernel
theorem z_le : leS z1 z2 = true ∧ leS z2 z1 = false := by decide +kernel
/-- kinds that are none of these -/
structure Far (ks : List Str) : Prop where
  n1 : z1 ∉ ks
  n2 : z2 ∉ ks
abbrev wide (ks : List Str) : List Str := ascS (ks ++ [z1, z2])
section
variable {ks : List Str}
theorem wide_nms (K : Kn ks) : Nms (wide ks) := by
  refine ⟨asc_nodup _, asc_pw _, fun n hn => ?_, fun n hn => ?_, ?_⟩
  · rcases List.mem_append.mp (mem_asc.mp hn) with h | h
    · exact K.ok n h
    · exact z_ok n h
  · rcases List.mem_append.mp (mem_asc.mp hn) with h | h
    · exact K.nm n h
    · exact z_nm n h
  · have := asc_len (names := ks ++ [z1, z2])
    have := K.len
    rw [List.length_append] at *
    show (ascS (ks ++ [z1, z2])).length ≤ 40
    simp only [List.length_cons, List.length_nil] at *
    omega
theorem wide_cf {f : Str → Int} (F : Cf (ascS ks) f) : Cf (wide ks) f := ⟨F.nn, fun n h => F.sup n fun z => h (mem_asc.mpr (List.mem_append_left _ (mem_asc.mp z)))⟩
theorem wide_rows (K : Kn ks) {f : Str → Int} (F : Cf (ascS ks) f) : rowsOf (ascS ks) f = rowsOf (wide ks) f := by
  unfold rowsOf
  rw [srt_ext (on_pw (kn_nms K)) (on_nd (kn_nms K)) (on_pw (wide_nms K)) (on_nd (wide_nms K)) fun n => ?_]
  rw [on_mem, on_mem]
  exact ⟨fun ⟨a, b⟩ => ⟨mem_asc.mpr (List.mem_append_left _ (mem_asc.mp a)), b⟩, fun ⟨a, b⟩ => ⟨Classical.byContradiction fun z => b (F.sup n z), b⟩⟩
abbrev gF : Str → Int := cnt farR
theorem gF_val (n : Str) : gF n = if n = z1 then 1 else if n = z2 then 2 else 0 := by
  show cnt farR n = _
  unfold cnt cntO
  rw [List.find?_cons]
  by_cases h1 : z1 = n
  · rw [decide_eq_true h1, if_pos h1.symm]; rfl
  · rw [decide_eq_false h1, if_neg fun z => h1 z.symm]
    dsimp only
    rw [List.find?_cons]
    by_cases h2 : z2 = n
    · rw [decide_eq_true h2, if_pos h2.symm]; rfl
    · rw [decide_eq_false h2, if_neg fun z => h2 z.symm]; rfl
theorem gF_cf : Cf (wide ks) gF := by
  refine ⟨fun n => ?_, fun n h => ?_⟩
  · rw [gF_val]
    split
    · decide
    · split <;> decide
  · rw [gF_val, if_neg, if_neg]
    · rintro rfl; exact h (mem_asc.mpr (List.mem_append_right _ (by simp)))
    · rintro rfl; exact h (mem_asc.mpr (List.mem_append_right _ (by simp)))
theorem far_rows (K : Kn ks) : rowsOf (wide ks) gF = farR := by
  have e : onF (wide ks) gF = [z1, z2] := by
    refine srt_ext (on_pw (wide_nms K)) (on_nd (wide_nms K)) ?_ (by decide +kernel) fun n => ?_
    · exact List.pairwise_cons.mpr ⟨fun m hm => by rw [List.mem_singleton] at hm; rw [hm]; exact z_le.1, List.pairwise_singleton _ _⟩
    · rw [on_mem, gF_val]
      constructor
      · rintro ⟨_, h⟩
        by_cases h1 : n = z1
        · rw [h1]; simp
        · rw [if_neg h1] at h
          by_cases h2 : n = z2
          · rw [h2]; simp
          · rw [if_neg h2] at h; exact (h rfl).elim
      · intro h
        refine ⟨mem_asc.mpr (List.mem_append_right _ h), ?_⟩
        simp only [List.mem_cons, List.not_mem_nil, or_false] at h
        rcases h with rfl | rfl
        · rw [if_pos rfl]; decide
        · rw [if_neg fun z => z_ne z.symm, if_pos rfl]; decide
  unfold rowsOf
  rw [e]
  show [(z1, gF z1), (z2, gF z2)] = _
  rw [gF_val z1, gF_val z2, if_pos rfl, if_neg fun z => z_ne z.symm, if_pos rfl]
theorem far_only (R : Far ks) : f_check_only [loadD farR, kD ks] = .exc "UnknownKind" [("value", .str z1)] := only_exc (pre := []) (post := [z2]) rfl (fun _ h => nomatch h) R.n1
theorem both_only (K : Kn ks) (R : Far ks) {f : Str → Int} (F : Cf (ascS ks) f) : f_check_only [L (wide ks) fun n => f n + gF n, kD ks] = .exc "UnknownKind" [("value", .str z1)] := by
  have hz : z1 ∈ onF (wide ks) fun n => f n + gF n := by
    refine on_mem.mpr ⟨mem_asc.mpr (List.mem_append_right _ (by simp)), ?_⟩
    have := F.nn z1
    rw [gF_val, if_pos rfl]
    omega
  obtain ⟨pre, post, e⟩ := List.append_of_mem hz
  refine only_exc (pre := pre) (post := post) (by rw [rows_names]; exact e) (fun m hm => ?_) R.n1
  have nd := on_nd (f := fun n => f n + gF n) (wide_nms K)
  have pw := on_pw (f := fun n => f n + gF n) (wide_nms K)
  rw [e] at nd pw
  have hm1 : m ≠ z1 := (List.nodup_append.mp nd).2.2 m hm z1 List.mem_cons_self
  have hle : leS m z1 = true := (List.pairwise_append.mp pw).2.2 m hm z1 List.mem_cons_self
  have hw : m ∈ onF (wide ks) fun n => f n + gF n := by rw [e]; exact List.mem_append_left _ hm
  rcases List.mem_append.mp (mem_asc.mp (on_mem.mp hw).1) with h | h
  · exact h
  · simp only [List.mem_cons, List.not_mem_nil, or_false] at h
    rcases h with rfl | rfl
    · exact (hm1 rfl).elim
    · rw [z_le.2] at hle; cases hle
end
/-! ### what is no kinds -/
abbrev badsL (ks : List Str) : List D := [.non, .tup [], .lst (ks.map .str), .tup ((ks ++ ks.take 1).map .str), .tup (.str "A" :: ks.map .str), .tup (ks.map .str ++ [.int 5])]
abbrev aT : Str := "A"
theorem a_ok : OkT aT := okT_lit (by kernel_rfl)
theorem a_not : f_is_name [.str aT] = .ok (.bl false) := by
  rw [is_name_ev a_ok]
  kernel_rfl
theorem five_not : f_is_name [.int 5] = .ok (.bl false) := by kernel_rfl
/-- what a bad value tells -/
structure BadK (ks : List Str) (b sp : D) : Prop where
  chk : f_check_kinds [b] = .exc "InvalidKinds" [("index", sp)]
  eqs : eqF CS 2 sp sp = some true
  spt : ∀ o0 o2 o3 o4 : Option B, ifM (andT (truthM (isiM (isiB "tuple") (nameM 5))) (truthM (opM nePD (nameM 5) (apM tupF nilM)))) (setM 6 (iteM (truthM (opM eqPD (opM subF (nameM 5) (constM (.int 0))) (constM (.str "A")))) (constM (.int 0)) (apM lenF (consM (nameM 1) nilM)))) passM [o0, some (.im (kD ks)), o2, o3, o4, some (.im b), some (.im .non), none, none, none] = .ok (.nx, [o0, some (.im (kD ks)), o2, o3, o4, some (.im b), some (.im sp), none, none, none])
theorem at0 {d : D} {r : List D} : subF (.tup (d :: r)) (.int 0) = .ok d := by
  show ixF (.tup (d :: r)) (.int 0) = _
  unfold ixF
  dsimp only
  rw [atI_0]
theorem nePD_tnil {d : D} {ds : List D} {k : Nat} (h : PyL k (d :: ds)) (hk : k ≤ 63 := by decide) : nePD (.tup (d :: ds)) (.tup []) = .ok (.bl true) := by
  unfold nePD
  rw [(eqP_len h pyL_nil (by simp) hk).1]
  rfl
theorem bads_ev {ks : List Str} (K : Kn ks) : ∀ b ∈ badsL ks, ∃ sp, BadK ks b sp := by
  obtain ⟨k0, r, rfl⟩ : ∃ a r, ks = a :: r := by
    cases ks with
    | nil => exact (K.ne rfl).elim
    | cons a r => exact ⟨a, r, rfl⟩
  have hl := K.len
  have ok0 := K.ok k0 List.mem_cons_self
  have nA : (k0 == aT) = false := beq_eq_false_iff_ne.mpr fun e => by
    have := K.nm k0 List.mem_cons_self
    rw [e] at this
    revert this
    decide +kernel
  have spt : ∀ (ds : List D) (d : D) (sp : D) (k : Nat), PyL k (d :: ds) → k ≤ 63 → (∃ q, eqPD d (.str aT) = .ok (.bl q) ∧ sp = if q = true then .int 0 else .int ((k0 :: r).length : Nat)) → ∀ o0 o2 o3 o4 : Option B, ifM (andT (truthM (isiM (isiB "tuple") (nameM 5))) (truthM (opM nePD (nameM 5) (apM tupF nilM)))) (setM 6 (iteM (truthM (opM eqPD (opM subF (nameM 5) (constM (.int 0))) (constM (.str "A")))) (constM (.int 0)) (apM lenF (consM (nameM 1) nilM)))) passM [o0, some (.im (kD (k0 :: r))), o2, o3, o4, some (.im (.tup (d :: ds))), some (.im .non), none, none, none] = .ok (.nx, [o0, some (.im (kD (k0 :: r))), o2, o3, o4, some (.im (.tup (d :: ds))), some (.im sp), none, none, none]) := by
    intro ds d sp k hp hk ⟨q, hq, hsp⟩ o0 o2 o3 o4
    refine s_if_t (e_andT_t (e_truth (e_isi rfl (isiB_tt _))) (e_truth (e_op rfl rfl (nePD_tnil hp hk)))) ?_
    have t : truthM (opM eqPD (opM subF (nameM 5) (constM (.int 0))) (constM (.str "A"))) [o0, some (.im (kD (k0 :: r))), o2, o3, o4, some (.im (.tup (d :: ds))), some (.im .non), none, none, none] = .ok (q, [o0, some (.im (kD (k0 :: r))), o2, o3, o4, some (.im (.tup (d :: ds))), some (.im .non), none, none, none]) := e_truth (e_op (a := d) (e_op rfl rfl at0) rfl hq)
    subst hsp
    cases q with
    | true => rw [if_pos rfl]; exact s_set (e_ite_t t rfl) rfl
    | false =>
      rw [if_neg Bool.false_ne_true]
      refine s_set (e_ite_f t (e_ap (e_one rfl) ?_)) rfl
      show Res.ok (D.int (((k0 :: r).map D.str).length : Nat)) = _
      rw [List.length_map]
  intro b hb
  simp only [List.mem_cons, List.not_mem_nil, or_false] at hb
  rcases hb with rfl | rfl | rfl | rfl | rfl | rfl
  · exact ⟨.non, kinds_none rfl, eqF_py (eqP_same (k := 0) py_non), fun _ _ _ _ => s_if_f (e_andT_f (e_truth (e_isi rfl rfl))) rfl⟩
  · exact ⟨.non, kinds_nil, eqF_py (eqP_same (k := 0) py_non), fun _ _ _ _ => s_if_f (e_andT_t (e_truth (e_isi rfl (isiB_tt _))) (e_truth (e_op rfl rfl (nePD_same (k := 1) (py_tup pyL_nil))))) rfl⟩
  · exact ⟨.non, kinds_none (isiB_tl _), eqF_py (eqP_same (k := 0) py_non), fun _ _ _ _ => s_if_f (e_andT_f (e_truth (e_isi rfl (isiB_tl _)))) rfl⟩
  · have e : ((k0 :: r) ++ (k0 :: r).take 1).map D.str = (k0 :: r).map D.str ++ [.str k0] := by rw [List.map_append]; rfl
    have pl : PyL 0 (((k0 :: r) ++ (k0 :: r).take 1).map D.str) := pyL_strs fun n hn => by
      rcases List.mem_append.mp hn with h | h
      · exact K.ok n h
      · exact K.ok n (List.mem_of_mem_take h)
    refine ⟨.int ((k0 :: r).length : Nat), kinds_at pl (by decide) (by simp) ?_, eqF_py (eqP_same (k := 0) py_int), ?_⟩
    · rw [e]
      exact wrong_at K.ok K.nm K.nd (by omega) (.inr ⟨k0, ok0, K.nm k0 List.mem_cons_self, List.mem_cons_self, rfl⟩)
    · exact spt _ (.str k0) _ 0 pl (by decide) ⟨false, (eqPD_str ok0 a_ok).trans (by rw [nA]), rfl⟩
  · have pl : PyL 0 (D.str aT :: (k0 :: r).map .str) := pyL_cons (py_str a_ok) (pyL_strs K.ok)
    refine ⟨.int 0, kinds_at pl (by decide) (by simp) (wrong_at (pre := []) (fun _ h => nomatch h) (fun _ h => nomatch h) List.nodup_nil (by decide) (.inl a_not)), eqF_py (eqP_same (k := 0) py_int), ?_⟩
    exact spt _ (.str aT) _ 0 pl (by decide) ⟨true, (eqPD_str a_ok a_ok).trans (by rw [beq_self_eq_true]), rfl⟩
  · have pl : PyL 0 ((k0 :: r).map D.str ++ [.int 5]) := pyL_of fun d hd => by
      rcases List.mem_append.mp hd with h | h
      · obtain ⟨n, hn, rfl⟩ := List.mem_map.mp h
        exact py_str (K.ok n hn)
      · rw [List.mem_singleton] at h
        rw [h]
        exact py_int
    refine ⟨.int ((k0 :: r).length : Nat), kinds_at pl (by decide) (by simp) (wrong_at K.ok K.nm K.nd (by omega) (.inl five_not)), eqF_py (eqP_same (k := 0) py_int), ?_⟩
    exact spt _ (.str k0) _ 0 pl (by decide) ⟨false, (eqPD_str ok0 a_ok).trans (by rw [nA]), rfl⟩
end K03
end

section
set_option Elab.async false
set_option linter.all false
set_option maxRecDepth 100000
set_option maxHeartbeats 4000000
set_option autoImplicit false
namespace K03
open PySem Fw L2
open TL (tl numL)
def odds : List D := [.non, .int 0, .str "a", .tup [], .bl true, .dic true []]
theorem odds_ok : ∀ d ∈ odds, isiC "Load" d = false ∧ eqF CS 2 d d = some true := by
  have hA : OkT (Str.ofString "a") := okT_lit (by kernel_rfl)
  intro d hd
  unfold odds at hd
  simp only [List.mem_cons, List.not_mem_nil, or_false] at hd
  rcases hd with rfl | rfl | rfl | rfl | rfl | rfl
  · exact ⟨rfl, eqF_py (eqP_same (k := 0) py_non)⟩
  · exact ⟨rfl, eqF_py (eqP_same (k := 0) py_int)⟩
  · exact ⟨rfl, eqF_py (eqP_same (k := 0) (py_str hA))⟩
  · exact ⟨rfl, eqF_py (eqP_same (k := 1) (py_tup pyL_nil))⟩
  · exact ⟨rfl, eqF_py (eqP_same (k := 0) py_bl)⟩
  · exact ⟨rfl, eqF_dic rfl⟩
theorem err_nal (d : D) : errF l_x_law_error (resOf (.exc "NotALoad" [("value", d)])) = .ok (toldD "NotALoad" d) := by kernel_rfl
theorem err_ik (d : D) : errF l_x_law_error (resOf (.exc "InvalidKinds" [("index", d)])) = .ok (toldD "InvalidKinds" d) := by kernel_rfl
theorem err_uk (d : D) : errF l_x_law_error (resOf (.exc "UnknownKind" [("value", d)])) = .ok (toldD "UnknownKind" d) := by kernel_rfl
theorem catT_ev {x y : List D} (h0 : x ≠ []) (h : x.length + y.length ≤ 1000000) : addD (.tup x) (.tup y) = .ok (.tup (x ++ y)) := by
  cases x with
  | nil => exact (h0 rfl).elim
  | cons a x =>
    show catT (.tup (a :: x)) (.tup y) = _
    unfold catT
    dsimp only
    rw [if_pos (show (a :: x).isEmpty = false from rfl)]
    unfold sz
    rw [if_pos h]
theorem errors_ev {s : List D} (hs : Src s) {ks : List Str} (K : Kn ks) (R : Far ks) {f : Str → Int} (F : Cf (ascS ks) f) : ∃ s', f_x_law_errors_right (.ol true s) [kD ks, L (ascS ks) f] = .ok (.bl true, .ol true s') := by
  obtain ⟨i, s1, p1, hs1, i0, i1⟩ := pull_ev hs (w := 6) (by decide) (by decide)
  obtain ⟨j, s2, p2, hs2, j0, j1⟩ := pull_ev hs1 (w := 6) (by decide) (by decide)
  obtain ⟨d, hd, ed⟩ := item_ev (l := odds) i0 (show i < 6 from i1)
  obtain ⟨b, hb, eb⟩ := item_ev (l := badsL ks) j0 (show j < 6 from j1)
  obtain ⟨o1, o2⟩ := odds_ok d hd
  obtain ⟨sp, BK⟩ := bads_ev K b hb
  have hl := K.len
  have N := wide_nms K
  have FW := wide_cf F
  have ksne : (ks.map D.str) ≠ [] := fun z => K.ne (List.map_eq_nil_iff.mp z)
  have hN : OkT (Str.ofString "NotALoad") := okT_lit (by kernel_rfl)
  have hI : OkT (Str.ofString "InvalidKinds") := okT_lit (by kernel_rfl)
  have hU : OkT (Str.ofString "UnknownKind") := okT_lit (by kernel_rfl)
  have eL : L (ascS ks) f = L (wide ks) f := by unfold L; rw [wide_rows K F]
  have eF : loadD farR = L (wide ks) gF := by unfold L; rw [far_rows K]
  have only1 : f_check_only [L (ascS ks) f, kD ks] = .ok .non := only_ok fun n hn => by rw [rows_names] at hn; exact mem_asc.mp (on_mem.mp hn).1
  let Sm : Option B := some (.im (L (ascS ks) f))
  let Kk : Option B := some (.im (kD ks))
  let Od : Option B := some (.im d)
  let Sb : Option B := some (.im (.lst [.non, .tup [], .lst (ks.map .str), .tup ((ks ++ ks.take 1).map .str)]))
  let Bd : Option B := some (.im b)
  let Sp : Option B := some (.im sp)
  let Fa : Option B := some (.im (loadD farR))
  have sum_ev : ∀ β : En, β[2]? = some Sm → β[7]? = some Fa → binO "Load" f_LoadD_addD (nameM 2) (nameM 7) β = .ok (L (wide ks) fun n => f n + gF n, β) := fun β h2 h7 => by
    refine e_binO (e_name h2) (e_name h7) same_load ?_
    rw [eF, show loadD (rowsOf (ascS ks) f) = L (wide ks) f from eL]
    exact add_ev N FW gF_cf
  refine ⟨s2, r_runM ?_⟩
  show Rt _ _ [some (.ol true s), Kk, Sm, none, none, none, none, none, none, none] _
  refine r_nx (β1 := [some (.ol true s1), Kk, Sm, Od, none, none, none, none, none, none]) (s_set (e_op (a := .lst odds) rfl (e_pull rfl p1) ed) rfl) ?_
  refine r_nx (β1 := [some (.ol true s1), Kk, Sm, Od, Sb, none, none, none, none, none]) (s_set (d := .lst [.non, .tup [], .lst (ks.map .str), .tup ((ks ++ ks.take 1).map .str)]) (e_ap (e_cons rfl (e_cons rfl (e_cons (e_ap (e_one rfl) rfl) (e_one (e_op (a := kD ks) (b := .tup ((ks.map D.str).take 1)) rfl (e_sl rfl rfl (e_so rfl) ?_) ?_))))) rfl) rfl) ?_
  · show Res.ok (D.tup (cutL (ks.map .str) none (some ((1 : Nat) : Int)))) = _
    rw [cut_to_any]
  · rw [catT_ev ksne (by rw [List.length_take, List.length_map]; omega), List.map_append, List.map_take]
  refine r_nx (β1 := [some (.ol true s2), Kk, Sm, Od, Sb, Bd, none, none, none, none]) (s_set (β1 := [some (.ol true s2), Kk, Sm, Od, Sb, none, none, none, none, none]) (e_op (a := .lst (badsL ks)) (b := .int j) (e_op (a := .lst [.non, .tup [], .lst (ks.map .str), .tup ((ks ++ ks.take 1).map .str)]) (b := .lst [.tup (.str "A" :: ks.map .str), .tup (ks.map .str ++ [.int 5])]) rfl (e_ap (e_cons (e_op (a := .tup [.str "A"]) (b := kD ks) (e_ap (e_one rfl) rfl) rfl (catT_ev (fun z => nomatch z) (by rw [List.length_map]; show 1 + _ ≤ _; omega))) (e_one (e_op (a := kD ks) (b := .tup [.int 5]) rfl (e_ap (e_one rfl) rfl) (catT_ev ksne (by rw [List.length_map]; show _ + 1 ≤ _; omega))))) rfl) (catL_ev (show 4 + 2 ≤ 1000000 by decide))) (e_pull rfl p2) eb) rfl) ?_
  refine r_nx (β1 := [some (.ol true s2), Kk, Sm, Od, Sb, Bd, some (.im .non), none, none, none]) (s_set rfl rfl) ?_
  refine r_nx (BK.spt _ _ _ _) ?_
  refine r_nx (β1 := [some (.ol true s2), Kk, Sm, Od, Sb, Bd, Sp, Fa, none, none]) (s_set (e_makeS (ds := farR.map rowD) (e_cons (e_ap (e_cons rfl (e_one rfl)) rfl) (e_one (e_ap (e_cons rfl (e_one rfl)) rfl))) (show (2 : Nat) ≤ 1000000 by decide) far_make) rfl) ?_
  refine r_nx (β1 := [some (.ol true s2), Kk, Sm, Od, Sb, Bd, Sp, Fa, some (.ol false [toldD "NotALoad" d]), none]) (s_own (e_lsz (e_one (e_lam (x_call (e_cons rfl (e_cons rfl (e_one rfl))) (cmp_x1 o1)) (err_nal d))) (show (1 : Nat) ≤ 1000000 by decide)) rfl) ?_
  refine r_nx (β1 := [some (.ol true s2), Kk, Sm, Od, Sb, Bd, Sp, Fa, some (.ol false [toldD "NotALoad" d, toldD "NotALoad" d]), none]) (s_app (q := false) (l := [toldD "NotALoad" d]) ⟨_, _, rfl⟩ (e_lam (x_call (e_cons rfl (e_cons rfl (e_one rfl))) (cmp_x2 o1)) (err_nal d)) rfl rfl) ?_
  refine r_nx (β1 := [some (.ol true s2), Kk, Sm, Od, Sb, Bd, Sp, Fa, some (.ol false [toldD "NotALoad" d, toldD "NotALoad" d, toldD "InvalidKinds" sp]), none]) (s_app (q := false) (l := [toldD "NotALoad" d, toldD "NotALoad" d]) ⟨_, _, rfl⟩ (e_lam (x_call (e_cons rfl (e_cons rfl (e_one rfl))) (cmp_x3 BK.chk)) (err_ik sp)) rfl rfl) ?_
  refine r_nx (β1 := [some (.ol true s2), Kk, Sm, Od, Sb, Bd, Sp, Fa, some (.ol false [toldD "NotALoad" d, toldD "NotALoad" d, toldD "InvalidKinds" sp, toldD "NotALoad" d]), none]) (s_app (q := false) (l := [toldD "NotALoad" d, toldD "NotALoad" d, toldD "InvalidKinds" sp]) ⟨_, _, rfl⟩ (e_lam (x_call (e_cons (sum_ev _ rfl rfl) (e_cons rfl (e_one rfl))) (cmp_x2 o1)) (err_nal d)) rfl rfl) ?_
  refine r_nx (β1 := [some (.ol true s2), Kk, Sm, Od, Sb, Bd, Sp, Fa, some (.ol false [toldD "NotALoad" d, toldD "NotALoad" d, toldD "InvalidKinds" sp, toldD "NotALoad" d, toldD "UnknownKind" (.str z1)]), none]) (s_app (q := false) (l := [toldD "NotALoad" d, toldD "NotALoad" d, toldD "InvalidKinds" sp, toldD "NotALoad" d]) ⟨_, _, rfl⟩ (e_lam (x_call (e_cons (sum_ev _ rfl rfl) (e_cons rfl (e_one rfl))) (cmp_x4 K (both_only K R F))) (err_uk (.str z1))) rfl rfl) ?_
  refine r_nx (β1 := [some (.ol true s2), Kk, Sm, Od, Sb, Bd, Sp, Fa, some (.ol false [toldD "NotALoad" d, toldD "NotALoad" d, toldD "InvalidKinds" sp, toldD "NotALoad" d, toldD "UnknownKind" (.str z1), toldD "UnknownKind" (.str z1)]), none]) (s_app (q := false) (l := [toldD "NotALoad" d, toldD "NotALoad" d, toldD "InvalidKinds" sp, toldD "NotALoad" d, toldD "UnknownKind" (.str z1)]) ⟨_, _, rfl⟩ (e_lam (r := .exc "UnknownKind" [("value", .str z1)]) (x_call (f := fun ds => f_compare (perm [0, 1, 2] ds)) (as := [L (ascS ks) f, loadD farR, kD ks]) rfl (show f_compare (perm [0, 1, 2] [L (ascS ks) f, loadD farR, kD ks]) = _ from cmp_x5 K only1 (far_only R))) (err_uk (.str z1))) rfl rfl) ?_
  refine r_nx (β1 := [some (.ol true s2), Kk, Sm, Od, Sb, Bd, Sp, Fa, some (.ol false [toldD "NotALoad" d, toldD "NotALoad" d, toldD "InvalidKinds" sp, toldD "NotALoad" d, toldD "UnknownKind" (.str z1), toldD "UnknownKind" (.str z1)]), some (.im (.lst [toldD "NotALoad" d, toldD "NotALoad" d, toldD "InvalidKinds" sp, toldD "NotALoad" d]))]) (s_set rfl rfl) ?_
  refine r_frz ?_
  show Rt _ _ [some (.ol true s2), Kk, Sm, Od, Sb, Bd, Sp, Fa, some (.im (.lst [toldD "NotALoad" d, toldD "NotALoad" d, toldD "InvalidKinds" sp, toldD "NotALoad" d, toldD "UnknownKind" (.str z1), toldD "UnknownKind" (.str z1)])), some (.im (.lst [toldD "NotALoad" d, toldD "NotALoad" d, toldD "InvalidKinds" sp, toldD "NotALoad" d]))] _
  refine r_ret (e_eqX (ne := false) (xs := [toldD "NotALoad" d, toldD "NotALoad" d, toldD "InvalidKinds" sp, toldD "NotALoad" d, toldD "UnknownKind" (.str z1), toldD "UnknownKind" (.str z1)]) rfl (e_op (a := .lst [toldD "NotALoad" d, toldD "NotALoad" d, toldD "InvalidKinds" sp, toldD "NotALoad" d]) (b := .lst [toldD "UnknownKind" (.str z1), toldD "UnknownKind" (.str z1)]) rfl (e_op (a := .lst [toldD "UnknownKind" (.str z1)]) (b := .int 2) rfl rfl (repL_ev (k := 2) (by decide) (show 1 * 2 ≤ 1000 by decide))) (catL_ev (show 4 + 2 ≤ 1000000 by decide))) ?_) ⟨rfl, rfl⟩
  intro x hx
  simp only [List.mem_cons, List.not_mem_nil, or_false] at hx
  rcases hx with rfl | rfl | rfl | rfl | rfl | rfl
  · exact eqF_told hN o2
  · exact eqF_told hN o2
  · exact eqF_told hI BK.eqs
  · exact eqF_told hN o2
  · exact eqF_told hU (eqF_py (eqP_same (k := 0) (py_str (z_ok z1 (by simp)))))
  · exact eqF_told hU (eqF_py (eqP_same (k := 0) (py_str (z_ok z1 (by simp)))))
end K03
end

section
set_option Elab.async false
set_option linter.all false
set_option maxRecDepth 100000
set_option maxHeartbeats 4000000
set_option autoImplicit false
namespace K03
open PySem Fw L2
open TL (tl numL)
theorem tags_kn {m : Nat} (h1 : 1 ≤ m) (h3 : m ≤ 3) {l : List Str} (tg : Tags m l) : Kn l ∧ Far l := by
  refine ⟨⟨tg.nd, fun n hn => (tg.good n hn).ok, fun n hn => (tg.good n hn).nm, fun z => ?_, by rw [tg.len]; omega⟩, ⟨fun h => ?_, fun h => ?_⟩⟩
  · have := tg.len
    rw [z] at this
    simp at this
    omega
  · have := (tg.good _ h).le
    revert this
    decide +kernel
  · have := (tg.good _ h).le
    revert this
    decide +kernel
abbrev rEn (s : List D) (ks : List Str) (ts : List (List Int)) (o3 o4 o5 o6 o7 : Option B) : En := [some (.ol true s), some (.im (kD ks)), some (.im (.lst (ts.map (Lt ks)))), o3, o4, o5, o6, o7, none]
abbrev lsB : MM Fl := (setM 2 (opM addD (nameM 2) (frM (lcM (iterK (callM (f_x_law_sized 4) (consM (nameM 1) (consM (nameM 3) nilM)))) [8] (gN 8) yesM (callM f_x_law_load (consM (nameM 1) (consM (nameM 8) nilM)))))))
theorem ls_step {s : List D} {ks : List Str} (K : Kn ks) (h3 : ks.length ≤ 3) {ts : List (List Int)} (ht : ts.length ≤ 100) {k : Nat} (hk : k < 4) : lsB (rEn s ks ts (some (.im (.int k))) none none none none) = .ok (.nx, rEn s ks (ts ++ szL ks.length k) (some (.im (.int k))) none none none none) := by
  have gd := sz_good ks.length (by omega) k hk
  have hl := sz_len ks.length (by omega) k hk
  have key : lcM (iterK (callM (f_x_law_sized 4) (consM (nameM 1) (consM (nameM 3) nilM)))) [8] (gN 8) yesM (callM f_x_law_load (consM (nameM 1) (consM (nameM 8) nilM))) (rEn s ks ts (some (.im (.int k))) none none none none) = .ok ((szL ks.length k).map (Lt ks), rEn s ks ts (some (.im (.int k))) none none none none) :=
    e_lcA (src := fun t => D.tup (iD t)) (f := Lt ks) (l := szL ks.length k) (β1 := rEn s ks ts (some (.im (.int k))) none none none none) (iter_lst (e_call (e_cons rfl (e_one rfl)) (sized_ev K.ne h3 hk))) (by omega) rfl fun t ht => ⟨[some (.ol true s), some (.im (kD ks)), some (.im (.lst (ts.map (Lt ks)))), some (.im (.int k)), none, none, none, none, some (.im (.tup (iD t)))], rfl, e_call (e_cons rfl (e_one rfl)) (law_load_ev K (gd t ht).1 (gd t ht).2 rfl), rfl⟩
  refine s_set (d := .lst ((ts ++ szL ks.length k).map (Lt ks))) (β1 := rEn s ks ts (some (.im (.int k))) none none none none) (e_op (a := .lst (ts.map (Lt ks))) (b := .lst ((szL ks.length k).map (Lt ks))) rfl (e_fr key) ?_) rfl
  rw [catL_ev (by rw [List.length_map, List.length_map]; omega), List.map_append]
abbrev cmB : MM Fl := (seqM (setM 6 (iteM (truthM (opM eqPD (nameM 4) (nameM 5))) (constM (.int 0)) (iteM (truthM (opM ltD (nameM 4) (nameM 5))) (unM negD (constM (.int 1))) (constM (.int 1)))))
  (ifM (truthM (opM nePD (apM reprF (consM (callM f_compare (consM (opM subF (nameM 2) (nameM 4)) (consM (opM subF (nameM 2) (nameM 5)) (consM (nameM 1) nilM)))) nilM)) (apM reprF (consM (nameM 6) nilM))))
  (retM (constM (.bl false)))
  passM))
theorem repr1 : ∀ k j : Nat, ∃ x, reprF [.int (dueI k j)] = .ok (.str x) ∧ OkT x := by
  intro k j
  unfold dueI
  split
  · exact ⟨_, rfl, okT_lit (by kernel_rfl)⟩
  · split
    · exact ⟨_, rfl, okT_lit (by kernel_rfl)⟩
    · exact ⟨_, rfl, okT_lit (by kernel_rfl)⟩
section
variable {s : List D} {ks : List Str} {ts : List (List Int)}
theorem ld_at {k : Nat} (h : k < ts.length) : subF (.lst (ts.map (Lt ks))) (.int k) = .ok (Lt ks ts[k]) := by
  rw [item_at (by rw [List.length_map]; exact h), List.getElem_map]
/-- loads in a row, compared -/
structure Row3 (ks : List Str) (ts : List (List Int)) : Prop where
  cmp : ∀ (k j : Nat) (hk : k < ts.length) (hj : j < ts.length), f_compare [Lt ks ts[k], Lt ks ts[j], kD ks] = .ok (.int (dueI k j))
theorem cm_step (R : Row3 ks ts) {o3 o6 : Option B} (h6 : imO o6) {k j : Nat} (hk : k < ts.length) (hj : j < ts.length) : cmB (rEn s ks ts o3 (some (.im (.int k))) (some (.im (.int j))) o6 none) = .ok (.nx, rEn s ks ts o3 (some (.im (.int k))) (some (.im (.int j))) (some (.im (.int (dueI k j)))) none) := by
  obtain ⟨x, hx, okx⟩ := repr1 k j
  have d : iteM (truthM (opM eqPD (nameM 4) (nameM 5))) (constM (.int 0)) (iteM (truthM (opM ltD (nameM 4) (nameM 5))) (unM negD (constM (.int 1))) (constM (.int 1))) (rEn s ks ts o3 (some (.im (.int k))) (some (.im (.int j))) o6 none) = .ok (.int (dueI k j), rEn s ks ts o3 (some (.im (.int k))) (some (.im (.int j))) o6 none) := by
    have t1 : truthM (opM eqPD (nameM 4) (nameM 5)) (rEn s ks ts o3 (some (.im (.int k))) (some (.im (.int j))) o6 none) = .ok ((k : Int) == (j : Int), rEn s ks ts o3 (some (.im (.int k))) (some (.im (.int j))) o6 none) := e_truth (e_op (a := .int k) (b := .int j) rfl rfl rfl)
    have t2 : truthM (opM ltD (nameM 4) (nameM 5)) (rEn s ks ts o3 (some (.im (.int k))) (some (.im (.int j))) o6 none) = .ok (decide ((k : Int) < (j : Int)), rEn s ks ts o3 (some (.im (.int k))) (some (.im (.int j))) o6 none) := e_truth (e_op (a := .int k) (b := .int j) rfl rfl rfl)
    unfold dueI
    by_cases e : k = j
    · rw [if_pos e]
      rw [beq_iff_eq.mpr (by omega)] at t1
      exact e_ite_t t1 rfl
    · rw [if_neg e]
      rw [beq_eq_false_iff_ne.mpr (by omega)] at t1
      by_cases l : k < j
      · rw [if_pos l]
        rw [decide_eq_true (by omega)] at t2
        exact e_ite_f t1 (e_ite_t t2 rfl)
      · rw [if_neg l]
        rw [decide_eq_false (by omega)] at t2
        exact e_ite_f t1 (e_ite_f t2 rfl)
  refine s_nx (s_set d (setB_im (o := o6) rfl h6)) (s_if_f (e_truth (e_op (a := .str x) (b := .str x) (e_ap (e_one (e_call (e_cons (e_op rfl rfl (ld_at hk)) (e_cons (e_op rfl rfl (ld_at hj)) (e_one rfl))) (R.cmp k j hk hj))) hx) (e_ap (e_one rfl) hx) (nePD_same (k := 0) (py_str okx)))) rfl)
theorem cm_in (R : Row3 ks ts) {o3 : Option B} {k : Nat} (hk : k < ts.length) : ∀ (js : List Nat) (o5 o6 : Option B), imO o5 → imO o6 → (∀ j ∈ js, j < ts.length) → ∃ o5' o6', imO o5' ∧ imO o6' ∧ forM (gN 5) cmB (js.map fun i => D.int ((i : Nat) : Int)) (rEn s ks ts o3 (some (.im (.int k))) o5 o6 none) = .ok (.nx, rEn s ks ts o3 (some (.im (.int k))) o5' o6' none)
  | [], o5, o6, h5, h6, _ => ⟨o5, o6, h5, h6, rfl⟩
  | j :: js, o5, o6, h5, h6, h => by
    obtain ⟨a, b, c, d, e⟩ := cm_in R (o3 := o3) hk js (some (.im (.int j))) (some (.im (.int (dueI k j)))) imS imS fun i hi => h i (List.mem_cons_of_mem _ hi)
    exact ⟨a, b, c, d, f_cons (setB_im (o := o5) rfl h5) (cm_step R h6 hk (h j List.mem_cons_self)) e⟩
theorem len_ev {β : En} (h : β[2]? = some (some (.im (.lst (ts.map (Lt ks)))))) : apM lenF (consM (nameM 2) nilM) β = .ok (.int ts.length, β) := by
  refine e_ap (e_one (e_name h)) ?_
  show Res.ok (D.int ((ts.map (Lt ks)).length : Nat)) = _
  rw [List.length_map]
theorem cm_out (R : Row3 ks ts) (hl : ts.length ≤ 1000) {o3 : Option B} : ∀ (is : List Nat) (o4 o5 o6 : Option B), imO o4 → imO o5 → imO o6 → (∀ j ∈ is, j < ts.length) → ∃ o4' o5' o6', imO o4' ∧ imO o5' ∧ imO o6' ∧ forM (gN 4) (forSt (itM rngF1 (consM (apM lenF (consM (nameM 2) nilM)) nilM)) (gN 5) cmB) (is.map fun i => D.int ((i : Nat) : Int)) (rEn s ks ts o3 o4 o5 o6 none) = .ok (.nx, rEn s ks ts o3 o4' o5' o6' none)
  | [], o4, o5, o6, h4, h5, h6, _ => ⟨o4, o5, o6, h4, h5, h6, rfl⟩
  | k :: is, o4, o5, o6, h4, h5, h6, h => by
    obtain ⟨a, b, c, d, e⟩ := cm_in (s := s) R (o3 := o3) (h k List.mem_cons_self) (List.range ts.length) o5 o6 h5 h6 fun j hj => List.mem_range.mp hj
    obtain ⟨a2, b2, c2, d2, e2, f2, g2⟩ := cm_out R hl (o3 := o3) is (some (.im (.int k))) a b imS c d fun i hi => h i (List.mem_cons_of_mem _ hi)
    exact ⟨a2, b2, c2, d2, e2, f2, f_cons (setB_im (o := o4) rfl h4) (s_for (e_it (e_one (len_ev rfl)) (rng_ev hl)) e) g2⟩
end
theorem ll_row {ks : List Str} (K : Kn ks) (h3 : ks.length ≤ 3) : Row3 ks (LL ks.length) := by
  refine ⟨fun k j hk hj => ?_⟩
  have gd := ll_good ks.length (by omega)
  rw [cmp_t K (gd _ (List.getElem_mem hk)).1 (gd _ (List.getElem_mem hj)).1 (gd _ (List.getElem_mem hk)).2 (gd _ (List.getElem_mem hj)).2]
  have e := ll_cmp ks.length (by omega) k hk j hj
  rw [List.getElem?_eq_getElem hk, List.getElem?_eq_getElem hj] at e
  show Res.ok (D.int (cmpI (rk (LL ks.length)[k]) (rk (LL ks.length)[j]))) = _
  rw [show cmpI (rk (LL ks.length)[k]) (rk (LL ks.length)[j]) = dueI k j from e]
theorem right_ev {s : List D} (hs : Src s) : ∃ b', f_x_law_right (.ol false s) [] = .ok (.bl true, b') := by
  obtain ⟨x, s1, p1, hs1, x0, x1⟩ := pull_ev hs (w := 3) (by decide) (by decide)
  obtain ⟨m, hm⟩ : ∃ m : Nat, 1 + x = (m : Int) := ⟨(1 + x).toNat, by omega⟩
  obtain ⟨ks, s2, p2, hs2, tg⟩ := tags_ev hs1 (m := m) (by omega)
  obtain ⟨K, R⟩ := tags_kn (by omega) (by omega) tg
  have h3 : ks.length ≤ 3 := by rw [tg.len]; omega
  have h1 : 0 < ks.length := by rw [tg.len]; omega
  obtain ⟨l20, l4⟩ := ll_len ks.length (by omega)
  have l4 := l4 h1
  have row := ll_row K h3
  obtain ⟨o4, o5, o6, h4, h5, h6, e2⟩ := cm_out (s := s2) row (by omega) (o3 := some (.im (.int 3))) (List.range (LL ks.length).length) none none none (.inl rfl) (.inl rfl) (.inl rfl) fun j hj => List.mem_range.mp hj
  obtain ⟨s3, p3, hs3⟩ := great_ev hs2 K
  have gl := ll_good ks.length (by omega)
  have hlast : (LL ks.length).length - 1 < (LL ks.length).length := by omega
  let u : List Int := (LL ks.length)[(LL ks.length).length - 1]
  have gu := gl u (List.getElem_mem hlast)
  obtain ⟨s4, p4⟩ := errors_ev hs3 K R (cF_cf K.nd gu.1 gu.2)
  have lls : ([] : List (List Int)) ++ szL ks.length 0 ++ szL ks.length 1 ++ szL ks.length 2 ++ szL ks.length 3 = LL ks.length := by
    unfold LL
    rw [show List.range 4 = [0, 1, 2, 3] from rfl]
    simp only [List.flatMap_cons, List.flatMap_nil, List.append_nil, List.nil_append, List.append_assoc]
  have z : ∀ k < 4, (szL ks.length k).length ≤ 10 := sz_len ks.length (by omega)
  have ls : forM (gN 3) lsB [.int 0, .int 1, .int 2, .int 3] (rEn s2 ks [] none none none none none) = .ok (.nx, rEn s2 ks (LL ks.length) (some (.im (.int 3))) none none none none) := by
    rw [← lls]
    refine f_cons rfl (ls_step K h3 (k := 0) (by decide) (by decide)) (f_cons rfl (ls_step K h3 (k := 1) ?_ (by decide)) (f_cons rfl (ls_step K h3 (k := 2) ?_ (by decide)) (f_cons rfl (ls_step K h3 (k := 3) ?_ (by decide)) rfl)))
    · have := z 0 (by decide); simp only [List.nil_append]; omega
    · have := z 0 (by decide); have := z 1 (by decide); simp only [List.nil_append, List.length_append]; omega
    · have := z 0 (by decide); have := z 1 (by decide); have := z 2 (by decide); simp only [List.nil_append, List.length_append]; omega
  have one1 : f_compare [Lt ks (LL ks.length)[1], Lt ks (LL ks.length)[0], kD ks] = .ok (.int 1) := row.cmp 1 0 (by omega) (by omega)
  let Ni : Option B := some (.im (.tup (nine.map .str)))
  refine ⟨_, r_runM (bo := .ol true s4) ?_⟩
  show Rt _ _ [some (.ol true s), none, none, none, none, none, none, none, none] _
  refine r_nx (β1 := [some (.ol true s2), some (.im (kD ks)), none, none, none, none, none, none, none]) (s_set (e_ap (e_one (e_callO (q := true) (l := s1) (as := [.int m]) (β1 := [some (.ol true s1), none, none, none, none, none, none, none, none]) ⟨_, rfl⟩ (e_one (e_op (b := .int x) rfl (e_pull rfl p1) (by rw [← hm]; rfl))) rfl p2)) rfl) rfl) ?_
  refine r_nx (β1 := rEn s2 ks [] none none none none none) (s_set rfl rfl) ?_
  refine r_nx (β1 := rEn s2 ks (LL ks.length) (some (.im (.int 3))) none none none none) (s_for (e_it (e_one rfl) rfl) ls) ?_
  refine r_nx (β1 := rEn s2 ks (LL ks.length) (some (.im (.int 3))) o4 o5 o6 none) (s_for (e_it (e_one (len_ev rfl)) (rng_ev (by omega))) e2) ?_
  refine r_nx (β1 := rEn s2 ks (LL ks.length) (some (.im (.int 3))) o4 o5 o6 none) (s_if_f (e_truth (e_op (a := .int 1) (e_call (as := [kD ks, Lt ks (LL ks.length)[0], Lt ks (LL ks.length)[1]]) ?_ (show f_compare (perm [2, 1, 0] [kD ks, Lt ks (LL ks.length)[0], Lt ks (LL ks.length)[1]]) = _ from one1)) rfl rfl)) rfl) ?_
  · show appMM nilM (consM (nameM 1) (consM (opM subF (nameM 2) (constM (.int 0))) (consM (opM subF (nameM 2) (constM (.int 1))) nilM))) (rEn s2 ks (LL ks.length) (some (.im (.int 3))) o4 o5 o6 none) = .ok ([kD ks, Lt ks (LL ks.length)[0], Lt ks (LL ks.length)[1]], rEn s2 ks (LL ks.length) (some (.im (.int 3))) o4 o5 o6 none)
    unfold appMM
    rw [show nilM (rEn s2 ks (LL ks.length) (some (.im (.int 3))) o4 o5 o6 none) = .ok ([], rEn s2 ks (LL ks.length) (some (.im (.int 3))) o4 o5 o6 none) from rfl, Res.bind_ok]
    rw [e_cons rfl (e_cons (e_op (a := .lst ((LL ks.length).map (Lt ks))) (b := .int ((0 : Nat) : Int)) rfl rfl (ld_at (by omega))) (e_one (e_op (a := .lst ((LL ks.length).map (Lt ks))) (b := .int ((1 : Nat) : Int)) rfl rfl (ld_at (by omega))))), Res.bind_ok]
    rfl
  have nn : lcM (itM rngF1 (consM (constM (.int 9)) nilM)) [4] (gN 4) yesM (opM addD (opM addD (constM (.str "n")) (apM strF (consM (nameM 4) nilM))) (constM (.str "98765"))) (rEn s2 ks (LL ks.length) (some (.im (.int 3))) o4 o5 o6 none) = .ok ((List.range 9).map fun k => D.str (nine[k]?.getD n8), rEn s2 ks (LL ks.length) (some (.im (.int 3))) none o5 o6 none) := by
    refine e_lcA (src := fun i => D.int ((i : Nat) : Int)) (e_it (e_one rfl) (rng_ev (n := 9) (by decide))) (by decide) rfl fun k hk => ⟨rEn s2 ks (LL ks.length) (some (.im (.int 3))) (some (.im (.int k))) o5 o6 none, rfl, ?_, rfl⟩
    have q := nine_at k (List.mem_range.mp hk)
    have hk9 := List.mem_range.mp hk
    revert q
    clear hk
    match k, hk9 with
    | 0, _ => exact fun _ => by kernel_rfl
    | 1, _ => exact fun _ => by kernel_rfl
    | 2, _ => exact fun _ => by kernel_rfl
    | 3, _ => exact fun _ => by kernel_rfl
    | 4, _ => exact fun _ => by kernel_rfl
    | 5, _ => exact fun _ => by kernel_rfl
    | 6, _ => exact fun _ => by kernel_rfl
    | 7, _ => exact fun _ => by kernel_rfl
    | 8, _ => exact fun _ => by kernel_rfl
    | n + 9, h => omega
  refine r_nx (β1 := rEn s2 ks (LL ks.length) (some (.im (.int 3))) none o5 o6 Ni) (s_set (d := .tup (nine.map .str)) (e_ap (e_one (e_fr nn)) rfl) rfl) ?_
  refine r_nx (β1 := rEn s2 ks (LL ks.length) (some (.im (.int 3))) none o5 o6 Ni) (s_if_f (e_truth (e_op (a := .int 1) (e_call (e_cons (e_makeS (ds := [rowD (n8, 1)]) (e_one (e_ap (e_cons (e_op (d := .str n8) rfl rfl rfl) (e_one rfl)) rfl)) (show (1 : Nat) ≤ 1000000 by decide) make8) (e_cons (e_makeS (ds := [rowD (n7, 1)]) (e_one (e_ap (e_cons (e_op (d := .str n7) rfl rfl rfl) (e_one rfl)) rfl)) (show (1 : Nat) ≤ 1000000 by decide) make7) (e_one rfl))) nine_cmp) rfl rfl)) rfl) ?_
  refine r_ret (e_andM_t (e_callO (q := true) (l := s2) (β1 := rEn s2 ks (LL ks.length) (some (.im (.int 3))) none o5 o6 Ni) ⟨_, rfl⟩ (e_one rfl) rfl p3) (e_callO (q := true) (l := s3) (as := [kD ks, Lt ks u]) (β1 := rEn s3 ks (LL ks.length) (some (.im (.int 3))) none o5 o6 Ni) ⟨_, rfl⟩ (e_cons rfl (e_one (e_op (a := .lst ((LL ks.length).map (Lt ks))) (b := .int (-1)) rfl rfl ?_))) rfl p4)) ⟨rfl, rfl⟩
  show ixF (.lst ((LL ks.length).map (Lt ks))) (.int (-1)) = _
  unfold ixF
  dsimp only
  unfold L2.atI L2.ixN
  rw [List.length_map, if_neg (by decide), if_pos (by omega), Option.bind_some, List.getElem?_map]
  rw [show ((-1 : Int) + ((LL ks.length).length : Int)).toNat = (LL ks.length).length - 1 by omega, List.getElem?_eq_getElem hlast]
  rfl
theorem law_true (ns : List Int) : f_law [.scr ns] = .ok (.bl true) := by
  obtain ⟨k, hk, hk5⟩ : ∃ k : Nat, max2F [.int 2, .int (if (5 : Int) < ns.length then 5 else ns.length)] = .ok (.int k) ∧ k ≤ 5 := by
    refine ⟨(if (if (5 : Int) < ns.length then (5 : Int) else ns.length) > 2 then (if (5 : Int) < ns.length then (5 : Int) else ns.length) else 2).toNat, ?_, ?_⟩
    · show Res.ok (D.int (if (if (5 : Int) < ns.length then (5 : Int) else ns.length) > 2 then (if (5 : Int) < ns.length then (5 : Int) else ns.length) else 2)) = _
      congr 2
      split <;> split <;> omega
    · split <;> split <;> omega
  have e : lcM (itM rngF1 (consM (apM max2F (consM (constM (.int 2)) (consM (apM min2F (consM (apM lenF (consM (nameM 0) nilM)) (consM (constM (.int 5)) nilM))) nilM))) nilM)) [1] (gN 1) yesM (callFr f_x_law_right (callR f_x_law_source (consM (nameM 0) (consM (nameM 1) nilM)))) [some (.im (.scr ns)), none] = .ok ((List.range k).map (fun _ => D.bl true), [some (.im (.scr ns)), none]) := by
    refine e_lcA (src := fun i => D.int ((i : Nat) : Int)) (e_it (e_one (e_ap (e_cons rfl (e_one (e_ap (e_cons rfl (e_one rfl)) rfl))) hk)) (rng_ev (by omega))) (by rw [List.length_range]; omega) rfl fun t ht => ?_
    have ht' := List.mem_range.mp ht
    obtain ⟨s, es, hs⟩ := source_ev (ns := ns) (t := t) (by omega)
    obtain ⟨b', eb⟩ := right_ev hs
    exact ⟨[some (.im (.scr ns)), some (.im (.int t))], rfl, e_callFr (e_callR (e_cons rfl (e_one rfl)) es) eb, rfl⟩
  refine e_runF (s_ret (e_ap (e_one (e_fr e)) ?_))
  rw [allF_map (fun _ => true)]
  congr 2
  exact List.all_eq_true.mpr fun _ _ => rfl
end K03
end

section
set_option Elab.async false
set_option linter.all false
set_option maxRecDepth 100000
set_option maxHeartbeats 0
set_option autoImplicit false
namespace K03
open PySem L2 Evl Fw
def caN : Str → Addr := fun c => if c = "Load" then 462 else if c = "ValueFault" then 24 else if c = "StateFault" then 37 else if c = "NotALoad" then 57 else if c = "InvalidName" then 76 else if c = "InvalidText" then 95 else if c = "InvalidNumber" then 114 else if c = "UnknownKind" then 133 else if c = "InvalidPairs" then 152 else if c = "InvalidKinds" then 171 else if c = "Lacking" then 190 else 0
def faN : Str → Addr := fun c => if c = "InvalidPairs.__init__" then 149 else if c = "NotALoad.__init__" then 54 else if c = "InvalidKinds.__init__" then 168 else if c = "UnknownKind.__init__" then 130 else if c = "is_name" then 197 else if c = "is_whole" then 204 else if c = "is_tuple_of" then 211 else if c = "wrong_place" then 218 else if c = "ascending" then 223 else if c = "is_part" then 235 else if c = "counts_in" then 242 else if c = "pairs_of" then 247 else if c = "Load.__init__" then 299 else if c = "Load.of" then 306 else if c = "load_of" then 254 else if c = "with_both" then 259 else if c = "check_load" then 266 else if c = "check_only" then 273 else if c = "Load.__eq__" then 447 else if c = "Load.__add__" then 352 else if c = "check_kinds" then 473 else if c = "rank_of" then 478 else if c = "compare" then 485 else if c = "_law_source" then 492 else if c = "_law_pull" then 499 else if c = "_law_tags" then 504 else if c = "_law_error" then 511 else if c = "_law_sized" then 516 else if c = "_law_load" then 521 else if c = "_law_great_right" then 526 else if c = "_law_errors_right" then 533 else if c = "_law_right" then 538 else if c = "law" then 543 else if c = "code:_law_errors_right" then 532 else if c = "tab:_law_errors_right" then 528 else 0
theorem ca_Load : caN "Load" = 462 := by decide +kernel
theorem ca_ValueFault : caN "ValueFault" = 24 := by decide +kernel
theorem ca_StateFault : caN "StateFault" = 37 := by decide +kernel
theorem ca_NotALoad : caN "NotALoad" = 57 := by decide +kernel
theorem ca_InvalidName : caN "InvalidName" = 76 := by decide +kernel
theorem ca_InvalidText : caN "InvalidText" = 95 := by decide +kernel
theorem ca_InvalidNumber : caN "InvalidNumber" = 114 := by decide +kernel
theorem ca_UnknownKind : caN "UnknownKind" = 133 := by decide +kernel
theorem ca_InvalidPairs : caN "InvalidPairs" = 152 := by decide +kernel
theorem ca_InvalidKinds : caN "InvalidKinds" = 171 := by decide +kernel
theorem ca_Lacking : caN "Lacking" = 190 := by decide +kernel
theorem fa_InvalidPairs___init__ : faN "InvalidPairs.__init__" = 149 := by decide +kernel
theorem fa_NotALoad___init__ : faN "NotALoad.__init__" = 54 := by decide +kernel
theorem fa_InvalidKinds___init__ : faN "InvalidKinds.__init__" = 168 := by decide +kernel
theorem fa_UnknownKind___init__ : faN "UnknownKind.__init__" = 130 := by decide +kernel
theorem fa_is_name : faN "is_name" = 197 := by decide +kernel
theorem fa_is_whole : faN "is_whole" = 204 := by decide +kernel
theorem fa_is_tuple_of : faN "is_tuple_of" = 211 := by decide +kernel
theorem fa_wrong_place : faN "wrong_place" = 218 := by decide +kernel
theorem fa_ascending : faN "ascending" = 223 := by decide +kernel
theorem fa_is_part : faN "is_part" = 235 := by decide +kernel
theorem fa_counts_in : faN "counts_in" = 242 := by decide +kernel
theorem fa_pairs_of : faN "pairs_of" = 247 := by decide +kernel
theorem fa_Load___init__ : faN "Load.__init__" = 299 := by decide +kernel
theorem fa_Load_of : faN "Load.of" = 306 := by decide +kernel
theorem fa_load_of : faN "load_of" = 254 := by decide +kernel
theorem fa_with_both : faN "with_both" = 259 := by decide +kernel
theorem fa_check_load : faN "check_load" = 266 := by decide +kernel
theorem fa_check_only : faN "check_only" = 273 := by decide +kernel
theorem fa_Load___eq__ : faN "Load.__eq__" = 447 := by decide +kernel
theorem fa_Load___add__ : faN "Load.__add__" = 352 := by decide +kernel
theorem fa_check_kinds : faN "check_kinds" = 473 := by decide +kernel
theorem fa_rank_of : faN "rank_of" = 478 := by decide +kernel
theorem fa_compare : faN "compare" = 485 := by decide +kernel
theorem fa__law_source : faN "_law_source" = 492 := by decide +kernel
theorem fa__law_pull : faN "_law_pull" = 499 := by decide +kernel
theorem fa__law_tags : faN "_law_tags" = 504 := by decide +kernel
theorem fa__law_error : faN "_law_error" = 511 := by decide +kernel
theorem fa__law_sized : faN "_law_sized" = 516 := by decide +kernel
theorem fa__law_load : faN "_law_load" = 521 := by decide +kernel
theorem fa__law_great_right : faN "_law_great_right" = 526 := by decide +kernel
theorem fa__law_errors_right : faN "_law_errors_right" = 533 := by decide +kernel
theorem fa__law_right : faN "_law_right" = 538 := by decide +kernel
theorem fa_law : faN "law" = 543 := by decide +kernel
theorem fa_code__law_errors_right : faN "code:_law_errors_right" = 532 := by decide +kernel
theorem fa_tab__law_errors_right : faN "tab:_law_errors_right" = 528 := by decide +kernel
theorem al_nil {α : Type} {P : α → Prop} : ∀ x ∈ ([] : List α), P x := fun _ h => nomatch h
theorem al_cons {α : Type} {P : α → Prop} {a : α} {l : List α} (h : P a) (t : ∀ x ∈ l, P x) : ∀ x ∈ a :: l, P x := fun x hx => (List.mem_cons.mp hx).elim (fun e => e ▸ h) (t x)
theorem own_all {K : PySem.W.Frag} {ca fa : Str → Addr} {Q : Str → Addr → Prop} (h : ∀ c ∈ ownCls, Q c (ca c)) : ∀ c C, (TX K ca fa).cl c = some C → Q c C := by
  intro c C hc
  have hc' : (if c ∈ ownCls then some (ca c) else none) = some C := hc
  split at hc'
  · rename_i hm
    cases hc'
    exact h c hm
  · cases hc'
theorem xc_all {K : PySem.W.Frag} {ca fa : Str → Addr} {Q : Str → Addr → Prop} (h : ∀ c ∈ excCls, Q c (ca c)) : ∀ c C, (TX K ca fa).xc c = some C → Q c C := by
  intro c C hc
  have hc' : (if c ∈ excCls then some (ca c) else none) = some C := hc
  split at hc'
  · rename_i hm
    cases hc'
    exact h c hm
  · cases hc'
theorem tx_f_InvalidPairsD_initD (P : Params) : ∃ fd, Fun (hd03.heap_39 P) "__init__" "InvalidPairs.__init__" s_InvalidPairsD_initD 149 fd := ⟨_, fun_mk (by rfl) (by kernel_rfl) (by kernel_rfl)⟩
theorem tx_f_NotALoadD_initD (P : Params) : ∃ fd, Fun (hd03.heap_39 P) "__init__" "NotALoad.__init__" s_NotALoadD_initD 54 fd := ⟨_, fun_mk (by rfl) (by kernel_rfl) (by kernel_rfl)⟩
theorem tx_f_InvalidKindsD_initD (P : Params) : ∃ fd, Fun (hd03.heap_39 P) "__init__" "InvalidKinds.__init__" s_InvalidKindsD_initD 168 fd := ⟨_, fun_mk (by rfl) (by kernel_rfl) (by kernel_rfl)⟩
theorem tx_f_UnknownKindD_initD (P : Params) : ∃ fd, Fun (hd03.heap_39 P) "__init__" "UnknownKind.__init__" s_UnknownKindD_initD 130 fd := ⟨_, fun_mk (by rfl) (by kernel_rfl) (by kernel_rfl)⟩
theorem tx_f_is_name (P : Params) : ∃ fd, Fun (hd03.heap_39 P) "is_name" "is_name" s_is_name 197 fd := ⟨_, fun_mk (by rfl) (by kernel_rfl) (by kernel_rfl)⟩
theorem tx_f_is_whole (P : Params) : ∃ fd, Fun (hd03.heap_39 P) "is_whole" "is_whole" s_is_whole 204 fd := ⟨_, fun_mk (by rfl) (by kernel_rfl) (by kernel_rfl)⟩
theorem tx_f_is_tuple_of (P : Params) : ∃ fd, Fun (hd03.heap_39 P) "is_tuple_of" "is_tuple_of" s_is_tuple_of 211 fd := ⟨_, fun_mk (by rfl) (by kernel_rfl) (by kernel_rfl)⟩
theorem tx_f_wrong_place (P : Params) : ∃ fd, Fun (hd03.heap_39 P) "wrong_place" "wrong_place" s_wrong_place 218 fd := ⟨_, fun_mk (by rfl) (by kernel_rfl) (by kernel_rfl)⟩
theorem tx_f_ascending (P : Params) : ∃ fd, Fun (hd03.heap_39 P) "ascending" "ascending" s_ascending 223 fd := ⟨_, fun_mk (by rfl) (by kernel_rfl) (by kernel_rfl)⟩
theorem tx_f_is_part (P : Params) : ∃ fd, Fun (hd03.heap_39 P) "is_part" "is_part" s_is_part 235 fd := ⟨_, fun_mk (by rfl) (by kernel_rfl) (by kernel_rfl)⟩
theorem tx_ox_InvalidPairs (P : Params) : OexC (hd03.heap_39 P) 152 := ⟨⟨_, _, _, _, _, _, _, _, _, _, _, _, _, _, _, by rfl, by rfl⟩, by kernel_rfl, by kernel_rfl, by kernel_rfl, by kernel_rfl⟩
theorem tx_f_counts_in (P : Params) : ∃ fd, Fun (hd03.heap_39 P) "counts_in" "counts_in" s_counts_in 242 fd := ⟨_, fun_mk (by rfl) (by kernel_rfl) (by kernel_rfl)⟩
theorem tx_f_pairs_of (P : Params) : ∃ fd, Fun (hd03.heap_39 P) "pairs_of" "pairs_of" s_pairs_of 247 fd := ⟨_, fun_mk (by rfl) (by kernel_rfl) (by kernel_rfl)⟩
theorem tx_f_LoadD_initD (P : Params) : ∃ fd, Fun (hd03.heap_39 P) "__init__" "Load.__init__" s_LoadD_initD 299 fd := ⟨_, fun_mk (by rfl) (by kernel_rfl) (by kernel_rfl)⟩
theorem tx_mk_Load (P : Params) : Mk (hd03.heap_39 P) 462 299 := ⟨by kernel_rfl, by kernel_rfl, by kernel_rfl, by kernel_rfl⟩
theorem tx_f_Load_of (P : Params) : ∃ fd, Fun (hd03.heap_39 P) "of" "Load.of" s_Load_of 306 fd := ⟨_, fun_mk (by rfl) (by kernel_rfl) (by kernel_rfl)⟩
theorem tx_f_load_of (P : Params) : ∃ fd, Fun (hd03.heap_39 P) "load_of" "load_of" s_load_of 254 fd := ⟨_, fun_mk (by rfl) (by kernel_rfl) (by kernel_rfl)⟩
theorem tx_f_with_both (P : Params) : ∃ fd, Fun (hd03.heap_39 P) "with_both" "with_both" s_with_both 259 fd := ⟨_, fun_mk (by rfl) (by kernel_rfl) (by kernel_rfl)⟩
theorem tx_ox_NotALoad (P : Params) : OexC (hd03.heap_39 P) 57 := ⟨⟨_, _, _, _, _, _, _, _, _, _, _, _, _, _, _, by rfl, by rfl⟩, by kernel_rfl, by kernel_rfl, by kernel_rfl, by kernel_rfl⟩
theorem tx_f_check_load (P : Params) : ∃ fd, Fun (hd03.heap_39 P) "check_load" "check_load" s_check_load 266 fd := ⟨_, fun_mk (by rfl) (by kernel_rfl) (by kernel_rfl)⟩
theorem tx_ox_UnknownKind (P : Params) : OexC (hd03.heap_39 P) 133 := ⟨⟨_, _, _, _, _, _, _, _, _, _, _, _, _, _, _, by rfl, by rfl⟩, by kernel_rfl, by kernel_rfl, by kernel_rfl, by kernel_rfl⟩
theorem tx_f_check_only (P : Params) : ∃ fd, Fun (hd03.heap_39 P) "check_only" "check_only" s_check_only 273 fd := ⟨_, fun_mk (by rfl) (by kernel_rfl) (by kernel_rfl)⟩
theorem tx_f_LoadD_eqD (P : Params) : ∃ fd, Fun (hd03.heap_39 P) "__eq__" "Load.__eq__" s_LoadD_eqD 447 fd := ⟨_, fun_mk (by rfl) (by kernel_rfl) (by kernel_rfl)⟩
theorem tx_f_LoadD_addD (P : Params) : ∃ fd, Fun (hd03.heap_39 P) "__add__" "Load.__add__" s_LoadD_addD 352 fd := ⟨_, fun_mk (by rfl) (by kernel_rfl) (by kernel_rfl)⟩
theorem tx_ox_InvalidKinds (P : Params) : OexC (hd03.heap_39 P) 171 := ⟨⟨_, _, _, _, _, _, _, _, _, _, _, _, _, _, _, by rfl, by rfl⟩, by kernel_rfl, by kernel_rfl, by kernel_rfl, by kernel_rfl⟩
theorem tx_f_check_kinds (P : Params) : ∃ fd, Fun (hd03.heap_39 P) "check_kinds" "check_kinds" s_check_kinds 473 fd := ⟨_, fun_mk (by rfl) (by kernel_rfl) (by kernel_rfl)⟩
theorem tx_f_rank_of (P : Params) : ∃ fd, Fun (hd03.heap_39 P) "rank_of" "rank_of" s_rank_of 478 fd := ⟨_, fun_mk (by rfl) (by kernel_rfl) (by kernel_rfl)⟩
theorem tx_f_compare (P : Params) : ∃ fd, Fun (hd03.heap_39 P) "compare" "compare" s_compare 485 fd := ⟨_, fun_mk (by rfl) (by kernel_rfl) (by kernel_rfl)⟩
theorem tx_f_x_law_source (P : Params) : ∃ fd, Fun (hd03.heap_39 P) "_law_source" "_law_source" s_x_law_source 492 fd := ⟨_, fun_mk (by rfl) (by kernel_rfl) (by kernel_rfl)⟩
theorem tx_f_x_law_pull (P : Params) : ∃ fd, Fun (hd03.heap_39 P) "_law_pull" "_law_pull" s_x_law_pull 499 fd := ⟨_, fun_mk (by rfl) (by kernel_rfl) (by kernel_rfl)⟩
theorem tx_f_x_law_tags (P : Params) : ∃ fd, Fun (hd03.heap_39 P) "_law_tags" "_law_tags" s_x_law_tags 504 fd := ⟨_, fun_mk (by rfl) (by kernel_rfl) (by kernel_rfl)⟩
theorem tx_xok (P : Params) : ∀ c ∈ excCls, L2.ExcC (hd03.heap_39 P) (caN c) := by
  refine (al_cons ?_ (al_cons ?_ (al_cons ?_ (al_cons ?_ (al_cons ?_ (al_cons ?_ (al_cons ?_ (al_cons ?_ (al_cons ?_ (al_cons ?_ al_nil))))))))))
  all_goals (simp only [ca_Load, ca_ValueFault, ca_StateFault, ca_NotALoad, ca_InvalidName, ca_InvalidText, ca_InvalidNumber, ca_UnknownKind, ca_InvalidPairs, ca_InvalidKinds, ca_Lacking]; exact ⟨by kernel_rfl, by kernel_rfl, by kernel_rfl, by kernel_rfl, by kernel_rfl, by kernel_rfl, by kernel_rfl, by kernel_rfl⟩)
theorem tx_xna (P : Params) : ∀ c ∈ excCls, ∀ f ∈ xflds c, PySem.W.findIn (hd03.heap_39 P) (.ref (caN c)) f = some none := by
  refine (al_cons ?_ (al_cons ?_ (al_cons ?_ (al_cons ?_ (al_cons ?_ (al_cons ?_ (al_cons ?_ (al_cons ?_ (al_cons ?_ (al_cons ?_ al_nil))))))))))
  · rw [show xflds "ValueFault" = [] from by decide +kernel]
    exact al_nil
  · rw [show xflds "StateFault" = [] from by decide +kernel]
    exact al_nil
  · rw [show xflds "NotALoad" = (["value"] : List Str) from by decide +kernel, ca_NotALoad]
    refine (al_cons ?_ al_nil)
    all_goals kernel_rfl
  · rw [show xflds "InvalidName" = (["value"] : List Str) from by decide +kernel, ca_InvalidName]
    refine (al_cons ?_ al_nil)
    all_goals kernel_rfl
  · rw [show xflds "InvalidText" = (["value"] : List Str) from by decide +kernel, ca_InvalidText]
    refine (al_cons ?_ al_nil)
    all_goals kernel_rfl
  · rw [show xflds "InvalidNumber" = (["value"] : List Str) from by decide +kernel, ca_InvalidNumber]
    refine (al_cons ?_ al_nil)
    all_goals kernel_rfl
  · rw [show xflds "UnknownKind" = (["value"] : List Str) from by decide +kernel, ca_UnknownKind]
    refine (al_cons ?_ al_nil)
    all_goals kernel_rfl
  · rw [show xflds "InvalidPairs" = (["index"] : List Str) from by decide +kernel, ca_InvalidPairs]
    refine (al_cons ?_ al_nil)
    all_goals kernel_rfl
  · rw [show xflds "InvalidKinds" = (["index"] : List Str) from by decide +kernel, ca_InvalidKinds]
    refine (al_cons ?_ al_nil)
    all_goals kernel_rfl
  · rw [show xflds "Lacking" = (["name"] : List Str) from by decide +kernel, ca_Lacking]
    refine (al_cons ?_ al_nil)
    all_goals kernel_rfl
theorem tx_f_x_law_sized (P : Params) : ∃ fd, Fun (hd03.heap_39 P) "_law_sized" "_law_sized" s_x_law_sized 516 fd := ⟨_, fun_mk (by rfl) (by kernel_rfl) (by kernel_rfl)⟩
theorem tx_sm_Load_of (P : Params) : SMet (hd03.heap_39 P) 462 "of" 306 := ⟨by kernel_rfl, by kernel_rfl, ⟨308, by kernel_rfl, [.bool false], by kernel_rfl⟩, by kernel_rfl⟩
theorem tx_f_x_law_load (P : Params) : ∃ fd, Fun (hd03.heap_39 P) "_law_load" "_law_load" s_x_law_load 521 fd := ⟨_, fun_mk (by rfl) (by kernel_rfl) (by kernel_rfl)⟩
theorem tx_f_x_law_great_right (P : Params) : ∃ fd, Fun (hd03.heap_39 P) "_law_great_right" "_law_great_right" s_x_law_great_right 526 fd := ⟨_, fun_mk (by rfl) (by kernel_rfl) (by kernel_rfl)⟩
theorem tx_f_x_law_error (P : Params) : ∃ fd, Fun (hd03.heap_39 P) "_law_error" "_law_error" s_x_law_error 511 fd := ⟨_, fun_mk (by rfl) (by kernel_rfl) (by kernel_rfl)⟩
theorem tx_st (P : Params) : ∀ c ∈ ownCls, ∀ b ∈ (["NoneType", "bool", "int", "str", "tuple", "list", "dict"] : List String), PySem.W.subIn (hd03.heap_39 P) (.type b) (.ref (caN c)) = some false := by
  refine (al_cons ?_ al_nil)
  all_goals (simp only [ca_Load, ca_ValueFault, ca_StateFault, ca_NotALoad, ca_InvalidName, ca_InvalidText, ca_InvalidNumber, ca_UnknownKind, ca_InvalidPairs, ca_InvalidKinds, ca_Lacking]; refine (al_cons ?_ (al_cons ?_ (al_cons ?_ (al_cons ?_ (al_cons ?_ (al_cons ?_ (al_cons ?_ al_nil))))))))
  all_goals kernel_rfl
theorem tx_sc (P : Params) : ∀ c ∈ ownCls, ∀ c2 ∈ ownCls, c2 ≠ c → PySem.W.subIn (hd03.heap_39 P) (.ref (caN c2)) (.ref (caN c)) = some false := by
  refine (al_cons ?_ al_nil)
  all_goals refine (al_cons ?_ al_nil)
  all_goals first | exact fun h => (h rfl).elim | (intro _; simp only [ca_Load, ca_ValueFault, ca_StateFault, ca_NotALoad, ca_InvalidName, ca_InvalidText, ca_InvalidNumber, ca_UnknownKind, ca_InvalidPairs, ca_InvalidKinds, ca_Lacking]; kernel_rfl)
theorem tx_bo_Load_add (P : Params) : BinOk (TX (hd03.heap_39 P) caN faN) 462 "add" := by
  refine binOk_of (rc := none) (by kernel_rfl) (by kernel_rfl) (.inl rfl) (al_cons ?_ (al_cons ?_ (al_cons ?_ (al_cons ?_ (al_cons ?_ (al_cons ?_ (al_cons ?_ al_nil)))))))
  all_goals kernel_rfl
theorem tx_mt_Load_add (P : Params) : Meth (hd03.heap_39 P) 462 (PySem.dunder "add") 352 := ⟨by kernel_rfl, by kernel_rfl, by kernel_rfl⟩
theorem tx_mt_Load_eq (P : Params) : Meth (hd03.heap_39 P) 462 "__eq__" 447 := ⟨by kernel_rfl, by kernel_rfl, by kernel_rfl⟩
theorem tx_f_x_law_errors_right (P : Params) : ∃ fd, Fun (hd03.heap_39 P) "_law_errors_right" "_law_errors_right" s_x_law_errors_right 533 fd := ⟨_, fun_mk (by rfl) (by kernel_rfl) (by kernel_rfl)⟩
theorem tx_cd_x_law_errors_right (P : Params) : CodeIs (hd03.heap_39 P) 533 (.ref 532) := codeIs_of (x := "_law_errors_right") (P := 528) (by kernel_rfl) (by kernel_rfl)
theorem tx_f_x_law_right (P : Params) : ∃ fd, Fun (hd03.heap_39 P) "_law_right" "_law_right" s_x_law_right 538 fd := ⟨_, fun_mk (by rfl) (by kernel_rfl) (by kernel_rfl)⟩
theorem tx_f_law (P : Params) : ∃ fd, Fun (hd03.heap_39 P) "law" "law" s_law 543 fd := ⟨_, fun_mk (by rfl) (by kernel_rfl) (by kernel_rfl)⟩
theorem tx_cls (P : Params) : ∀ c ∈ ownCls, L2.Cls (hd03.heap_39 P) (caN c) ∧ PySem.W.findIn (hd03.heap_39 P) (.ref (caN c)) "__class__" = some (some (.builtin "object.__class__")) ∧ PySem.W.mroIn (hd03.heap_39 P) (caN c) (.type "object") = some true := by
  refine (al_cons ?_ al_nil)
  all_goals (simp only [ca_Load, ca_ValueFault, ca_StateFault, ca_NotALoad, ca_InvalidName, ca_InvalidText, ca_InvalidNumber, ca_UnknownKind, ca_InvalidPairs, ca_InvalidKinds, ca_Lacking]; exact ⟨⟨by kernel_rfl, by kernel_rfl, by kernel_rfl, by kernel_rfl⟩, by kernel_rfl, by kernel_rfl⟩)
theorem tx_kb (P : Params) : ∀ c ∈ ownCls, ∀ b ∈ (["str", "int", "bool", "tuple", "list", "dict"] : List String), PySem.W.kitOne (hd03.heap_39 P) (.ref (caN c)) (.type b) = some false := by
  refine (al_cons ?_ al_nil)
  all_goals (simp only [ca_Load, ca_ValueFault, ca_StateFault, ca_NotALoad, ca_InvalidName, ca_InvalidText, ca_InvalidNumber, ca_UnknownKind, ca_InvalidPairs, ca_InvalidKinds, ca_Lacking]; refine (al_cons ?_ (al_cons ?_ (al_cons ?_ (al_cons ?_ (al_cons ?_ (al_cons ?_ al_nil)))))))
  all_goals kernel_rfl
theorem tx_kt (P : Params) : ∀ c ∈ ownCls, ∀ b ∈ (["NoneType", "bool", "int", "str", "tuple", "list", "dict"] : List String), PySem.W.kitOne (hd03.heap_39 P) (.type b) (.ref (caN c)) = some false := by
  refine (al_cons ?_ al_nil)
  all_goals (simp only [ca_Load, ca_ValueFault, ca_StateFault, ca_NotALoad, ca_InvalidName, ca_InvalidText, ca_InvalidNumber, ca_UnknownKind, ca_InvalidPairs, ca_InvalidKinds, ca_Lacking]; refine (al_cons ?_ (al_cons ?_ (al_cons ?_ (al_cons ?_ (al_cons ?_ (al_cons ?_ (al_cons ?_ al_nil))))))))
  all_goals kernel_rfl
theorem tx_kc (P : Params) : ∀ c ∈ ownCls, ∀ c2 ∈ ownCls, PySem.W.kitOne (hd03.heap_39 P) (.ref (caN c)) (.ref (caN c2)) = some (decide (c = c2)) := by
  refine (al_cons ?_ al_nil)
  all_goals refine (al_cons ?_ al_nil)
  all_goals (simp only [ca_Load, ca_ValueFault, ca_StateFault, ca_NotALoad, ca_InvalidName, ca_InvalidText, ca_InvalidNumber, ca_UnknownKind, ca_InvalidPairs, ca_InvalidKinds, ca_Lacking]; kernel_rfl)
theorem tx_fld (P : Params) : ∀ c ∈ ownCls, ∀ f ∈ flds c, L2.NoAttr (hd03.heap_39 P) (caN c) f := by
  refine (al_cons ?_ al_nil)
  · rw [show flds "Load" = (["pairs", "names", "size"] : List Str) from by decide +kernel, ca_Load]
    refine (al_cons ?_ (al_cons ?_ (al_cons ?_ al_nil)))
    all_goals (unfold L2.NoAttr; kernel_rfl)
theorem txt (P : Params) {h base : Heap} {mg : Str → Option Value} (KX : ((hd03.heap_39 P)).In h) (G : h.Ns mainGlobals mg) (TB : ∀ p ∈ ([(532, 528)] : List (Addr × Addr)), LamX.TabB base mg p.1 p.2) : Txt (hd03.heap_39 P) mg base caN faN where
  f_InvalidPairsD_initD := by simp only [fa_InvalidPairs___init__]; exact tx_f_InvalidPairsD_initD P
  f_NotALoadD_initD := by simp only [fa_NotALoad___init__]; exact tx_f_NotALoadD_initD P
  f_InvalidKindsD_initD := by simp only [fa_InvalidKinds___init__]; exact tx_f_InvalidKindsD_initD P
  f_UnknownKindD_initD := by simp only [fa_UnknownKind___init__]; exact tx_f_UnknownKindD_initD P
  b_isinstance := PySem.W.mg_none_of KX G (show PySem.W.nsIn (hd03.heap_39 P) mainGlobals "isinstance" = some none by kernel_rfl)
  b_str := PySem.W.mg_none_of KX G (show PySem.W.nsIn (hd03.heap_39 P) mainGlobals "str" = some none by kernel_rfl)
  b_len := PySem.W.mg_none_of KX G (show PySem.W.nsIn (hd03.heap_39 P) mainGlobals "len" = some none by kernel_rfl)
  c_MOST_SIGNS := ⟨431, PySem.W.mg_of KX G (show PySem.W.nsIn (hd03.heap_39 P) mainGlobals "MOST_SIGNS" = some (some (.int 8 431)) by kernel_rfl)⟩
  c_FIGURES := ⟨429, PySem.W.mg_of KX G (show PySem.W.nsIn (hd03.heap_39 P) mainGlobals "FIGURES" = some (some (.str "0123456789" 429)) by kernel_rfl)⟩
  c_SMALL := ⟨427, PySem.W.mg_of KX G (show PySem.W.nsIn (hd03.heap_39 P) mainGlobals "SMALL" = some (some (.str "abcdefghijklmnopqrstuvwxyz" 427)) by kernel_rfl)⟩
  b_all := PySem.W.mg_none_of KX G (show PySem.W.nsIn (hd03.heap_39 P) mainGlobals "all" = some none by kernel_rfl)
  f_is_name := by simp only [fa_is_name]; exact tx_f_is_name P
  b_int := PySem.W.mg_none_of KX G (show PySem.W.nsIn (hd03.heap_39 P) mainGlobals "int" = some none by kernel_rfl)
  b_bool := PySem.W.mg_none_of KX G (show PySem.W.nsIn (hd03.heap_39 P) mainGlobals "bool" = some none by kernel_rfl)
  f_is_whole := by simp only [fa_is_whole]; exact tx_f_is_whole P
  b_tuple := PySem.W.mg_none_of KX G (show PySem.W.nsIn (hd03.heap_39 P) mainGlobals "tuple" = some none by kernel_rfl)
  f_is_tuple_of := by simp only [fa_is_tuple_of]; exact tx_f_is_tuple_of P
  b_enumerate := PySem.W.mg_none_of KX G (show PySem.W.nsIn (hd03.heap_39 P) mainGlobals "enumerate" = some none by kernel_rfl)
  f_wrong_place := by simp only [fa_wrong_place]; exact tx_f_wrong_place P
  b_sorted := PySem.W.mg_none_of KX G (show PySem.W.nsIn (hd03.heap_39 P) mainGlobals "sorted" = some none by kernel_rfl)
  b_set := PySem.W.mg_none_of KX G (show PySem.W.nsIn (hd03.heap_39 P) mainGlobals "set" = some none by kernel_rfl)
  f_ascending := by simp only [fa_ascending]; exact tx_f_ascending P
  g_is_tuple_of := by simp only [fa_is_tuple_of]; exact PySem.W.mg_of KX G (show PySem.W.nsIn (hd03.heap_39 P) mainGlobals "is_tuple_of" = some (some (.ref 211)) by kernel_rfl)
  g_is_name := by simp only [fa_is_name]; exact PySem.W.mg_of KX G (show PySem.W.nsIn (hd03.heap_39 P) mainGlobals "is_name" = some (some (.ref 197)) by kernel_rfl)
  g_is_whole := by simp only [fa_is_whole]; exact PySem.W.mg_of KX G (show PySem.W.nsIn (hd03.heap_39 P) mainGlobals "is_whole" = some (some (.ref 204)) by kernel_rfl)
  f_is_part := by simp only [fa_is_part]; exact tx_f_is_part P
  g_is_part := by simp only [fa_is_part]; exact PySem.W.mg_of KX G (show PySem.W.nsIn (hd03.heap_39 P) mainGlobals "is_part" = some (some (.ref 235)) by kernel_rfl)
  ox_InvalidPairs := by simp only [ca_InvalidPairs]; exact tx_ox_InvalidPairs P
  oi_InvalidPairs := by simp only [ca_InvalidPairs, fa_InvalidPairs___init__]; kernel_rfl
  ot_InvalidPairs := by simp only [fa_InvalidPairs___init__]; kernel_rfl
  on_InvalidPairs := by simp only [ca_InvalidPairs]; kernel_rfl
  gc_InvalidPairs := by simp only [ca_InvalidPairs]; exact PySem.W.mg_of KX G (show PySem.W.nsIn (hd03.heap_39 P) mainGlobals "InvalidPairs" = some (some (.ref 152)) by kernel_rfl)
  f_counts_in := by simp only [fa_counts_in]; exact tx_f_counts_in P
  g_ascending := by simp only [fa_ascending]; exact PySem.W.mg_of KX G (show PySem.W.nsIn (hd03.heap_39 P) mainGlobals "ascending" = some (some (.ref 223)) by kernel_rfl)
  f_pairs_of := by simp only [fa_pairs_of]; exact tx_f_pairs_of P
  g_counts_in := by simp only [fa_counts_in]; exact PySem.W.mg_of KX G (show PySem.W.nsIn (hd03.heap_39 P) mainGlobals "counts_in" = some (some (.ref 242)) by kernel_rfl)
  g_pairs_of := by simp only [fa_pairs_of]; exact PySem.W.mg_of KX G (show PySem.W.nsIn (hd03.heap_39 P) mainGlobals "pairs_of" = some (some (.ref 247)) by kernel_rfl)
  b_sum := PySem.W.mg_none_of KX G (show PySem.W.nsIn (hd03.heap_39 P) mainGlobals "sum" = some none by kernel_rfl)
  f_LoadD_initD := by simp only [fa_Load___init__]; exact tx_f_LoadD_initD P
  mk_Load := by simp only [ca_Load, fa_Load___init__]; exact tx_mk_Load P
  gc_Load := by simp only [ca_Load]; exact PySem.W.mg_of KX G (show PySem.W.nsIn (hd03.heap_39 P) mainGlobals "Load" = some (some (.ref 462)) by kernel_rfl)
  f_Load_of := by simp only [fa_Load_of]; exact tx_f_Load_of P
  f_load_of := by simp only [fa_load_of]; exact tx_f_load_of P
  f_with_both := by simp only [fa_with_both]; exact tx_f_with_both P
  ox_NotALoad := by simp only [ca_NotALoad]; exact tx_ox_NotALoad P
  oi_NotALoad := by simp only [ca_NotALoad, fa_NotALoad___init__]; kernel_rfl
  ot_NotALoad := by simp only [fa_NotALoad___init__]; kernel_rfl
  on_NotALoad := by simp only [ca_NotALoad]; kernel_rfl
  gc_NotALoad := by simp only [ca_NotALoad]; exact PySem.W.mg_of KX G (show PySem.W.nsIn (hd03.heap_39 P) mainGlobals "NotALoad" = some (some (.ref 57)) by kernel_rfl)
  f_check_load := by simp only [fa_check_load]; exact tx_f_check_load P
  ox_UnknownKind := by simp only [ca_UnknownKind]; exact tx_ox_UnknownKind P
  oi_UnknownKind := by simp only [ca_UnknownKind, fa_UnknownKind___init__]; kernel_rfl
  ot_UnknownKind := by simp only [fa_UnknownKind___init__]; kernel_rfl
  on_UnknownKind := by simp only [ca_UnknownKind]; kernel_rfl
  gc_UnknownKind := by simp only [ca_UnknownKind]; exact PySem.W.mg_of KX G (show PySem.W.nsIn (hd03.heap_39 P) mainGlobals "UnknownKind" = some (some (.ref 133)) by kernel_rfl)
  f_check_only := by simp only [fa_check_only]; exact tx_f_check_only P
  f_LoadD_eqD := by simp only [fa_Load___eq__]; exact tx_f_LoadD_eqD P
  g_check_load := by simp only [fa_check_load]; exact PySem.W.mg_of KX G (show PySem.W.nsIn (hd03.heap_39 P) mainGlobals "check_load" = some (some (.ref 266)) by kernel_rfl)
  g_load_of := by simp only [fa_load_of]; exact PySem.W.mg_of KX G (show PySem.W.nsIn (hd03.heap_39 P) mainGlobals "load_of" = some (some (.ref 254)) by kernel_rfl)
  g_with_both := by simp only [fa_with_both]; exact PySem.W.mg_of KX G (show PySem.W.nsIn (hd03.heap_39 P) mainGlobals "with_both" = some (some (.ref 259)) by kernel_rfl)
  b_dict := PySem.W.mg_none_of KX G (show PySem.W.nsIn (hd03.heap_39 P) mainGlobals "dict" = some none by kernel_rfl)
  f_LoadD_addD := by simp only [fa_Load___add__]; exact tx_f_LoadD_addD P
  ox_InvalidKinds := by simp only [ca_InvalidKinds]; exact tx_ox_InvalidKinds P
  oi_InvalidKinds := by simp only [ca_InvalidKinds, fa_InvalidKinds___init__]; kernel_rfl
  ot_InvalidKinds := by simp only [fa_InvalidKinds___init__]; kernel_rfl
  on_InvalidKinds := by simp only [ca_InvalidKinds]; kernel_rfl
  gc_InvalidKinds := by simp only [ca_InvalidKinds]; exact PySem.W.mg_of KX G (show PySem.W.nsIn (hd03.heap_39 P) mainGlobals "InvalidKinds" = some (some (.ref 171)) by kernel_rfl)
  g_wrong_place := by simp only [fa_wrong_place]; exact PySem.W.mg_of KX G (show PySem.W.nsIn (hd03.heap_39 P) mainGlobals "wrong_place" = some (some (.ref 218)) by kernel_rfl)
  f_check_kinds := by simp only [fa_check_kinds]; exact tx_f_check_kinds P
  f_rank_of := by simp only [fa_rank_of]; exact tx_f_rank_of P
  g_check_kinds := by simp only [fa_check_kinds]; exact PySem.W.mg_of KX G (show PySem.W.nsIn (hd03.heap_39 P) mainGlobals "check_kinds" = some (some (.ref 473)) by kernel_rfl)
  g_check_only := by simp only [fa_check_only]; exact PySem.W.mg_of KX G (show PySem.W.nsIn (hd03.heap_39 P) mainGlobals "check_only" = some (some (.ref 273)) by kernel_rfl)
  g_rank_of := by simp only [fa_rank_of]; exact PySem.W.mg_of KX G (show PySem.W.nsIn (hd03.heap_39 P) mainGlobals "rank_of" = some (some (.ref 478)) by kernel_rfl)
  f_compare := by simp only [fa_compare]; exact tx_f_compare P
  b_abs := PySem.W.mg_none_of KX G (show PySem.W.nsIn (hd03.heap_39 P) mainGlobals "abs" = some none by kernel_rfl)
  f_x_law_source := by simp only [fa__law_source]; exact tx_f_x_law_source P
  f_x_law_pull := by simp only [fa__law_pull]; exact tx_f_x_law_pull P
  g_x_law_pull := by simp only [fa__law_pull]; exact PySem.W.mg_of KX G (show PySem.W.nsIn (hd03.heap_39 P) mainGlobals "_law_pull" = some (some (.ref 499)) by kernel_rfl)
  b_range := PySem.W.mg_none_of KX G (show PySem.W.nsIn (hd03.heap_39 P) mainGlobals "range" = some none by kernel_rfl)
  b_list := PySem.W.mg_none_of KX G (show PySem.W.nsIn (hd03.heap_39 P) mainGlobals "list" = some none by kernel_rfl)
  b_any := PySem.W.mg_none_of KX G (show PySem.W.nsIn (hd03.heap_39 P) mainGlobals "any" = some none by kernel_rfl)
  b_min := PySem.W.mg_none_of KX G (show PySem.W.nsIn (hd03.heap_39 P) mainGlobals "min" = some none by kernel_rfl)
  f_x_law_tags := by simp only [fa__law_tags]; exact tx_f_x_law_tags P
  xok := ⟨xc_all (Q := fun _ C => L2.ExcC (hd03.heap_39 P) C) (tx_xok P), fun c C f h => xc_all (Q := fun c C => ∀ f ∈ xflds c, PySem.W.findIn (hd03.heap_39 P) (.ref C) f = some none) (tx_xna P) c C h f⟩
  ki_ValueFault := by refine xc_all (Q := fun c C => PySem.W.kitOne (hd03.heap_39 P) (.ref C) (.ref (caN "ValueFault")) = some (decide (c ∈ (["ValueFault", "NotALoad", "InvalidName", "InvalidText", "InvalidNumber", "UnknownKind", "InvalidPairs", "InvalidKinds"] : List Str)))) ?_; refine (al_cons ?_ (al_cons ?_ (al_cons ?_ (al_cons ?_ (al_cons ?_ (al_cons ?_ (al_cons ?_ (al_cons ?_ (al_cons ?_ (al_cons ?_ al_nil)))))))))); all_goals (simp only [ca_Load, ca_ValueFault, ca_StateFault, ca_NotALoad, ca_InvalidName, ca_InvalidText, ca_InvalidNumber, ca_UnknownKind, ca_InvalidPairs, ca_InvalidKinds, ca_Lacking]; kernel_rfl)
  gc_ValueFault := by simp only [ca_ValueFault]; exact PySem.W.mg_of KX G (show PySem.W.nsIn (hd03.heap_39 P) mainGlobals "ValueFault" = some (some (.ref 24)) by kernel_rfl)
  ki_ValueError := by refine xc_all (Q := fun c C => PySem.W.kitOne (hd03.heap_39 P) (.ref C) (.type "ValueError") = some (decide (c ∈ (["ValueFault", "NotALoad", "InvalidName", "InvalidText", "InvalidNumber", "UnknownKind", "InvalidPairs", "InvalidKinds"] : List Str)))) ?_; refine (al_cons ?_ (al_cons ?_ (al_cons ?_ (al_cons ?_ (al_cons ?_ (al_cons ?_ (al_cons ?_ (al_cons ?_ (al_cons ?_ (al_cons ?_ al_nil)))))))))); all_goals (simp only [ca_Load, ca_ValueFault, ca_StateFault, ca_NotALoad, ca_InvalidName, ca_InvalidText, ca_InvalidNumber, ca_UnknownKind, ca_InvalidPairs, ca_InvalidKinds, ca_Lacking]; kernel_rfl)
  b_ValueError := PySem.W.mg_none_of KX G (show PySem.W.nsIn (hd03.heap_39 P) mainGlobals "ValueError" = some none by kernel_rfl)
  ex_NotALoad := by refine xc_all (Q := fun c C => PySem.W.exmOne (hd03.heap_39 P) (.ref C) (.ref (caN "NotALoad")) = some (decide (c ∈ (["NotALoad"] : List Str)))) ?_; refine (al_cons ?_ (al_cons ?_ (al_cons ?_ (al_cons ?_ (al_cons ?_ (al_cons ?_ (al_cons ?_ (al_cons ?_ (al_cons ?_ (al_cons ?_ al_nil)))))))))); all_goals (simp only [ca_Load, ca_ValueFault, ca_StateFault, ca_NotALoad, ca_InvalidName, ca_InvalidText, ca_InvalidNumber, ca_UnknownKind, ca_InvalidPairs, ca_InvalidKinds, ca_Lacking]; kernel_rfl)
  ex_InvalidKinds := by refine xc_all (Q := fun c C => PySem.W.exmOne (hd03.heap_39 P) (.ref C) (.ref (caN "InvalidKinds")) = some (decide (c ∈ (["InvalidKinds"] : List Str)))) ?_; refine (al_cons ?_ (al_cons ?_ (al_cons ?_ (al_cons ?_ (al_cons ?_ (al_cons ?_ (al_cons ?_ (al_cons ?_ (al_cons ?_ (al_cons ?_ al_nil)))))))))); all_goals (simp only [ca_Load, ca_ValueFault, ca_StateFault, ca_NotALoad, ca_InvalidName, ca_InvalidText, ca_InvalidNumber, ca_UnknownKind, ca_InvalidPairs, ca_InvalidKinds, ca_Lacking]; kernel_rfl)
  ex_UnknownKind := by refine xc_all (Q := fun c C => PySem.W.exmOne (hd03.heap_39 P) (.ref C) (.ref (caN "UnknownKind")) = some (decide (c ∈ (["UnknownKind"] : List Str)))) ?_; refine (al_cons ?_ (al_cons ?_ (al_cons ?_ (al_cons ?_ (al_cons ?_ (al_cons ?_ (al_cons ?_ (al_cons ?_ (al_cons ?_ (al_cons ?_ al_nil)))))))))); all_goals (simp only [ca_Load, ca_ValueFault, ca_StateFault, ca_NotALoad, ca_InvalidName, ca_InvalidText, ca_InvalidNumber, ca_UnknownKind, ca_InvalidPairs, ca_InvalidKinds, ca_Lacking]; kernel_rfl)
  g_x_law_sized := by simp only [fa__law_sized]; exact PySem.W.mg_of KX G (show PySem.W.nsIn (hd03.heap_39 P) mainGlobals "_law_sized" = some (some (.ref 516)) by kernel_rfl)
  f_x_law_sized := by simp only [fa__law_sized]; exact tx_f_x_law_sized P
  sm_Load_of := by simp only [ca_Load, fa_Load_of]; exact tx_sm_Load_of P
  b_zip := PySem.W.mg_none_of KX G (show PySem.W.nsIn (hd03.heap_39 P) mainGlobals "zip" = some none by kernel_rfl)
  f_x_law_load := by simp only [fa__law_load]; exact tx_f_x_law_load P
  b_max := PySem.W.mg_none_of KX G (show PySem.W.nsIn (hd03.heap_39 P) mainGlobals "max" = some none by kernel_rfl)
  g_x_law_load := by simp only [fa__law_load]; exact PySem.W.mg_of KX G (show PySem.W.nsIn (hd03.heap_39 P) mainGlobals "_law_load" = some (some (.ref 521)) by kernel_rfl)
  g_compare := by simp only [fa_compare]; exact PySem.W.mg_of KX G (show PySem.W.nsIn (hd03.heap_39 P) mainGlobals "compare" = some (some (.ref 485)) by kernel_rfl)
  b_repr := PySem.W.mg_none_of KX G (show PySem.W.nsIn (hd03.heap_39 P) mainGlobals "repr" = some none by kernel_rfl)
  f_x_law_great_right := by simp only [fa__law_great_right]; exact tx_f_x_law_great_right P
  tb_x_law_errors_right := by simp only [fa_code__law_errors_right, fa_tab__law_errors_right]; exact TB (532, 528) (by decide)
  tm_x_law_errors_right := List.mem_cons_self
  tu_x_law_errors_right := by simp only [TX, List.forall_mem_cons, fa_tab__law_errors_right]; simp
  f_x_law_error := by simp only [fa__law_error]; exact tx_f_x_law_error P
  g_x_law_error := by simp only [fa__law_error]; exact PySem.W.mg_of KX G (show PySem.W.nsIn (hd03.heap_39 P) mainGlobals "_law_error" = some (some (.ref 511)) by kernel_rfl)
  sub := ⟨fun c C b h => own_all (Q := fun _ C => ∀ b ∈ (["NoneType", "bool", "int", "str", "tuple", "list", "dict"] : List String), PySem.W.subIn (hd03.heap_39 P) (.type b) (.ref C) = some false) (tx_st P) c C h b, fun c C c2 C2 h h2 => own_all (Q := fun c C => ∀ c2 C2, (TX (hd03.heap_39 P) caN faN).cl c2 = some C2 → c2 ≠ c → PySem.W.subIn (hd03.heap_39 P) (.ref C2) (.ref C) = some false) (fun c hc => own_all (Q := fun c2 C2 => c2 ≠ c → PySem.W.subIn (hd03.heap_39 P) (.ref C2) (.ref (caN c)) = some false) (tx_sc P c hc)) c C h c2 C2 h2⟩
  bo_Load_add := by simp only [ca_Load]; exact tx_bo_Load_add P
  mt_Load_add := by simp only [ca_Load, fa_Load___add__]; exact tx_mt_Load_add P
  mt_Load_eq := by simp only [ca_Load, fa_Load___eq__]; exact tx_mt_Load_eq P
  f_x_law_errors_right := by simp only [fa__law_errors_right]; exact tx_f_x_law_errors_right P
  cd_x_law_errors_right := by simp only [fa__law_errors_right, fa_code__law_errors_right]; exact tx_cd_x_law_errors_right P
  g_x_law_tags := by simp only [fa__law_tags]; exact PySem.W.mg_of KX G (show PySem.W.nsIn (hd03.heap_39 P) mainGlobals "_law_tags" = some (some (.ref 504)) by kernel_rfl)
  g_x_law_great_right := by simp only [fa__law_great_right]; exact PySem.W.mg_of KX G (show PySem.W.nsIn (hd03.heap_39 P) mainGlobals "_law_great_right" = some (some (.ref 526)) by kernel_rfl)
  g_x_law_errors_right := by simp only [fa__law_errors_right]; exact PySem.W.mg_of KX G (show PySem.W.nsIn (hd03.heap_39 P) mainGlobals "_law_errors_right" = some (some (.ref 533)) by kernel_rfl)
  f_x_law_right := by simp only [fa__law_right]; exact tx_f_x_law_right P
  g_x_law_right := by simp only [fa__law_right]; exact PySem.W.mg_of KX G (show PySem.W.nsIn (hd03.heap_39 P) mainGlobals "_law_right" = some (some (.ref 538)) by kernel_rfl)
  g_x_law_source := by simp only [fa__law_source]; exact PySem.W.mg_of KX G (show PySem.W.nsIn (hd03.heap_39 P) mainGlobals "_law_source" = some (some (.ref 492)) by kernel_rfl)
  f_law := by simp only [fa_law]; exact tx_f_law P
  cls := ⟨own_all (Q := fun _ C => L2.Cls (hd03.heap_39 P) C ∧ PySem.W.findIn (hd03.heap_39 P) (.ref C) "__class__" = some (some (.builtin "object.__class__")) ∧ PySem.W.mroIn (hd03.heap_39 P) C (.type "object") = some true) (tx_cls P), by kernel_rfl, by kernel_rfl, fun c C b h => own_all (Q := fun _ C => ∀ b ∈ (["str", "int", "bool", "tuple", "list", "dict"] : List String), PySem.W.kitOne (hd03.heap_39 P) (.ref C) (.type b) = some false) (tx_kb P) c C h b, fun c C b h => own_all (Q := fun _ C => ∀ b ∈ (["NoneType", "bool", "int", "str", "tuple", "list", "dict"] : List String), PySem.W.kitOne (hd03.heap_39 P) (.type b) (.ref C) = some false) (tx_kt P) c C h b, fun c C c2 C2 h h2 => own_all (Q := fun c C => ∀ c2 C2, (TX (hd03.heap_39 P) caN faN).cl c2 = some C2 → PySem.W.kitOne (hd03.heap_39 P) (.ref C) (.ref C2) = some (decide (c = c2))) (fun c hc => own_all (Q := fun c2 C2 => PySem.W.kitOne (hd03.heap_39 P) (.ref (caN c)) (.ref C2) = some (decide (c = c2))) (tx_kc P c hc)) c C h c2 C2 h2⟩
  fld := ⟨fun c C f h => own_all (Q := fun c C => ∀ f ∈ flds c, L2.NoAttr (hd03.heap_39 P) C f) (tx_fld P) c C h f⟩
end K03
open PySem PySem.W PyProof.Rows
set_option maxRecDepth 100000 in
set_option maxHeartbeats 0 in
theorem PySem.Challenge.cw_everyload_k03_loads_in_order_holds : PySem.Challenge.rw_everyload_k03_loads_in_order.Holds :=
  hd03 (by
    refine Fw.walk_GT (l := PySem.Challenge.rw_everyload_k03_loads_in_order) (f := K03.f_law) (n := 63) (k := 13) rfl (by decide) rfl ⟨rfl, by decide, by decide⟩ (fun w h Y => PySem.W.km_in_of Y) ?F (fun ns _ _ => K03.law_true ns)
    intro w mg fa h Y KX G hmg ht
    have e := hmg.symm.trans (PySem.W.mg_of KX G (show PySem.W.nsIn (hd03.heap_39 w.params) mainGlobals "law" = some (some (.ref 543)) by kernel_rfl))
    cases e
    refine ⟨K03.TX (hd03.heap_39 w.params) K03.caN K03.faN, [(532, 528)], rfl, ?_, ?_, ?_, ?_, ?_⟩
    · simp only [K03.TX, List.forall_mem_cons, K03.fa_tab__law_errors_right]
      simp
    · refine K03.al_cons ?_ K03.al_nil
      all_goals exact PySem.W.km_tabs_of Y _ (by decide)
    · refine K03.al_cons ?_ K03.al_nil
      all_goals kernel_rfl
    · refine K03.al_cons ?_ K03.al_nil
      all_goals exact PySem.W.codeHd_of_K KX (by kernel_rfl)
    · intro base _ Gb TB
      have o := K03.ok_law (P := PySem.Challenge.rw_everyload_k03_loads_in_order.prog) (w := w) (K03.txt w.params KX G TB)
      rw [K03.fa_law] at o
      exact o)
end
