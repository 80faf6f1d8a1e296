import PyProof.Rows.All
import Wide.All
import OpenK.AllK
import Wide.FinOn
import HandS.ForMost
import HandS.ForExc
import HandS.IsInst
import HandS.Deep
import HandS.TupAny
import HandS.TupMul
import HandS.Lambda
import HandS.ExcInit
import HandS.ExcValue
import HandS.EndTab
import HandS.Wide
import HandS.Star
import HandS.Text
import HandS.Flow
import HandS.Style
import HandS.SortInts
import HandS.Codes
import HandS.ExcOwn
import HandS.Zip
import KE.GoesEnum
import KE.GoesNew
import HandS.RaiseMore
import HandS.Conv
import HandS.Sort
import HandS.Nested
import HandS.TryMany
import HandS.ExcIs
import HandS.ExcField
import PyProof.StrLawsRepr
import PyProof.EnumMake
import HandS.SetFor
import HandS.Strs
import KE.KNestM
import HandS.Ends
import HandS.Head0
import HandS.Head1
import HandS.Head2
import HandS.HeadEnd
import HandS.HeadHook1
import HandS.HeadHook2
import HandS.HeadHook3
import HandS.HeadHook4
import PySem.Challenge.RW_steeredback_k33_whole_weights_tried
set_option Elab.async false
set_option linter.all false
set_option maxRecDepth 100000
set_option maxHeartbeats 4000000
namespace VL
open PySem PySem.Spec PyProof.Rows L2 LamX

abbrev St := L2.St
/-- data trees -/
inductive D where
  | non
  | bl (b : Bool)
  | int (i : Int)
  | str (x : Str)
  | tup (ds : List D)
  | lst (ds : List D)
  | dct (kvs : List (D × D))
  | glb (x : Str)
  | exc (x : Str) (v : D)
  | clo (i : Nat) (caps : List D)
  | own (i : Nat)
  | pot
  | scr (ns : List Int)
  | rng (lo hi : Int)
deriving Inhabited

/-- what is fixed through the law: the written part, the module's names, the pot's address, the tables of code objects -/
structure Gx where
  K : PySem.W.Frag
  mg : Str → Option Value
  pa : Option Addr
  T : List (Addr × Str)

/-- a list that never changes -/
def FzL (H : Hp) (a : Addr) (xs : List V) : Prop := ∃ o, H a = some (.frz o (.lst xs))
theorem FzL.sq {K : PySem.W.Frag} {H : Hp} {a : Addr} {xs : List V} (h : FzL H a xs) : SqL K H a xs := by
  obtain ⟨o, h⟩ := h
  exact .inl (.inr ⟨o, h⟩)

/-- the closures that are known: with what they captured; the frame's own -/
structure CO where
  co : Addr → Nat → List V → Prop
  ow : Addr → Nat → Prop
structure CO.le (a b : CO) : Prop where
  co : ∀ f i ws, a.co f i ws → b.co f i ws
  ow : ∀ f i, a.ow f i → b.ow f i
theorem CO.le.refl {a : CO} : a.le a := ⟨fun _ _ _ h => h, fun _ _ h => h⟩

/-- an error object that is held -/
def XO (C d : Addr) (a : Addr) : HO := .ext fun h => ∃ oe : Obj, h.get? a = some oe ∧ Zc (.ref C) (some d) oe ∧ ∃ vs, oe.data = .fields vs

mutual
inductive Rep (g : Gx) (co : CO) (H : Hp) : V → D → Prop
  | non : Rep g co H .non .non
  | bl (b : Bool) : Rep g co H (.bl b) (.bl b)
  | int (i : Int) : Rep g co H (.int i) (.int i)
  | str (x : Str) : Rep g co H (.str x) (.str x)
  | tup {a : Addr} {xs : List V} {ds : List D} : SqT g.K H a xs → RepL g co H xs ds → Rep g co H (.ref a) (.tup ds)
  | lst {a : Addr} {xs : List V} {ds : List D} : FzL H a xs → RepL g co H xs ds → Rep g co H (.ref a) (.lst ds)
  | glb {x : Str} {a : Addr} : g.mg x = some (.ref a) → Rep g co H (.ref a) (.glb x)
  | exc {a C d : Addr} {x : Str} {y : V} {v : D} {o : Obj} : H a = some (.frz o (XO C d a)) → g.mg x = some (.ref C) → H d = some (.xd [("value", y)]) → Rep g co H y v → Rep g co H (.ref a) (.exc x v)
  | clo {f : Addr} {i : Nat} {ws : List V} {caps : List D} : co.co f i ws → RepL g co H ws caps → Rep g co H (.ref f) (.clo i caps)
  | own {f : Addr} {i : Nat} : co.ow f i → Rep g co H (.ref f) (.own i)
  | pot {a : Addr} : g.pa = some a → Rep g co H (.ref a) .pot
  | rng {a : Addr} {lo hi : Int} : H a = some (.rng lo hi) → Rep g co H (.ref a) (.rng lo hi)
  | scr {a : Addr} {ns : List Int} : (∃ o, H a = some (.frz o (.lst (ns.map V.int)))) ∨ (∀ H', SqL g.K H' a (ns.map V.int)) → Rep g co H (.ref a) (.scr ns)
inductive RepL (g : Gx) (co : CO) (H : Hp) : List V → List D → Prop
  | nil : RepL g co H [] []
  | cons {v : V} {vs : List V} {d : D} {ds : List D} : Rep g co H v d → RepL g co H vs ds → RepL g co H (v :: vs) (d :: ds)
end

/-- everything that is tracked is as it was -/
abbrev Grow (H H' : Hp) : Prop := ∀ b o, H b = some o → H' b = some o
/-- .. but the pot and the tables -/
def Ext (g : Gx) (H H' : Hp) : Prop := ∀ b o, H b = some o → (g.pa = some b → ∀ xs, o ≠ .lst xs) → (∀ ps, o ≠ .tbl ps) → H' b = some o
/-- what never changes -/
def Hard : HO → Prop
  | .tup _ => True
  | .frz _ _ => True
  | .xd _ => True
  | .rng _ _ => True
  | .ext φ => ∃ c q, HO.ext φ = CodeO c q
  | _ => False
def Ext1 (H H' : Hp) : Prop := ∀ b o, H b = some o → Hard o → H' b = some o
theorem Ext.hard {g : Gx} {H H' : Hp} (e : Ext g H H') : Ext1 H H' := fun b o h k => e b o h (fun _ xs z => by subst z; exact k) (fun ps z => by subst z; exact k)
theorem Ext1.refl {H : Hp} : Ext1 H H := fun _ _ h _ => h
theorem Ext1.trans {H H1 H2 : Hp} (a : Ext1 H H1) (b : Ext1 H1 H2) : Ext1 H H2 := fun c o h k => b c o (a c o h k) k
theorem Grow.ext {g : Gx} {H H' : Hp} (h : Grow H H') : Ext g H H' := fun b o e _ _ => h b o e
theorem Ext.refl {g : Gx} {H : Hp} : Ext g H H := fun _ _ h _ _ => h
theorem Ext.trans {g : Gx} {H H1 H2 : Hp} (a : Ext g H H1) (b : Ext g H1 H2) : Ext g H H2 := fun c o h k n => b c o (a c o h k n) k n
theorem Grow.trans {H H1 H2 : Hp} (a : Grow H H1) (b : Grow H1 H2) : Grow H H2 := fun c o h => b c o (a c o h)
theorem Grow.upd {H : Hp} {p : Addr} {o : HO} (h : H p = none) : Grow H (upd H p o) := fun b x e => by
  rw [upd_ne (ne_of_none e h)]; exact e
theorem sqT_ext {K : PySem.W.Frag} {H H' : Hp} {a : Addr} {xs : List V} (e : Ext1 H H') (h : SqT K H a xs) : SqT K H' a xs := by
  rcases h with (h | ⟨o, h⟩) | h
  · exact .inl (.inl (e _ _ h trivial))
  · exact .inl (.inr ⟨o, e _ _ h trivial⟩)
  · exact .inr h
theorem FzL.ext {H H' : Hp} {a : Addr} {xs : List V} (e : Ext1 H H') (h : FzL H a xs) : FzL H' a xs := by
  obtain ⟨o, h⟩ := h
  exact ⟨o, e _ _ h trivial⟩
mutual
theorem Rep.ext {g : Gx} {co co' : CO} {H H' : Hp} (e : Ext1 H H') (hc : co.le co') : ∀ {v : V} {d : D}, Rep g co H v d → Rep g co' H' v d
  | _, _, .non => .non
  | _, _, .bl b => .bl b
  | _, _, .int i => .int i
  | _, _, .str x => .str x
  | _, _, .tup s r => .tup (sqT_ext e s) (RepL.ext e hc r)
  | _, _, .lst s r => .lst (s.ext e) (RepL.ext e hc r)
  | _, _, .glb h => .glb h
  | _, _, .exc h1 h2 h3 r => .exc (e _ _ h1 trivial) h2 (e _ _ h3 trivial) (Rep.ext e hc r)
  | _, _, .clo h r => .clo (hc.co _ _ _ h) (RepL.ext e hc r)
  | _, _, .own h => .own (hc.ow _ _ h)
  | _, _, .pot h => .pot h
  | _, _, .rng h => .rng (e _ _ h trivial)
  | _, _, .scr h => .scr (h.elim (fun z => .inl (FzL.ext e z)) fun z => .inr z)
theorem RepL.ext {g : Gx} {co co' : CO} {H H' : Hp} (e : Ext1 H H') (hc : co.le co') : ∀ {vs : List V} {ds : List D}, RepL g co H vs ds → RepL g co' H' vs ds
  | _, _, .nil => .nil
  | _, _, .cons r t => .cons (Rep.ext e hc r) (RepL.ext e hc t)
end
theorem RepL.length {g : Gx} {co : CO} {H : Hp} : ∀ {vs : List V} {ds : List D}, RepL g co H vs ds → vs.length = ds.length
  | _, _, .nil => rfl
  | _, _, .cons _ t => congrArg (· + 1) t.length
theorem RepL.get {g : Gx} {co : CO} {H : Hp} : ∀ {vs : List V} {ds : List D} {i : Nat} {d : D}, RepL g co H vs ds → ds[i]? = some d → ∃ v, vs[i]? = some v ∧ Rep g co H v d
  | _, _, _, _, .nil, h => by simp at h
  | _, _, 0, _, .cons r _, h => by simp at h; subst h; exact ⟨_, rfl, r⟩
  | _, _, i + 1, _, .cons _ t, h => by
    obtain ⟨v, h1, h2⟩ := RepL.get (i := i) t (by simpa using h)
    exact ⟨v, by simpa using h1, h2⟩
theorem RepL.getV {g : Gx} {co : CO} {H : Hp} : ∀ {vs : List V} {ds : List D} {i : Nat} {v : V}, RepL g co H vs ds → vs[i]? = some v → ∃ d, ds[i]? = some d ∧ Rep g co H v d
  | _, _, _, _, .nil, h => by simp at h
  | _, _, 0, _, .cons r _, h => by simp at h; subst h; exact ⟨_, rfl, r⟩
  | _, _, i + 1, _, .cons _ t, h => by
    obtain ⟨d, h1, h2⟩ := RepL.getV (i := i) t (by simpa using h)
    exact ⟨d, by simpa using h1, h2⟩
theorem RepL.append {g : Gx} {co : CO} {H : Hp} : ∀ {vs ws : List V} {ds es : List D}, RepL g co H vs ds → RepL g co H ws es → RepL g co H (vs ++ ws) (ds ++ es)
  | _, _, _, _, .nil, s => s
  | _, _, _, _, .cons r t, s => .cons r (RepL.append t s)
theorem RepL.take {g : Gx} {co : CO} {H : Hp} : ∀ {vs : List V} {ds : List D} (n : Nat), RepL g co H vs ds → RepL g co H (vs.take n) (ds.take n)
  | _, _, 0, _ => by simpa using RepL.nil
  | _, _, n + 1, .nil => .nil
  | _, _, n + 1, .cons r t => .cons r (RepL.take n t)
theorem RepL.drop {g : Gx} {co : CO} {H : Hp} : ∀ {vs : List V} {ds : List D} (n : Nat), RepL g co H vs ds → RepL g co H (vs.drop n) (ds.drop n)
  | _, _, 0, r => r
  | _, _, n + 1, .nil => .nil
  | _, _, n + 1, .cons _ t => RepL.drop n t
theorem RepL.reverse {g : Gx} {co : CO} {H : Hp} : ∀ {vs : List V} {ds : List D}, RepL g co H vs ds → RepL g co H vs.reverse ds.reverse
  | _, _, .nil => .nil
  | _, _, .cons r t => by
    rw [List.reverse_cons, List.reverse_cons]
    exact (RepL.reverse t).append (.cons r .nil)
theorem RepL.set {g : Gx} {co : CO} {H : Hp} {v : V} {d : D} (r : Rep g co H v d) : ∀ {vs : List V} {ds : List D} (i : Nat), RepL g co H vs ds → RepL g co H (vs.set i v) (ds.set i d)
  | _, _, _, .nil => .nil
  | _, _, 0, .cons _ t => .cons r t
  | _, _, i + 1, .cons q t => .cons q (RepL.set r i t)

/-! ### the state -/
abbrev P3 := Option (Int × Int × Int)
def PotR (g : Gx) (H : Hp) (p : P3) : Prop :=
  match g.pa, p with
  | some a, some (x, y, z) => H a = some (.lst [.int x, .int y, .int z])
  | none, none => True
  | _, _ => False
structure StR (g : Gx) (H : Hp) (p : P3) : Prop where
  pot : PotR g H p
  tab : Tabs g.T H
theorem StR.grow {g : Gx} {H H' : Hp} {p : P3} (s : StR g H p) (e : Grow H H') : StR g H' p := by
  refine ⟨?_, s.tab.ext e⟩
  have h := s.pot
  unfold PotR at h ⊢
  split at h <;> first | exact e _ _ h | exact h

inductive Res (α : Type) where
  | ok (a : α) (p : P3)
  | err (x : Str) (v : D) (p : P3)
  | bad
abbrev Vw := List (Option D)
abbrev ME := Vw → P3 → Res D
abbrev MB := Vw → P3 → Res Bool
abbrev MA := Vw → P3 → Res (List D)
@[inline] def Res.bind {α β : Type} (r : Res α) (f : α → P3 → Res β) : Res β :=
  match r with
  | .ok a p => f a p
  | .err x v p => .err x v p
  | .bad => .bad

/-- the judgement's fixed part: g, the closures that are known, what is wished of an error -/
structure Jc where
  g : Gx
  co : Hp → CO
  W : WX
  coE : ∀ H H', Ext1 H H' → (co H).le (co H')
abbrev Jc.R (J : Jc) (_ : St) (H : Hp) : V → D → Prop := Rep J.g (J.co H) H
abbrev Jc.RL (J : Jc) (_ : St) (H : Hp) : List V → List D → Prop := RepL J.g (J.co H) H
theorem Jc.ext (J : Jc) {σ : St} {H H' : Hp} {v : V} {d : D} (e : Ext J.g H H') (r : J.R σ H v d) : J.R σ H' v d := r.ext e.hard (J.coE H H' e.hard)
theorem Jc.ext1 (J : Jc) {σ : St} {H H' : Hp} {v : V} {d : D} (e : Ext1 H H') (r : J.R σ H v d) : J.R σ H' v d := r.ext e (J.coE H H' e)
theorem Jc.extL1 (J : Jc) {σ : St} {H H' : Hp} {v : List V} {d : List D} (e : Ext1 H H') (r : J.RL σ H v d) : J.RL σ H' v d := r.ext e (J.coE H H' e)
theorem Jc.extL (J : Jc) {σ : St} {H H' : Hp} {v : List V} {d : List D} (e : Ext J.g H H') (r : J.RL σ H v d) : J.RL σ H' v d := r.ext e.hard (J.coE H H' e.hard)
structure VRep (J : Jc) (σ : St) (H : Hp) (vw : Vw) : Prop where
  len : vw.length ≤ σ.length
  at_ : ∀ (i : Nat) (d : D), vw[i]? = some (some d) → ∃ v, σ[i]? = some (some v) ∧ J.R σ H v d
theorem VRep.ext {J : Jc} {σ : St} {H H' : Hp} {vw : Vw} (e : Ext J.g H H') (h : VRep J σ H vw) : VRep J σ H' vw := ⟨h.len, fun i d q =>
  let ⟨v, h1, h2⟩ := h.at_ i d q
  ⟨v, h1, J.ext e h2⟩⟩
def ErrP (J : Jc) (σ : St) (H : Hp) (x : Str) (dv : D) (p : P3) : Prop :=
  ∀ (H' : Hp) (C dd : Addr) (y : V), Ext J.g H H' → StR J.g H' p → J.g.mg x = some (.ref C) → H' dd = some (.xd [("value", y)]) → J.R σ H' y dv → J.W (.ref C) (some dd) σ H'
theorem ErrP.ext {J : Jc} {σ : St} {H H1 : Hp} {x : Str} {dv : D} {p : P3} (h : ErrP J σ H x dv p) (e : Ext J.g H H1) : ErrP J σ H1 x dv p := fun H' C dd y e' => h H' C dd y (e.trans e')
def PV (J : Jc) (σ : St) (H : Hp) (Q : VK) : Res D → Prop
  | .ok d p => ∀ (H' : Hp) (v : V), Ext J.g H H' → StR J.g H' p → J.R σ H' v d → Q v H'
  | .err x dv p => ErrP J σ H x dv p
  | .bad => False
def PB (J : Jc) (σ : St) (H : Hp) (Q : Bool → Hp → Prop) : Res Bool → Prop
  | .ok b p => ∀ (H' : Hp), Ext J.g H H' → StR J.g H' p → Q b H'
  | .err x dv p => ErrP J σ H x dv p
  | .bad => False
def PL (J : Jc) (σ : St) (H : Hp) (Q : List V → Hp → Prop) : Res (List D) → Prop
  | .ok ds p => ∀ (H' : Hp) (vs : List V), Ext J.g H H' → StR J.g H' p → J.RL σ H' vs ds → Q vs H'
  | .err x dv p => ErrP J σ H x dv p
  | .bad => False
/-- a new list (unfrozen) -/
def PN (J : Jc) (σ : St) (H : Hp) (Q : VK) : Res (List D) → Prop
  | .ok ds p => ∀ (H' : Hp) (a : Addr) (xs : List V), Ext J.g H H' → StR J.g H' p → H' a = none → J.RL σ H' xs ds → Q (.ref a) (upd H' a (.lst xs))
  | .err x dv p => ErrP J σ H x dv p
  | .bad => False
def tV (J : Jc) (m : ME) : TE := fun σ H Q => ∃ vw p, VRep J σ H vw ∧ StR J.g H p ∧ PV J σ H Q (m vw p)
def tB (J : Jc) (m : MB) : TT := fun σ H Q => ∃ vw p, VRep J σ H vw ∧ StR J.g H p ∧ PB J σ H Q (m vw p)
def tA (J : Jc) (m : MA) : TA := fun σ H Q => ∃ vw p, VRep J σ H vw ∧ StR J.g H p ∧ PL J σ H Q (m vw p)
def tN (J : Jc) (m : MA) : TE := fun σ H Q => ∃ vw p, VRep J σ H vw ∧ StR J.g H p ∧ PN J σ H Q (m vw p)
/-- an expression, a test, arguments, a new list -/
abbrev VE (X : Cx) (J : Jc) (e : Expr) (m : ME) : Prop := PE X e (tV J m)
abbrev VT (X : Cx) (J : Jc) (e : Expr) (m : MB) : Prop := PT X e (tB J m)
abbrev VA (X : Cx) (J : Jc) (es : List Expr) (m : MA) : Prop := PA X es (tA J m)
abbrev VN (X : Cx) (J : Jc) (e : Expr) (m : MA) : Prop := PE X e (tN J m)
theorem pe_imp {X : Cx} {e : Expr} {t t' : TE} (h : PE X e t) (i : ∀ σ H Q, t' σ H Q → t σ H Q) : PE X e t' := ⟨fun pins s σ H Q I q => h.run pins s σ H Q I (i σ H Q q)⟩
theorem pt_imp {X : Cx} {e : Expr} {t t' : TT} (h : PT X e t) (i : ∀ σ H Q, t' σ H Q → t σ H Q) : PT X e t' := ⟨fun pins s σ H Q I q => h.run pins s σ H Q I (i σ H Q q)⟩
theorem pw_imp {X : Cx} {e : Expr} {t t' : TT} (h : PW X e t) (i : ∀ σ H Q, t' σ H Q → t σ H Q) : PW X e t' := ⟨fun wh pins s σ H Q I q => h.run wh pins s σ H Q I (i σ H Q q)⟩
theorem pa_imp {X : Cx} {e : List Expr} {t t' : TA} (h : PA X e t) (i : ∀ σ H Q, t' σ H Q → t σ H Q) : PA X e t' := ⟨fun pos pins s σ H Q I q => h.run pos pins s σ H Q I (i σ H Q q)⟩
theorem ps_imp {X : Cx} {e : Stmt} {t t' : TS} (h : PS X e t) (i : ∀ D σ H, t' D σ H → t D σ H) : PS X e t' := ⟨fun pins s σ H D I q => h.run pins s σ H D I (i D σ H q)⟩
theorem pss_imp {X : Cx} {e : List Stmt} {t t' : TS} (h : PSs X e t) (i : ∀ D σ H, t' D σ H → t D σ H) : PSs X e t' := ⟨fun pins s σ H D I q => h.run pins s σ H D I (i D σ H q)⟩

/-! ### leaves -/
section
variable {X : Cx} {J : Jc}
def mVar (i : Nat) : ME := fun vw p => match vw[i]? with
  | some (some d) => .ok d p
  | _ => .bad
def mC (d : D) : ME := fun _ p => .ok d p
theorem ve_var (i : Nat) {x : Str} {pos : Pos} (hN : X.N[i]? = some x := by rfl) (hv : Vis X.env.scope x := by first | exact Or.inl rfl | exact Or.inr (Or.inl rfl) | exact Or.inr (Or.inr rfl)) (hd : (x == ("__debug__" : Str)) = false := by decide)
    (hcd : (x == ("__classdict__" : Str)) = false := by decide) : VE X J (.Name x pos) (mVar i) := by
  refine pe_imp (pe_var hN hv hd hcd) fun σ H Q ⟨vw, p, r, s, q⟩ => ?_
  unfold mVar at q
  cases e : vw[i]? with
  | none => rw [e] at q; exact q.elim
  | some o =>
    cases o with
    | none => rw [e] at q; exact q.elim
    | some d =>
      rw [e] at q
      obtain ⟨v, h1, h2⟩ := r.at_ i d e
      exact ⟨v, h1, q H v .refl s h2⟩
theorem ve_c {e : Expr} {v : V} {d : D} (h : PE X e (tC v)) (r : ∀ co H, Rep J.g co H v d) : VE X J e (mC d) :=
  pe_imp h fun σ H Q ⟨vw, p, _, s, q⟩ => q H v .refl s (r _ _)
theorem ve_int {i : Int} {j : Nat} {pos : Pos} : VE X J (.Constant (.int i) j pos) (mC (.int i)) := ve_c pe_int fun _ _ => .int i
theorem ve_bl {b : Bool} {j : Nat} {pos : Pos} : VE X J (.Constant (.bool b) j pos) (mC (.bl b)) := ve_c pe_bl fun _ _ => .bl b
theorem ve_non {j : Nat} {pos : Pos} : VE X J (.Constant .none j pos) (mC .non) := ve_c pe_non fun _ _ => .non
theorem ve_str {x : Str} {j : Nat} {pos : Pos} : VE X J (.Constant (.str x) j pos) (mC (.str x)) := ve_c pe_str fun _ _ => .str x
/-- a module's name whose value is known -/
theorem ve_glob {x : Str} {v : V} {u : Value} {d : D} {pos : Pos} (hg : Gl X x) (hm : X.mg x = some u) (r : RelV v u) (rd : ∀ co H, Rep J.g co H v d) (hd : (x == ("__debug__" : Str)) = false := by decide) : VE X J (.Name x pos) (mC d) :=
  ve_c (pe_glob hg hm r hd) rd

/-! ### lists of expressions -/
def mNil : MA := fun _ p => .ok [] p
def mCons (m : ME) (ms : MA) : MA := fun vw p => (m vw p).bind fun d p1 => (ms vw p1).bind fun ds p2 => .ok (d :: ds) p2
theorem va_nil : VA X J [] mNil := pa_imp pa_nil fun σ H Q ⟨vw, p, _, s, q⟩ => q H [] .refl s .nil
theorem va_cons {e : Expr} {es : List Expr} {m : ME} {ms : MA} (h : VE X J e m) (hs : VA X J es ms) (hst : starEach (e :: es) X.env = (false, eval e X.env) :: starEach es X.env := by rfl) : VA X J (e :: es) (mCons m ms) := by
  refine pa_imp (pa_cons h hs hst) fun σ H Q ⟨vw, p, r, s, q⟩ => ⟨vw, p, r, s, ?_⟩
  unfold mCons at q
  cases e1 : m vw p with
  | bad => rw [e1] at q; exact q.elim
  | err x dv p1 => rw [e1] at q; exact q
  | ok d p1 =>
    rw [e1] at q
    intro H1 v x1 s1 r1
    refine ⟨vw, p1, r.ext x1, s1, ?_⟩
    cases e2 : ms vw p1 with
    | bad => simp only [Res.bind, e2] at q; exact q.elim
    | err x dv p2 => simp only [Res.bind, e2] at q; exact ErrP.ext q x1
    | ok ds p2 =>
      simp only [Res.bind, e2] at q
      intro H2 vs x2 s2 r2
      exact q H2 (v :: vs) (x1.trans x2) s2 (.cons (J.ext x2 r1) r2)

/-! ### operations on values -/
/-- what a one-place, two-place operation on trees does: it hands on a tree, or it is outside what is served -/
def Op1 (J : Jc) (f : D → Option D) (r : V → Hp → VK → Prop) : Prop := ∀ (σ : St) (H : Hp) (Q : VK) (x : V) (dx d : D), J.R σ H x dx → f dx = some d → (∀ (H' : Hp) (v : V), Grow H H' → J.R σ H' v d → Q v H') → r x H Q
def Op2 (J : Jc) (f : D → D → Option D) (r : R2) : Prop := ∀ (σ : St) (H : Hp) (Q : VK) (x y : V) (dx dy d : D), J.R σ H x dx → J.R σ H y dy → f dx dy = some d → (∀ (H' : Hp) (v : V), Grow H H' → J.R σ H' v d → Q v H') → r x y H Q
def ofO {α : Type} (o : Option α) (p : P3) : Res α := match o with
  | some a => .ok a p
  | none => .bad
def m1 (f : D → Option D) (m : ME) : ME := fun vw p => (m vw p).bind fun d p1 => ofO (f d) p1
def m2 (f : D → D → Option D) (ma mb : ME) : ME := fun vw p => (ma vw p).bind fun x p1 => (mb vw p1).bind fun y p2 => ofO (f x y) p2
theorem ve_one {e' : Expr} {r : V → Hp → VK → Prop} {f : D → Option D} {m : ME} (h : PE X e' (tUn r (tV J m))) (o : Op1 J f r) : VE X J e' (m1 f m) := by
  refine pe_imp h fun σ H Q ⟨vw, p, rr, s, q⟩ => ⟨vw, p, rr, s, ?_⟩
  unfold m1 at q
  cases e1 : m vw p with
  | bad => rw [e1] at q; exact q.elim
  | err x dv p1 => rw [e1] at q; exact q
  | ok d p1 =>
    rw [e1] at q
    intro H1 v x1 s1 r1
    cases e2 : f d with
    | none => simp only [Res.bind, e2, ofO] at q; exact q.elim
    | some z =>
      simp only [Res.bind, e2, ofO] at q
      exact o σ H1 Q v d z r1 e2 fun H2 v2 g2 r2 => q H2 v2 (x1.trans g2.ext) (s1.grow g2) r2
theorem ve_two {e' : Expr} {r : R2} {f : D → D → Option D} {ma mb : ME} (h : PE X e' (tOp r (tV J ma) (tV J mb))) (o : Op2 J f r) : VE X J e' (m2 f ma mb) := by
  refine pe_imp h fun σ H Q ⟨vw, p, rr, s, q⟩ => ⟨vw, p, rr, s, ?_⟩
  unfold m2 at q
  cases e1 : ma vw p with
  | bad => rw [e1] at q; exact q.elim
  | err x dv p1 => rw [e1] at q; exact q
  | ok d p1 =>
    rw [e1] at q
    intro H1 v x1 s1 r1
    refine ⟨vw, p1, rr.ext x1, s1, ?_⟩
    cases e2 : mb vw p1 with
    | bad => simp only [Res.bind, e2] at q; exact q.elim
    | err x dv p2 => simp only [Res.bind, e2] at q; exact ErrP.ext q x1
    | ok d2 p2 =>
      intro H2 v2 x2 s2 r2
      cases e3 : f d d2 with
      | none => simp only [Res.bind, e2, e3, ofO] at q; exact q.elim
      | some z =>
        simp only [Res.bind, e2, e3, ofO] at q
        exact o σ H2 Q v v2 d d2 z (J.ext x2 r1) r2 e3 fun H3 v3 g3 r3 => q H3 v3 ((x1.trans x2).trans g3.ext) (s2.grow g3) r3
end
end VL

namespace VL
open PySem PySem.Spec PyProof.Rows L2 LamX
section
variable {X : Cx} {pins : List (Addr × Obj)} {σ : St} {H : Hp} {s : Shared}
/-- ghost: a tracked list is from now on known to its object -/
theorem inv_freeze (I : Inv X pins σ H s) {a : Addr} {xs : List V} (h : H a = some (.lst xs)) : ∃ o, Inv X pins σ (upd H a (.frz o (.lst xs))) s := by
  have ok : ObjOk X.prog X.w H s.heap a (.lst xs) := I.hok a _ h
  obtain ⟨z, its, n, r, e⟩ := ok
  refine ⟨{ cls := .type "list", data := .seq its.toArray n }, I.ok, I.os, I.bare, ⟨I.base.keep, I.base.slot, fun b o q n' hx => ?_, I.base.there, fun b ys q => ?_, fun b o u q => ?_, fun b ps q => ?_⟩, I.loc, I.cell, ?_, fun x c q => ?_, fun p hp => ?_, fun b o q => ?_, I.len⟩
  · have w := I.base.free b o q n' hx
    rw [upd_ne (fun z => by subst z; rw [h] at w; cases w)]; exact w
  · have w := I.base.tups b ys q
    rw [upd_ne (fun z => by subst z; rw [h] at w; cases w)]; exact w
  · have w := I.base.frzs b o u q
    rw [upd_ne (fun z => by subst z; rw [h] at w; cases w)]; exact w
  · obtain ⟨m, w⟩ := I.base.tbls b ps q
    exact ⟨m, by rw [upd_ne (fun z => by subst z; rw [h] at w; cases w)]; exact w⟩
  · have w := I.free
    rw [upd_ne (fun z => by rw [z, h] at w; cases w)]; exact w
  · have w := I.freeC x c q
    rw [upd_ne (fun z => by subst z; rw [h] at w; cases w)]; exact w
  · obtain ⟨w1, w2, w3⟩ := I.pin p hp
    exact ⟨w1, by rw [upd_ne (fun z => by rw [z, h] at w2; cases w2)]; exact w2, w3⟩
  · by_cases hb : b = a
    · subst hb
      rw [upd_same] at q
      cases q
      exact ⟨e, z, its, n, r, e⟩
    · rw [upd_ne hb] at q
      refine (I.hok b o q).stay (fun _ _ _ k => k) (fun c k => ?_) (fun c ys k => ?_)
      · rw [upd_ne (fun z => by subst z; rw [h] at k; cases k)]; exact k
      · rw [upd_ne (fun z => by subst z; rw [h] at k; cases k)]; exact k
/-- ghost: back, where it is the frame's own -/
theorem inv_thaw (I : Inv X pins σ H s) {a : Addr} {xs : List V} {o : Obj} (h : H a = some (.frz o (.lst xs))) (h0 : ∀ o u, X.H_0 a ≠ some (.frz o u)) : Inv X pins σ (upd H a (.lst xs)) s := by
  have ok : ObjOk X.prog X.w H s.heap a (.frz o (.lst xs)) := I.hok a _ h
  obtain ⟨e0, z, its, n, r, e⟩ := ok
  refine ⟨I.ok, I.os, I.bare, ⟨I.base.keep, I.base.slot, fun b o q n' hx => ?_, I.base.there, fun b ys q => ?_, fun b o u q => ?_, fun b ps q => ?_⟩, I.loc, I.cell, ?_, fun x c q => ?_, fun p hp => ?_, fun b o q => ?_, I.len⟩
  · have w := I.base.free b o q n' hx
    rw [upd_ne (fun z => by subst z; rw [h] at w; cases w)]; exact w
  · have w := I.base.tups b ys q
    rw [upd_ne (fun z => by subst z; rw [h] at w; cases w)]; exact w
  · have w := I.base.frzs b o u q
    rw [upd_ne (fun z => by subst z; exact h0 _ _ q)]; exact w
  · obtain ⟨m, w⟩ := I.base.tbls b ps q
    exact ⟨m, by rw [upd_ne (fun z => by subst z; rw [h] at w; cases w)]; exact w⟩
  · have w := I.free
    rw [upd_ne (fun z => by rw [z, h] at w; cases w)]; exact w
  · have w := I.freeC x c q
    rw [upd_ne (fun z => by subst z; rw [h] at w; cases w)]; exact w
  · obtain ⟨w1, w2, w3⟩ := I.pin p hp
    exact ⟨w1, by rw [upd_ne (fun z => by rw [z, h] at w2; cases w2)]; exact w2, w3⟩
  · by_cases hb : b = a
    · subst hb
      rw [upd_same] at q
      cases q
      exact ⟨z, its, n, r, e⟩
    · rw [upd_ne hb] at q
      refine (I.hok b o q).stay (fun _ _ _ k => k) (fun c k => ?_) (fun c ys k => ?_)
      · rw [upd_ne (fun z => by subst z; rw [h] at k; cases k)]; exact k
      · rw [upd_ne (fun z => by subst z; rw [h] at k; cases k)]; exact k
/-- a frozen list's object -/
theorem inv_fz (I : Inv X pins σ H s) {a : Addr} {xs : List V} (h : FzL H a xs) : xs.length ≤ sizeLine ∧ ∃ (its : List Value) (n : Nat), Vals xs its ∧ s.heap.get? a = some { cls := .type "list", data := .seq its.toArray n } := by
  obtain ⟨o, h⟩ := h
  have ok : ObjOk X.prog X.w H s.heap a (.frz o (.lst xs)) := I.hok a _ h
  obtain ⟨_, z, its, n, r, e⟩ := ok
  exact ⟨z, its, n, r, e⟩
end
/-- where a new list is handed on, it may be frozen ahead -/
def Fz (Q : VK) : VK := fun v H => Q v H ∨ ∃ a xs, v = .ref a ∧ H a = some (.lst xs) ∧ ∀ o, Q v (upd H a (.frz o (.lst xs)))
theorem pe_fz {X : Cx} {e : Expr} {t : TE} (h : PE X e t) : PE X e (fun σ H Q => t σ H (Fz Q)) := by
  refine ⟨fun pins s σ H Q I q => thn (h.run pins s σ H _ I q) fun u s1 ⟨v, H1, I1, r1, q1⟩ => ?_⟩
  rcases q1 with q1 | ⟨a, xs, rfl, ha, q1⟩
  · exact ⟨v, H1, I1, r1, q1⟩
  · obtain ⟨o, I2⟩ := inv_freeze I1 ha
    exact ⟨_, _, I2, r1, q1 o⟩
theorem fz_of {J : Jc} {σ : St} {H : Hp} {Q : VK} {d : D} {p : Addr} {xs : List V} {ds : List D} (hp : H p = none) (r : J.RL σ H xs ds) (q : ∀ (H' : Hp) (v : V), Grow H H' → J.R σ H' v (.lst ds) → Q v H') : Fz Q (.ref p) (upd H p (.lst xs)) := by
  refine .inr ⟨p, xs, rfl, upd_same, fun o => ?_⟩
  rw [upd_upd]
  exact q _ _ (Grow.upd hp) (.lst ⟨o, upd_same⟩ (J.extL (Grow.upd hp).ext r))
theorem tup_of {J : Jc} {σ : St} {H : Hp} {Q : VK} {p : Addr} {xs : List V} {ds : List D} (hp : H p = none) (r : J.RL σ H xs ds) (q : ∀ (H' : Hp) (v : V), Grow H H' → J.R σ H' v (.tup ds) → Q v H') : Q (.ref p) (upd H p (.tup xs)) :=
  q _ _ (Grow.upd hp) (.tup (SqT.of upd_same) (J.extL (Grow.upd hp).ext r))
/-- as Op1, Op2, where a new list may be frozen -/
theorem op2_fz {X : Cx} {J : Jc} {e' : Expr} {r : R2} {f : D → D → Option D} {ma mb : ME} (h : PE X e' (tOp r (tV J ma) (tV J mb))) (o : Op2 J f fun x y H Q => r x y H (Fz Q)) : VE X J e' (m2 f ma mb) :=
  ve_two (r := fun x y H Q => r x y H (Fz Q)) (pe_fz h) o
theorem op1_fz {X : Cx} {J : Jc} {e' : Expr} {r : V → Hp → VK → Prop} {f : D → Option D} {m : ME} (h : PE X e' (tUn r (tV J m))) (o : Op1 J f fun x H Q => r x H (Fz Q)) : VE X J e' (m1 f m) :=
  ve_one (r := fun x H Q => r x H (Fz Q)) (pe_fz h) o

/-! ### ints and sums -/
def okMul (a b : Int) : Bool := (decide (-(2 ^ 64) < a) && decide (a < 2 ^ 64)) || ((decide (-(2 ^ 64) < b) && decide (b < 2 ^ 64)) || decide (a.natAbs.log2 + b.natAbs.log2 < 1000000))
def D.add : D → D → Option D
  | .int a, .int b => some (.int (a + b))
  | .str a, .str b => if a.length + b.length ≤ sizeLine then some (.str (a ++ b)) else none
  | .tup a, .tup b => if a.length + b.length ≤ sizeLine then some (.tup (a ++ b)) else none
  | .lst a, .lst b => if a.length + b.length ≤ sizeLine then some (.lst (a ++ b)) else none
  | _, _ => none
def D.sub : D → D → Option D
  | .int a, .int b => some (.int (a - b))
  | _, _ => none
def D.mul : D → D → Option D
  | .int a, .int b => if okMul a b then some (.int (a * b)) else none
  | .tup a, .int k => if a ≠ [] ∧ 2 ≤ k ∧ k ≤ 1000 ∧ a.length ≤ 1000 then some (.tup (List.replicate k.toNat a).flatten) else none
  | .lst a, .int k => if k < 1000000 ∧ -1000000 < k ∧ a.length * k.toNat ≤ sizeLine then some (.lst (List.replicate k.toNat a).flatten) else none
  | _, _ => none
def okDiv (b : Int) : Bool := decide (0 < b) && decide (b.natAbs.log2 < 9000) || (decide (b ≠ 0) && decide (b.natAbs < 1073741824))
def D.fdiv : D → D → Option D
  | .int a, .int b => if okDiv b then some (.int (a.fdiv b)) else none
  | _, _ => none
def D.fmod : D → D → Option D
  | .int a, .int b => if b ≠ 0 then some (.int (a.fmod b)) else none
  | _, _ => none
def D.pow : D → D → Option D
  | .int a, .int b => if 0 ≤ b ∧ b ≤ 1000000 ∧ a.natAbs < 2 ^ 64 then some (.int (a ^ b.toNat)) else none
  | _, _ => none
/-- list + list, of any standing -/
def rCatF : R2 := fun x y H Q => ∃ l b xs zs, x = .ref l ∧ y = .ref b ∧ FzL H l xs ∧ FzL H b zs ∧ xs.length + zs.length ≤ sizeLine ∧ ∀ p, H p = none → Q (.ref p) (upd H p (.lst (xs ++ zs)))
theorem op_catF {X : Cx} : OpR X (binaryOp .Add) rCatF := by
  intro pins s σ H x y v u Q I rx ry h
  obtain ⟨l, b, xs, zs, rfl, rfl, hH, hB, hz, q⟩ := h
  cases rx
  cases ry
  obtain ⟨z, its, n, r, e⟩ := inv_fz I hH
  obtain ⟨z2, its2, n2, r2, e2⟩ := inv_fz I hB
  have l1 := r.length
  have l2 := r2.length
  refine PySem.P.add_list e e2 ?_ (by rw [List.size_toArray, List.size_toArray]; omega)
  rw [show its.toArray ++ its2.toArray = (its ++ its2).toArray by simp]
  exact ⟨.ref _, _, I.lnew (t' := s.toks) (r.append r2) (by rw [List.length_append]; omega), rfl, q _ I.fresh⟩
def rAdd (K : PySem.W.Frag) : R2 := fun x y H Q => (∃ i j, x = .int i ∧ y = .int j ∧ Q (.int (i + j)) H) ∨ (∃ i j, x = .str i ∧ y = .str j ∧ i.length + j.length ≤ sizeLine ∧ Q (.str (i ++ j)) H) ∨ rCatA K x y H Q ∨ rCatF x y H Q
theorem op_addD {X : Cx} : OpR X (binaryOp .Add) (rAdd X.K) := op_add.or (op_add_str.or (op_catA.or op_catF))
section
variable {X : Cx} {J : Jc} {a b : Expr} {ma mb : ME} {pos : Pos}
theorem ve_add (hK : J.g.K = X.K) (ha : VE X J a ma) (hb : VE X J b mb) : VE X J (.BinOp a .Add b pos) (m2 D.add ma mb) := by
  refine op2_fz (pe_op op_addD ha hb) fun σ H Q x y dx dy d rx ry e q => ?_
  rw [← hK]
  unfold D.add at e
  split at e
  · cases rx; cases ry; cases e
    exact .inl ⟨_, _, rfl, rfl, .inl (q H _ (fun _ _ k => k) (.int _))⟩
  · cases rx; cases ry
    split at e
    · cases e
      rename_i hz
      exact .inr (.inl ⟨_, _, rfl, rfl, hz, .inl (q H _ (fun _ _ k => k) (.str _))⟩)
    · cases e
  · cases rx with
    | tup s1 r1 =>
      cases ry with
      | tup s2 r2 =>
        split at e
        · cases e
          rename_i hz
          rw [← r1.length, ← r2.length] at hz
          refine .inr (.inr (.inl ⟨_, _, _, _, rfl, rfl, s1, s2, hz, fun h0 => .inl ?_, fun _ h0 => .inl ?_, fun _ _ p hp => .inl (tup_of hp (r1.append r2) q)⟩))
          · subst h0
            cases r1
            exact q H _ (fun _ _ k => k) (.tup s2 r2)
          · subst h0
            cases r2
            rw [List.append_nil] at q
            exact q H _ (fun _ _ k => k) (.tup s1 r1)
        · cases e
  · cases rx with
    | lst s1 r1 =>
      cases ry with
      | lst s2 r2 =>
        split at e
        · cases e
          rename_i hz
          rw [← r1.length, ← r2.length] at hz
          exact .inr (.inr (.inr ⟨_, _, _, _, rfl, rfl, s1, s2, hz, fun p hp => fz_of (d := .non) hp (r1.append r2) q⟩))
        · cases e
  · cases e
theorem ve_sub (ha : VE X J a ma) (hb : VE X J b mb) : VE X J (.BinOp a .Sub b pos) (m2 D.sub ma mb) := by
  refine ve_two (pe_op op_sub ha hb) fun σ H Q x y dx dy d rx ry e q => ?_
  unfold D.sub at e
  split at e
  · cases rx; cases ry; cases e
    exact ⟨_, _, rfl, rfl, q H _ (fun _ _ k => k) (.int _)⟩
  · cases e
theorem ve_fdiv (ha : VE X J a ma) (hb : VE X J b mb) : VE X J (.BinOp a .FloorDiv b pos) (m2 D.fdiv ma mb) := by
  have op : OpR X (binaryOp .FloorDiv) (fun x y H Q => rI CDivN (fun i j => .int (i.fdiv j)) x y H Q ∨ rI CDivW (fun i j => .int (i / j)) x y H Q) := op_fdivN.or op_fdivW
  refine ve_two (pe_op op ha hb) fun σ H Q x y dx dy d rx ry e q => ?_
  unfold D.fdiv at e
  split at e
  · rename_i i j
    cases rx; cases ry
    split at e
    · rename_i hc
      cases e
      unfold okDiv at hc
      simp only [Bool.or_eq_true, Bool.and_eq_true, decide_eq_true_eq] at hc
      rcases hc with ⟨h1, h2⟩ | ⟨h1, h2⟩
      · refine .inr ⟨_, _, rfl, rfl, ⟨h1, h2⟩, ?_⟩
        show Q (.int (i / j)) H
        rw [← Int.fdiv_eq_ediv_of_nonneg i (Int.le_of_lt h1)]
        exact q H _ (fun _ _ k => k) (.int _)
      · exact .inl ⟨_, _, rfl, rfl, ⟨h1, h2⟩, q H _ (fun _ _ k => k) (.int _)⟩
    · cases e
  · cases e
theorem ve_mod (ha : VE X J a ma) (hb : VE X J b mb) : VE X J (.BinOp a .Mod b pos) (m2 D.fmod ma mb) := by
  refine ve_two (pe_op op_modN ha hb) fun σ H Q x y dx dy d rx ry e q => ?_
  unfold D.fmod at e
  split at e
  · cases rx; cases ry
    split at e
    · rename_i hc
      cases e
      exact ⟨_, _, rfl, rfl, hc, q H _ (fun _ _ k => k) (.int _)⟩
    · cases e
  · cases e
theorem ve_pow (ha : VE X J a ma) (hb : VE X J b mb) : VE X J (.BinOp a .Pow b pos) (m2 D.pow ma mb) := by
  refine ve_two (pe_op op_pow ha hb) fun σ H Q x y dx dy d rx ry e q => ?_
  unfold D.pow at e
  split at e
  · cases rx; cases ry
    split at e
    · rename_i hc
      cases e
      exact ⟨_, _, rfl, rfl, hc, q H _ (fun _ _ k => k) (.int _)⟩
    · cases e
  · cases e
/-- a list times an int -/
def rRepF : R2 := fun x y H Q => ∃ l k xs, x = .ref l ∧ y = .int k ∧ FzL H l xs ∧ -(2 ^ 63) ≤ k ∧ k < 2 ^ 63 ∧ xs.length * k.toNat ≤ sizeLine ∧
  ∀ p, H p = none → Q (.ref p) (upd H p (.lst (List.replicate k.toNat xs).flatten))
end
end VL

namespace VL
open PySem PySem.Spec PyProof.Rows L2 LamX
/-! ### trees as data -/
mutual
def D.py : D → PyData
  | .bl b => .bool b
  | .int i => .int i
  | .str x => .str x
  | .tup ds => .tuple (D.pys ds)
  | .lst ds => .list (D.pys ds)
  | .non | .dct _ | .glb _ | .exc _ _ | .clo _ _ | .own _ | .pot | .scr _ | .rng _ _ => .none
def D.pys : List D → List PyData
  | [] => []
  | d :: ds => d.py :: D.pys ds
end
theorem D.pys_map : ∀ ds : List D, D.pys ds = ds.map D.py
  | [] => rfl
  | d :: ds => by rw [D.pys, D.pys_map ds]; rfl
/-- data of depth at most n -/
def D.plain : Nat → D → Bool
  | _, .non | _, .bl _ | _, .int _ => true
  | _, .str x => PyData.strOk x
  | n + 1, .tup ds => ds.all (D.plain n)
  | n + 1, .lst ds => ds.all (D.plain n)
  | _, _ => false
theorem D.plain_mono : ∀ (n : Nat) (d : D), d.plain n = true → d.plain (n + 1) = true
  | 0, d, h => by cases d <;> simp_all [D.plain]
  | n + 1, d, h => by
    cases d with
    | tup ds =>
      simp only [D.plain, List.all_eq_true] at h ⊢
      exact fun x hx => D.plain_mono n x (h x hx)
    | lst ds =>
      simp only [D.plain, List.all_eq_true] at h ⊢
      exact fun x hx => D.plain_mono n x (h x hx)
    | _ => simp_all [D.plain]
theorem D.plain_le {n m : Nat} {d : D} (h : d.plain n = true) (l : n ≤ m) : d.plain m = true := by
  induction m with
  | zero => rw [Nat.le_zero.mp l] at h; exact h
  | succ m ih =>
    by_cases e : n = m + 1
    · subst e; exact h
    · exact D.plain_mono _ _ (ih (by omega))
theorem D.py_ok : ∀ (n : Nat) (d : D), d.plain n = true → d.py.canLay0 = true ∧ d.py.depth ≤ n
  | n, .non, _ => ⟨rfl, Nat.zero_le _⟩
  | n, .bl b, _ => ⟨rfl, Nat.zero_le _⟩
  | n, .int i, _ => ⟨rfl, Nat.zero_le _⟩
  | n, .str x, h => ⟨by cases n <;> simpa [D.py, PyData.canLay0, D.plain] using h, Nat.zero_le _⟩
  | n + 1, .tup ds, h => by
    simp only [D.plain, List.all_eq_true] at h
    have go : ∀ l : List D, (∀ x ∈ l, x.plain n = true) → PyData.canLayAll0 (D.pys l) = true ∧ PyData.depthAll (D.pys l) ≤ n := by
      intro l
      induction l with
      | nil => intro _; exact ⟨rfl, Nat.zero_le _⟩
      | cons a l ih =>
        intro hl
        obtain ⟨h1, h2⟩ := D.py_ok n a (hl a List.mem_cons_self)
        obtain ⟨h3, h4⟩ := ih fun x hx => hl x (List.mem_cons_of_mem _ hx)
        simp only [D.pys, PyData.canLayAll0, PyData.depthAll, h1, h3]
        exact ⟨rfl, by omega⟩
    obtain ⟨h1, h2⟩ := go ds h
    exact ⟨by simpa [D.py, PyData.canLay0] using h1, by simpa [D.py, PyData.depth] using h2⟩
  | n + 1, .lst ds, h => by
    simp only [D.plain, List.all_eq_true] at h
    have go : ∀ l : List D, (∀ x ∈ l, x.plain n = true) → PyData.canLayAll0 (D.pys l) = true ∧ PyData.depthAll (D.pys l) ≤ n := by
      intro l
      induction l with
      | nil => intro _; exact ⟨rfl, Nat.zero_le _⟩
      | cons a l ih =>
        intro hl
        obtain ⟨h1, h2⟩ := D.py_ok n a (hl a List.mem_cons_self)
        obtain ⟨h3, h4⟩ := ih fun x hx => hl x (List.mem_cons_of_mem _ hx)
        simp only [D.pys, PyData.canLayAll0, PyData.depthAll, h1, h3]
        exact ⟨rfl, by omega⟩
    obtain ⟨h1, h2⟩ := go ds h
    exact ⟨by simpa [D.py, PyData.canLay0] using h1, by simpa [D.py, PyData.depth] using h2⟩
  | 0, .tup _, h => by simp [D.plain] at h
  | 0, .lst _, h => by simp [D.plain] at h
  | n, .dct _, h => by cases n <;> simp [D.plain] at h
  | n, .glb _, h => by cases n <;> simp [D.plain] at h
  | n, .exc _ _, h => by cases n <;> simp [D.plain] at h
  | n, .clo _ _, h => by cases n <;> simp [D.plain] at h
  | n, .pot, h => by cases n <;> simp [D.plain] at h
  | n, .own _, h => by cases n <;> simp [D.plain] at h
  | n, .scr _, h => by cases n <;> simp [D.plain] at h
  | n, .rng _ _, h => by cases n <;> simp [D.plain] at h
theorem D.shaped {d : D} (h : d.plain 60 = true) : SeqAt.shaped d.py = true := by
  obtain ⟨h1, h2⟩ := D.py_ok 60 d h
  unfold SeqAt.shaped
  rw [h1, decide_eq_true (Nat.le_trans h2 (by decide))]
  rfl
theorem Rep.dp {g : Gx} {co : CO} {H : Hp} : ∀ (n : Nat) {v : V} {d : D}, Rep g co H v d → d.plain n = true → Dp g.K H v d.py
  | n, _, _, .non, _ => .non
  | n, _, _, .bl b, _ => .bl b
  | n, _, _, .int i, _ => .int i
  | n, _, _, .str x, _ => .str x
  | n + 1, _, _, .tup (xs := xs) (ds := ds) s r, h => by
    simp only [D.plain, List.all_eq_true] at h
    have go : ∀ (xs : List V) (l : List D), RepL g co H xs l → (∀ x ∈ l, x.plain n = true) → DpAll g.K H xs (D.pys l) := by
      intro xs l
      induction l generalizing xs with
      | nil => intro r _; cases r; exact .nil
      | cons a l ih =>
        intro r hl
        cases r with
        | cons r1 r2 => exact .cons (Rep.dp n r1 (hl a List.mem_cons_self)) (ih _ r2 fun x hx => hl x (List.mem_cons_of_mem _ hx))
    exact .tup s (go xs ds r h)
  | n + 1, _, _, .lst (xs := xs) (ds := ds) s r, h => by
    simp only [D.plain, List.all_eq_true] at h
    have go : ∀ (xs : List V) (l : List D), RepL g co H xs l → (∀ x ∈ l, x.plain n = true) → DpAll g.K H xs (D.pys l) := by
      intro xs l
      induction l generalizing xs with
      | nil => intro r _; cases r; exact .nil
      | cons a l ih =>
        intro r hl
        cases r with
        | cons r1 r2 => exact .cons (Rep.dp n r1 (hl a List.mem_cons_self)) (ih _ r2 fun x hx => hl x (List.mem_cons_of_mem _ hx))
    exact .lst s.sq (go xs ds r h)
  | 0, _, _, .tup _ _, h => by simp [D.plain] at h
  | 0, _, _, .lst _ _, h => by simp [D.plain] at h
  | n, _, _, .glb _, h => by cases n <;> simp [D.plain] at h
  | n, _, _, .exc _ _ _ _, h => by cases n <;> simp [D.plain] at h
  | n, _, _, .clo _ _, h => by cases n <;> simp [D.plain] at h
  | n, _, _, .pot _, h => by cases n <;> simp [D.plain] at h
  | n, _, _, .own _, h => by cases n <;> simp [D.plain] at h
  | n, _, _, .scr _, h => by cases n <;> simp [D.plain] at h
  | n, _, _, .rng _, h => by cases n <;> simp [D.plain] at h
/-- == -/
def D.eqv (a b : D) : Bool := PyData.eqv a.py b.py
def D.eqP (a b : D) : Option D := if a.plain 60 && b.plain 60 then some (.bl (a.eqv b)) else none
def D.neP (a b : D) : Option D := if a.plain 60 && b.plain 60 then some (.bl (!a.eqv b)) else none
/-- texts are compared whatever they hold -/
def D.eq (a b : D) : Option D := match a with
  | .str x => match b with
    | .str y => some (.bl (x == y))
    | b => D.eqP (.str x) b
  | a => D.eqP a b
def D.ne (a b : D) : Option D := match a with
  | .str x => match b with
    | .str y => some (.bl (!(x == y)))
    | b => D.neP (.str x) b
  | a => D.neP a b
def D.cmp (f : Int → Int → Bool) : D → D → Option D
  | .int a, .int b => some (.bl (f a b))
  | _, _ => none
def D.isin (a b : D) : Option D := match b with
  | .lst ds => if a.plain 60 && b.plain 60 then some (.bl (ds.any fun z => z.eqv a)) else none
  | .tup ds => if a.plain 60 && b.plain 60 then some (.bl (ds.any fun z => z.eqv a)) else none
  | .str y => match a with
    | .str x => some (.bl (!(Builtin.Str.occurrences y x 0 y.length 1).isEmpty))
    | _ => none
  | _ => none
def D.neg (o : Option D) : Option D := match o with
  | some (.bl b) => some (.bl (!b))
  | _ => none
/-- x in a tuple of data -/
def rInT (K : PySem.W.Frag) (c : Bool → Bool) : R2 := fun x y H Q => ∃ d ds, Dp K H x d ∧ Dp K H y (.tuple ds) ∧ SeqAt.shaped d = true ∧ SeqAt.shaped (.tuple ds) = true ∧ Q (.bl (c (ds.any fun z => PyData.eqv z d))) H
theorem op_inT {X : Cx} (hu : X.A.units + 65 < cLine) : OpR X (compareOp .In) (rInT X.K id) := by
  intro pins s σ H x y v u Q I rx ry h
  obtain ⟨d, ds, hd, he, sd, se, q⟩ := h
  obtain ⟨as, r1⟩ := Dp.reads I d x v hd rx
  obtain ⟨bs, r2⟩ := Dp.reads I (.tuple ds) y u he ry
  exact SeqAt.in_tuple_reads r2 r1 (SeqAt.canLay_of_shaped se) (SeqAt.canLay_of_shaped sd) (room_in_shaped sd hu) ⟨.bl _, H, I, rfl, q⟩
theorem op_notInT {X : Cx} (hu : X.A.units + 65 < cLine) : OpR X (compareOp .NotIn) (rInT X.K not) := by
  intro pins s σ H x y v u Q I rx ry h
  obtain ⟨d, ds, hd, he, sd, se, q⟩ := h
  obtain ⟨as, r1⟩ := Dp.reads I d x v hd rx
  obtain ⟨bs, r2⟩ := Dp.reads I (.tuple ds) y u he ry
  exact SeqAt.notIn_tuple_reads r2 r1 (SeqAt.canLay_of_shaped se) (SeqAt.canLay_of_shaped sd) (room_in_shaped sd hu) ⟨.bl _, H, I, rfl, q⟩
section
variable {X : Cx} {J : Jc} {a b c e : Expr} {ma mb mc : ME} {pos : Pos}
theorem g0 {J : Jc} {σ : St} {H : Hp} {Q : VK} {v : V} {d : D} (q : ∀ (H' : Hp) (v : V), Grow H H' → J.R σ H' v d → Q v H') (r : J.R σ H v d) : Q v H := q H v (fun _ _ k => k) r
theorem any_py (ds : List D) (a : D) : (D.pys ds).any (fun z => PyData.eqv z a.py) = ds.any fun z => z.eqv a := by
  rw [D.pys_map, List.any_map]
  rfl
theorem op2_eqP (hK : J.g.K = X.K) : Op2 J D.eqP (rEqD X.K) := fun σ H Q x y dx dy d rx ry e q => by
  unfold D.eqP at e
  split at e
  · rename_i hp
    cases e
    obtain ⟨h1, h2⟩ := Bool.and_eq_true_iff.mp hp
    rw [← hK]
    exact ⟨dx.py, dy.py, rx.dp _ h1, ry.dp _ h2, D.shaped h1, D.shaped h2, g0 q (.bl _)⟩
  · cases e
theorem op2_neP (hK : J.g.K = X.K) : Op2 J D.neP (rNeD X.K) := fun σ H Q x y dx dy d rx ry e q => by
  unfold D.neP at e
  split at e
  · rename_i hp
    cases e
    obtain ⟨h1, h2⟩ := Bool.and_eq_true_iff.mp hp
    rw [← hK]
    exact ⟨dx.py, dy.py, rx.dp _ h1, ry.dp _ h2, D.shaped h1, D.shaped h2, g0 q (.bl _)⟩
  · cases e
def rEq2 (K : PySem.W.Frag) : R2 := fun x y H Q => rEq x y H Q ∨ rEqD K x y H Q
def rNe2 (K : PySem.W.Frag) : R2 := fun x y H Q => rNe x y H Q ∨ rNeD K x y H Q
theorem op2_eq (hK : J.g.K = X.K) : Op2 J D.eq (rEq2 X.K) := fun σ H Q x y dx dy d rx ry e q => by
  unfold D.eq at e
  split at e
  · split at e
    · cases e
      cases rx
      cases ry
      exact .inl ⟨rfl, by rw [dec_str]; exact g0 q (.bl _)⟩
    · exact .inr (op2_eqP hK σ H Q x y _ dy d rx ry e q)
  · exact .inr (op2_eqP hK σ H Q x y dx dy d rx ry e q)
theorem op2_ne (hK : J.g.K = X.K) : Op2 J D.ne (rNe2 X.K) := fun σ H Q x y dx dy d rx ry e q => by
  unfold D.ne at e
  split at e
  · split at e
    · cases e
      cases rx
      cases ry
      exact .inl ⟨rfl, by rw [dec_str]; exact g0 q (.bl _)⟩
    · exact .inr (op2_neP hK σ H Q x y _ dy d rx ry e q)
  · exact .inr (op2_neP hK σ H Q x y dx dy d rx ry e q)
def rIn3 (K : PySem.W.Frag) : R2 := fun x y H Q => rInD K x y H Q ∨ rInT K id x y H Q ∨ ∃ i j, x = .str i ∧ y = .str j ∧ Q (.bl (!(Builtin.Str.occurrences j i 0 j.length 1).isEmpty)) H
def rNotIn3 (K : PySem.W.Frag) : R2 := fun x y H Q => rNotInD K x y H Q ∨ rInT K not x y H Q ∨ ∃ i j, x = .str i ∧ y = .str j ∧ Q (.bl (!(!(Builtin.Str.occurrences j i 0 j.length 1).isEmpty))) H
theorem op_in3 (hu : X.A.units + 65 < cLine) : OpR X (compareOp .In) (rIn3 X.K) := (op_inD hu).or ((op_inT hu).or op_in_str)
theorem op_notIn3 (hu : X.A.units + 65 < cLine) : OpR X (compareOp .NotIn) (rNotIn3 X.K) := (op_notInD hu).or ((op_notInT hu).or op_notin_str)
theorem op2_in (hK : J.g.K = X.K) : Op2 J D.isin (rIn3 X.K) := fun σ H Q x y dx dy d rx ry e q => by
  rw [← hK]
  unfold D.isin at e
  split at e
  · rename_i ds
    split at e
    · rename_i hp
      cases e
      obtain ⟨h1, h2⟩ := Bool.and_eq_true_iff.mp hp
      exact .inl ⟨dx.py, D.pys ds, rx.dp _ h1, ry.dp _ h2, D.shaped h1, D.shaped h2, by rw [any_py]; exact g0 q (.bl _)⟩
    · cases e
  · rename_i ds
    split at e
    · rename_i hp
      cases e
      obtain ⟨h1, h2⟩ := Bool.and_eq_true_iff.mp hp
      exact .inr (.inl ⟨dx.py, D.pys ds, rx.dp _ h1, ry.dp _ h2, D.shaped h1, D.shaped h2, by rw [any_py]; exact g0 q (.bl _)⟩)
    · cases e
  · split at e
    · cases e
      cases rx
      cases ry
      exact .inr (.inr ⟨_, _, rfl, rfl, g0 q (.bl _)⟩)
    · cases e
  · cases e
theorem op2_notIn (hK : J.g.K = X.K) : Op2 J (fun x y => D.neg (D.isin x y)) (rNotIn3 X.K) := fun σ H Q x y dx dy d rx ry e q => by
  rw [← hK]
  replace e : D.neg (D.isin dx dy) = some d := e
  unfold D.isin at e
  split at e
  · rename_i ds
    split at e
    · rename_i hp
      cases e
      obtain ⟨h1, h2⟩ := Bool.and_eq_true_iff.mp hp
      exact .inl ⟨dx.py, D.pys ds, rx.dp _ h1, ry.dp _ h2, D.shaped h1, D.shaped h2, by rw [any_py]; exact g0 q (.bl _)⟩
    · cases e
  · rename_i ds
    split at e
    · rename_i hp
      cases e
      obtain ⟨h1, h2⟩ := Bool.and_eq_true_iff.mp hp
      exact .inr (.inl ⟨dx.py, D.pys ds, rx.dp _ h1, ry.dp _ h2, D.shaped h1, D.shaped h2, by rw [any_py]; exact g0 q (.bl _)⟩)
    · cases e
  · split at e
    · cases e
      cases rx
      cases ry
      exact .inr (.inr ⟨_, _, rfl, rfl, g0 q (.bl _)⟩)
    · cases e
  · cases e
theorem op2_cmp {f : Int → Int → Bool} : Op2 J (D.cmp f) (rI0 fun i j => .bl (f i j)) := fun σ H Q x y dx dy d rx ry e q => by
  unfold D.cmp at e
  split at e
  · cases rx; cases ry; cases e
    exact ⟨_, _, rfl, rfl, g0 q (.bl _)⟩
  · cases e
/-- one comparison as a value -/
theorem ve_cmp {op : CmpOp} {r : R2} {f : D → D → Option D} (ho : OpR X (compareOp op) r) (o : Op2 J f r) (ha : VE X J a ma) (hb : VE X J b mb) (hm : behindInMarks op b = false) : VE X J (.Compare a [op] [b] pos) (m2 f ma mb) := ve_two (pe_cmpR ho ha hb hm) o
def mChain (f g : D → D → Option D) (ma mb mc : ME) : ME := fun vw p => (ma vw p).bind fun x p1 => (mb vw p1).bind fun y p2 => match f x y with
  | some (.bl true) => (mc vw p2).bind fun z p3 => ofO (g y z) p3
  | some (.bl false) => .ok (.bl false) p2
  | _ => .bad
theorem ve_chain {op op' : CmpOp} {r r' : R2} {f f' : D → D → Option D} (ho : OpR X (compareOp op) r) (o : Op2 J f r) (ho' : OpR X (compareOp op') r') (o' : Op2 J f' r') (ha : VE X J a ma) (hb : VE X J b mb) (hc : VE X J c mc)
    (hm : lastMarks [op, op'] [b, c] = false := by with_unfolding_all rfl) : VE X J (.Compare a [op, op'] [b, c] pos) (mChain f f' ma mb mc) := by
  refine pe_imp (pe_chain ho ho' ha hb hc hm) fun σ H Q ⟨vw, p, rr, s, q⟩ => ⟨vw, p, rr, s, ?_⟩
  unfold mChain at q
  cases e1 : ma vw p with
  | bad => rw [e1] at q; exact q.elim
  | err x dv p1 => rw [e1] at q; exact q
  | ok d p1 =>
    rw [e1] at q
    intro H1 v x1 s1 r1
    refine ⟨vw, p1, rr.ext x1, s1, ?_⟩
    cases e2 : mb vw p1 with
    | bad => simp only [Res.bind, e2] at q; exact q.elim
    | err x dv p2 => simp only [Res.bind, e2] at q; exact ErrP.ext q x1
    | ok d2 p2 =>
      intro H2 v2 x2 s2 r2
      simp only [Res.bind, e2] at q
      cases e3 : f d d2 with
      | none => rw [e3] at q; exact q.elim
      | some z =>
        rw [e3] at q
        refine o σ H2 _ v v2 d d2 z (J.ext x2 r1) r2 e3 fun H3 v3 g3 r3 => ?_
        cases z with
        | bl k =>
          cases r3
          refine ⟨k, rfl, ?_⟩
          have x3 := (x1.trans x2).trans (Grow.ext (g := J.g) g3)
          cases k with
          | false =>
            rw [if_neg Bool.false_ne_true]
            exact q H3 _ x3 (s2.grow g3) (.bl false)
          | true =>
            rw [if_pos rfl]
            refine ⟨vw, p2, rr.ext x3, s2.grow g3, ?_⟩
            simp only at q
            cases e4 : mc vw p2 with
            | bad => rw [e4] at q; exact q.elim
            | err x dv p3 => rw [e4] at q; exact ErrP.ext q x3
            | ok d4 p4 =>
              rw [e4] at q
              intro H4 v4 x4 s4 r4
              cases e5 : f' d2 d4 with
              | none => simp only [e5, ofO] at q; exact q.elim
              | some w =>
                simp only [e5, ofO] at q
                exact o' σ H4 Q v2 v4 d2 d4 w (J.ext ((Grow.ext (g := J.g) g3).trans x4) r2) r4 e5 fun H5 v5 g5 r5 => q H5 v5 ((x3.trans x4).trans g5.ext) (s4.grow g5) r5
        | _ => exact q.elim
def D.isN : D → Bool
  | .non => true
  | _ => false
def D.isNone (d : D) : Option D := some (.bl d.isN)
def D.notNone (d : D) : Option D := some (.bl (!d.isN))
theorem rep_non {g : Gx} {co : CO} {H : Hp} {v : V} {d : D} (r : Rep g co H v d) : decide (v = .non) = d.isN := by
  cases r with
  | glb h1 => rfl
  | _ => rfl
theorem ve_isN {j : Nat} {pos' : Pos} (ha : VE X J a ma) : VE X J (.Compare a [.Is] [.Constant .none j pos'] pos) (m1 D.isNone ma) := by
  refine ve_one (r := fun x H Q => Q (.bl (decide (x = .non))) H) (pe_cmp (pc_isN ha) rfl) fun σ H Q x dx d rx e q => ?_
  show Q _ H
  rw [rep_non rx]
  cases e
  exact g0 q (.bl _)
theorem ve_notN {j : Nat} {pos' : Pos} (ha : VE X J a ma) : VE X J (.Compare a [.IsNot] [.Constant .none j pos'] pos) (m1 D.notNone ma) := by
  refine ve_one (r := fun x H Q => Q (.bl (!decide (x = .non))) H) (pe_cmp (pc_notN ha) rfl) fun σ H Q x dx d rx e q => ?_
  show Q _ H
  rw [rep_non rx]
  cases e
  exact g0 q (.bl _)
/-! ### tests, and, or, not -/
def toB (m : ME) : MB := fun vw p => (m vw p).bind fun d p1 => match d with
  | .bl b => .ok b p1
  | _ => .bad
def ofB (m : MB) : ME := fun vw p => (m vw p).bind fun b p1 => .ok (.bl b) p1
theorem tB_of {m : ME} {σ : St} {H : Hp} {Q : Bool → Hp → Prop} (h : tB J (toB m) σ H Q) : tV J m σ H fun x H1 => ∃ k, x = .bl k ∧ Q k H1 := by
  obtain ⟨vw, p, rr, s, q⟩ := h
  refine ⟨vw, p, rr, s, ?_⟩
  unfold toB at q
  cases e1 : m vw p with
  | bad => rw [e1] at q; exact q.elim
  | err x dv p1 => rw [e1] at q; exact q
  | ok d p1 =>
    rw [e1] at q
    intro H1 v x1 s1 r1
    cases d with
    | bl b =>
      cases r1
      exact ⟨b, rfl, q H1 x1 s1⟩
    | _ => exact q.elim
/-- an expression that is no and, or, not, comparison, as a test -/
theorem vt_val (h : VE X J e ma) (he : ∀ whole, isTrue e X.env whole = (do let v ← whole; standAt e.pos; holding [v] (truthy v)) := by intro _; rfl) : VT X J e (toB ma) := pt_imp (pt_val h he) fun σ H Q q => tB_of q
theorem vt_cmp {op : CmpOp} {r : R2} {f : D → D → Option D} (ho : OpR X (compareOp op) r) (o : Op2 J f r) (ha : VE X J a ma) (hb : VE X J b mb) (hm : behindInMarks op b = false) : VT X J (.Compare a [op] [b] pos) (toB (m2 f ma mb)) := by
  refine pt_imp (pt_cmpR ho ha hb hm) fun σ H Q q => ?_
  have q' := tB_of q
  obtain ⟨vw, p, rr, s, q⟩ := q'
  refine ⟨vw, p, rr, s, ?_⟩
  unfold m2 at q
  cases e1 : ma vw p with
  | bad => rw [e1] at q; exact q.elim
  | err x dv p1 => rw [e1] at q; exact q
  | ok d p1 =>
    rw [e1] at q
    intro H1 v x1 s1 r1
    refine ⟨vw, p1, rr.ext x1, s1, ?_⟩
    cases e2 : mb vw p1 with
    | bad => simp only [Res.bind, e2] at q; exact q.elim
    | err x dv p2 => simp only [Res.bind, e2] at q; exact ErrP.ext q x1
    | ok d2 p2 =>
      intro H2 v2 x2 s2 r2
      cases e3 : f d d2 with
      | none => simp only [Res.bind, e2, e3, ofO] at q; exact q.elim
      | some z =>
        simp only [Res.bind, e2, e3, ofO] at q
        exact o σ H2 _ v v2 d d2 z (J.ext x2 r1) r2 e3 fun H3 v3 g3 r3 => q H3 v3 ((x1.trans x2).trans g3.ext) (s2.grow g3) r3
theorem vt_chain {op op' : CmpOp} {r r' : R2} {f f' : D → D → Option D} (ho : OpR X (compareOp op) r) (o : Op2 J f r) (ho' : OpR X (compareOp op') r') (o' : Op2 J f' r') (ha : VE X J a ma) (hb : VE X J b mb) (hc : VE X J c mc)
    (hm : lastMarks [op, op'] [b, c] = false := by with_unfolding_all rfl) : VT X J (.Compare a [op, op'] [b, c] pos) (toB (mChain f f' ma mb mc)) := by
  refine pt_imp (pt_chain ho ho' ha hb hc hm) fun σ H Q q => ?_
  obtain ⟨vw, p, rr, s, q⟩ := tB_of q
  refine ⟨vw, p, rr, s, ?_⟩
  unfold mChain at q
  cases e1 : ma vw p with
  | bad => rw [e1] at q; exact q.elim
  | err x dv p1 => rw [e1] at q; exact q
  | ok d p1 =>
    rw [e1] at q
    intro H1 v x1 s1 r1
    refine ⟨vw, p1, rr.ext x1, s1, ?_⟩
    cases e2 : mb vw p1 with
    | bad => simp only [Res.bind, e2] at q; exact q.elim
    | err x dv p2 => simp only [Res.bind, e2] at q; exact ErrP.ext q x1
    | ok d2 p2 =>
      intro H2 v2 x2 s2 r2
      simp only [Res.bind, e2] at q
      cases e3 : f d d2 with
      | none => rw [e3] at q; exact q.elim
      | some z =>
        rw [e3] at q
        refine o σ H2 _ v v2 d d2 z (J.ext x2 r1) r2 e3 fun H3 v3 g3 r3 => ?_
        cases z with
        | bl k =>
          cases r3
          refine ⟨k, rfl, ?_⟩
          have x3 := (x1.trans x2).trans (Grow.ext (g := J.g) g3)
          cases k with
          | false =>
            rw [if_neg Bool.false_ne_true]
            exact q H3 _ x3 (s2.grow g3) (.bl false)
          | true =>
            rw [if_pos rfl]
            refine ⟨vw, p2, rr.ext x3, s2.grow g3, ?_⟩
            simp only at q
            cases e4 : mc vw p2 with
            | bad => rw [e4] at q; exact q.elim
            | err x dv p3 => rw [e4] at q; exact ErrP.ext q x3
            | ok d4 p4 =>
              rw [e4] at q
              intro H4 v4 x4 s4 r4
              cases e5 : f' d2 d4 with
              | none => simp only [e5, ofO] at q; exact q.elim
              | some w =>
                simp only [e5, ofO] at q
                exact o' σ H4 _ v2 v4 d2 d4 w (J.ext ((Grow.ext (g := J.g) g3).trans x4) r2) r4 e5 fun H5 v5 g5 r5 => q H5 v5 ((x3.trans x4).trans g5.ext) (s4.grow g5) r5
        | _ => exact q.elim
theorem vt_isN {j : Nat} {pos' : Pos} (ha : VE X J a ma) : VT X J (.Compare a [.Is] [.Constant .none j pos'] pos) (toB (m1 D.isNone ma)) := by
  refine pt_imp (pt_cmp (pc_isN ha) rfl) fun σ H Q q => ?_
  obtain ⟨vw, p, rr, s, q⟩ := tB_of q
  refine ⟨vw, p, rr, s, ?_⟩
  unfold m1 at q
  cases e1 : ma vw p with
  | bad => rw [e1] at q; exact q.elim
  | err x dv p1 => rw [e1] at q; exact q
  | ok d p1 =>
    rw [e1] at q
    intro H1 v x1 s1 r1
    exact q H1 _ x1 s1 (rep_non r1 ▸ .bl _)
theorem vt_notN {j : Nat} {pos' : Pos} (ha : VE X J a ma) : VT X J (.Compare a [.IsNot] [.Constant .none j pos'] pos) (toB (m1 D.notNone ma)) := by
  refine pt_imp (pt_cmp (pc_notN ha) rfl) fun σ H Q q => ?_
  obtain ⟨vw, p, rr, s, q⟩ := tB_of q
  refine ⟨vw, p, rr, s, ?_⟩
  unfold m1 at q
  cases e1 : ma vw p with
  | bad => rw [e1] at q; exact q.elim
  | err x dv p1 => rw [e1] at q; exact q
  | ok d p1 =>
    rw [e1] at q
    intro H1 v x1 s1 r1
    exact q H1 _ x1 s1 (rep_non r1 ▸ .bl _)
def bAnd (m n : MB) : MB := fun vw p => (m vw p).bind fun k p1 => if k then n vw p1 else .ok false p1
def bOr (m n : MB) : MB := fun vw p => (m vw p).bind fun k p1 => if k then .ok true p1 else n vw p1
def bNot (m : MB) : MB := fun vw p => (m vw p).bind fun k p1 => .ok (!k) p1
/-- whatever the whole is -/
abbrev VW (X : Cx) (J : Jc) (e : Expr) (m : MB) : Prop := PW X e (tB J m)
variable {na nb : MB} {rest : List Expr}
theorem vw_and1 (h : VT X J a na) : VW X J (.BoolOp .And [a] pos) na := pw_and1 h
theorem vw_or1 (h : VT X J a na) : VW X J (.BoolOp .Or [a] pos) na := pw_or1 h
theorem vw_and (ha : VT X J a na) (hb : VW X J (.BoolOp .And (b :: rest) pos) nb) : VW X J (.BoolOp .And (a :: b :: rest) pos) (bAnd na nb) := by
  refine pw_imp (pw_and ha hb) fun σ H Q ⟨vw, p, rr, s, q⟩ => ⟨vw, p, rr, s, ?_⟩
  unfold bAnd at q
  cases e1 : na vw p with
  | bad => rw [e1] at q; exact q.elim
  | err x dv p1 => rw [e1] at q; exact q
  | ok k p1 =>
    rw [e1] at q
    intro H1 x1 s1
    cases k with
    | false =>
      rw [if_neg Bool.false_ne_true]
      exact q H1 x1 s1
    | true =>
      rw [if_pos rfl]
      refine ⟨vw, p1, rr.ext x1, s1, ?_⟩
      simp only [Res.bind, if_pos] at q
      cases e2 : nb vw p1 with
      | bad => rw [e2] at q; exact q.elim
      | err x dv p2 => rw [e2] at q; exact ErrP.ext q x1
      | ok k2 p2 => rw [e2] at q; exact fun H2 x2 s2 => q H2 (x1.trans x2) s2
theorem vw_or (ha : VT X J a na) (hb : VW X J (.BoolOp .Or (b :: rest) pos) nb) : VW X J (.BoolOp .Or (a :: b :: rest) pos) (bOr na nb) := by
  refine pw_imp (pw_or ha hb) fun σ H Q ⟨vw, p, rr, s, q⟩ => ⟨vw, p, rr, s, ?_⟩
  unfold bOr at q
  cases e1 : na vw p with
  | bad => rw [e1] at q; exact q.elim
  | err x dv p1 => rw [e1] at q; exact q
  | ok k p1 =>
    rw [e1] at q
    intro H1 x1 s1
    cases k with
    | true =>
      rw [if_pos rfl]
      exact q H1 x1 s1
    | false =>
      rw [if_neg Bool.false_ne_true]
      refine ⟨vw, p1, rr.ext x1, s1, ?_⟩
      simp only [Res.bind, Bool.false_eq_true, if_false] at q
      cases e2 : nb vw p1 with
      | bad => rw [e2] at q; exact q.elim
      | err x dv p2 => rw [e2] at q; exact ErrP.ext q x1
      | ok k2 p2 => rw [e2] at q; exact fun H2 x2 s2 => q H2 (x1.trans x2) s2
theorem vt_not (ha : VT X J a na) : VT X J (.UnaryOp .Not a pos) (bNot na) := by
  refine pt_imp (pt_not ha) fun σ H Q ⟨vw, p, rr, s, q⟩ => ⟨vw, p, rr, s, ?_⟩
  unfold bNot at q
  cases e1 : na vw p with
  | bad => rw [e1] at q; exact q.elim
  | err x dv p1 => rw [e1] at q; exact q
  | ok k p1 => rw [e1] at q; exact q
/-- and, or as values: all but the last bools -/
def mAnd (m n : ME) : ME := fun vw p => (toB m vw p).bind fun k p1 => if k then n vw p1 else .ok (.bl false) p1
def mOr (m n : ME) : ME := fun vw p => (toB m vw p).bind fun k p1 => if k then .ok (.bl true) p1 else n vw p1
def mNot (m : ME) : ME := fun vw p => (toB m vw p).bind fun k p1 => .ok (.bl (!k)) p1
theorem ve_b1 {op : BoolOp} (h : VE X J a ma) : VE X J (.BoolOp op [a] pos) ma := pe_one h
theorem ve_and (ha : VE X J a ma) (hb : VE X J (.BoolOp .And (b :: rest) pos) mb) : VE X J (.BoolOp .And (a :: b :: rest) pos) (mAnd ma mb) := by
  refine pe_imp (pe_and ha hb) fun σ H Q ⟨vw, p, rr, s, q⟩ => ⟨vw, p, rr, s, ?_⟩
  unfold mAnd toB at q
  cases e1 : ma vw p with
  | bad => rw [e1] at q; exact q.elim
  | err x dv p1 => rw [e1] at q; exact q
  | ok d p1 =>
    rw [e1] at q
    intro H1 v x1 s1 r1
    cases d with
    | bl k =>
      cases r1
      refine ⟨k, rfl, ?_⟩
      cases k with
      | false =>
        rw [if_neg Bool.false_ne_true]
        exact q H1 _ x1 s1 (.bl false)
      | true =>
        rw [if_pos rfl]
        refine ⟨vw, p1, rr.ext x1, s1, ?_⟩
        simp only [Res.bind, if_pos] at q
        cases e2 : mb vw p1 with
        | bad => rw [e2] at q; exact q.elim
        | err x dv p2 => rw [e2] at q; exact ErrP.ext q x1
        | ok k2 p2 => rw [e2] at q; exact fun H2 v2 x2 s2 r2 => q H2 v2 (x1.trans x2) s2 r2
    | _ => exact q.elim
theorem ve_or (ha : VE X J a ma) (hb : VE X J (.BoolOp .Or (b :: rest) pos) mb) : VE X J (.BoolOp .Or (a :: b :: rest) pos) (mOr ma mb) := by
  refine pe_imp (pe_or ha hb) fun σ H Q ⟨vw, p, rr, s, q⟩ => ⟨vw, p, rr, s, ?_⟩
  unfold mOr toB at q
  cases e1 : ma vw p with
  | bad => rw [e1] at q; exact q.elim
  | err x dv p1 => rw [e1] at q; exact q
  | ok d p1 =>
    rw [e1] at q
    intro H1 v x1 s1 r1
    cases d with
    | bl k =>
      cases r1
      refine ⟨k, rfl, ?_⟩
      cases k with
      | true =>
        rw [if_pos rfl]
        exact q H1 _ x1 s1 (.bl true)
      | false =>
        rw [if_neg Bool.false_ne_true]
        refine ⟨vw, p1, rr.ext x1, s1, ?_⟩
        simp only [Res.bind, Bool.false_eq_true, if_false] at q
        cases e2 : mb vw p1 with
        | bad => rw [e2] at q; exact q.elim
        | err x dv p2 => rw [e2] at q; exact ErrP.ext q x1
        | ok k2 p2 => rw [e2] at q; exact fun H2 v2 x2 s2 r2 => q H2 v2 (x1.trans x2) s2 r2
    | _ => exact q.elim
theorem ve_not (ha : VE X J a ma) : VE X J (.UnaryOp .Not a pos) (mNot ma) := by
  refine pe_imp (pe_not ha) fun σ H Q ⟨vw, p, rr, s, q⟩ => ⟨vw, p, rr, s, ?_⟩
  unfold mNot toB at q
  cases e1 : ma vw p with
  | bad => rw [e1] at q; exact q.elim
  | err x dv p1 => rw [e1] at q; exact q
  | ok d p1 =>
    rw [e1] at q
    intro H1 v x1 s1 r1
    cases d with
    | bl k =>
      cases r1
      exact ⟨k, rfl, q H1 _ x1 s1 (.bl _)⟩
    | _ => exact q.elim
def mIf (t : MB) (m n : ME) : ME := fun vw p => (t vw p).bind fun k p1 => if k then m vw p1 else n vw p1
theorem ve_if (hc : VT X J c na) (ha : VE X J a ma) (hb : VE X J b mb) : VE X J (.IfExp c a b pos) (mIf na ma mb) := by
  refine pe_imp (pe_ifExp hc ha hb) fun σ H Q ⟨vw, p, rr, s, q⟩ => ⟨vw, p, rr, s, ?_⟩
  unfold mIf at q
  cases e1 : na vw p with
  | bad => rw [e1] at q; exact q.elim
  | err x dv p1 => rw [e1] at q; exact q
  | ok k p1 =>
    rw [e1] at q
    intro H1 x1 s1
    have go : ∀ {e : Expr} {m : ME}, PV J σ H Q (m vw p1) → tV J m σ H1 Q := fun {e m} q => by
      refine ⟨vw, p1, rr.ext x1, s1, ?_⟩
      cases e2 : m vw p1 with
      | bad => rw [e2] at q; exact q.elim
      | err x dv p2 => rw [e2] at q; exact ErrP.ext q x1
      | ok k2 p2 => rw [e2] at q; exact fun H2 v2 x2 s2 r2 => q H2 v2 (x1.trans x2) s2 r2
    cases k with
    | true =>
      rw [if_pos rfl]
      exact go (e := a) (by simpa only [Res.bind, if_pos] using q)
    | false =>
      rw [if_neg Bool.false_ne_true]
      exact go (e := b) (by simpa only [Res.bind, Bool.false_eq_true, if_false] using q)
end
end VL

namespace VL
open PySem PySem.Spec PyProof.Rows L2 LamX
/-! ### new lists, displays -/
def mLst (m : MA) : ME := fun vw p => (m vw p).bind fun ds p1 => .ok (.lst ds) p1
def lenOk (m : MA) : MA := fun vw p => (m vw p).bind fun ds p1 => if ds.length ≤ sizeLine then .ok ds p1 else .bad
def mTup (m : MA) : ME := fun vw p => (m vw p).bind fun ds p1 => if ds.length ≤ sizeLine then .ok (.tup ds) p1 else .bad
section
variable {X : Cx} {J : Jc} {a b c e : Expr} {es : List Expr} {ma mb mc : ME} {ms : MA} {pos : Pos}
/-- a new list, frozen at once -/
theorem ve_new (h : VN X J e ms) : VE X J e (mLst ms) := by
  refine pe_imp (pe_fz h) fun σ H Q ⟨vw, p, rr, s, q⟩ => ⟨vw, p, rr, s, ?_⟩
  unfold mLst at q
  cases e1 : ms vw p with
  | bad => rw [e1] at q; exact q.elim
  | err x dv p1 => rw [e1] at q; exact q
  | ok ds p1 =>
    rw [e1] at q
    intro H1 a xs x1 s1 hn r1
    refine .inr ⟨a, xs, rfl, upd_same, fun o => ?_⟩
    rw [upd_upd]
    exact q _ _ (x1.trans (Grow.upd hn).ext) (s1.grow (Grow.upd hn)) (.lst ⟨o, upd_same⟩ (J.extL (Grow.upd hn).ext r1))
theorem vn_lst (h : VA X J es ms) : VN X J (.List es pos) (lenOk ms) := by
  refine pe_imp (pe_lst h) fun σ H Q ⟨vw, p, rr, s, q⟩ => ⟨vw, p, rr, s, ?_⟩
  unfold lenOk at q
  cases e1 : ms vw p with
  | bad => rw [e1] at q; exact q.elim
  | err x dv p1 => rw [e1] at q; exact q
  | ok ds p1 =>
    rw [e1] at q
    intro H1 vs x1 s1 r1
    simp only [Res.bind] at q
    split at q
    · rename_i hz
      exact ⟨by rw [r1.length]; exact hz, fun p hp => q H1 p vs x1 s1 hp r1⟩
    · exact q.elim
theorem ve_tup {k : Nat} (h : VA X J es ms) : VE X J (.Tuple es k pos) (mTup ms) := by
  refine pe_imp (pe_tup h) fun σ H Q ⟨vw, p, rr, s, q⟩ => ⟨vw, p, rr, s, ?_⟩
  unfold mTup at q
  cases e1 : ms vw p with
  | bad => rw [e1] at q; exact q.elim
  | err x dv p1 => rw [e1] at q; exact q
  | ok ds p1 =>
    rw [e1] at q
    intro H1 vs x1 s1 r1
    simp only [Res.bind] at q
    split at q
    · rename_i hz
      exact ⟨by rw [r1.length]; exact hz, fun p hp => q _ _ (x1.trans (Grow.upd hp).ext) (s1.grow (Grow.upd hp)) (.tup (SqT.of upd_same) (J.extL (Grow.upd hp).ext r1))⟩
    · exact q.elim
/-- *e in a display -/
def mStar (m : ME) (ms : MA) : MA := fun vw p => (m vw p).bind fun d p1 => match d with
  | .tup xs => (ms vw p1).bind fun ds p2 => .ok (xs ++ ds) p2
  | .lst xs => (ms vw p1).bind fun ds p2 => .ok (xs ++ ds) p2
  | _ => .bad
theorem va_star {p : Pos} (hK : J.g.K = X.K) (h : VE X J e ma) (hs : VA X J es ms) (hst : starEach (.Starred e p :: es) X.env = (true, eval e X.env) :: starEach es X.env := by rfl) : VA X J (.Starred e p :: es) (mStar ma ms) := by
  refine pa_imp (StX.pa_star h hs hst) fun σ H Q ⟨vw, p, r, s, q⟩ => ⟨vw, p, r, s, ?_⟩
  unfold mStar at q
  cases e1 : ma vw p with
  | bad => rw [e1] at q; exact q.elim
  | err x dv p1 => rw [e1] at q; exact q
  | ok d p1 =>
    rw [e1] at q
    intro H1 v x1 s1 r1
    have go : ∀ {xs : List V} {ds : List D}, J.RL σ H1 xs ds → PL J σ H Q ((ms vw p1).bind fun es p2 => .ok (ds ++ es) p2) → tA J ms σ H1 fun ys H2 => Q (xs ++ ys) H2 := fun {xs ds} rx q => by
      refine ⟨vw, p1, r.ext x1, s1, ?_⟩
      cases e2 : ms vw p1 with
      | bad => rw [e2] at q; exact q.elim
      | err x dv p2 => rw [e2] at q; exact ErrP.ext q x1
      | ok fs p2 =>
        rw [e2] at q
        exact fun H2 vs x2 s2 r2 => q H2 _ (x1.trans x2) s2 ((J.extL x2 rx).append r2)
    rw [← hK]
    cases d with
    | tup ds =>
      cases r1 with
      | tup s2 r2 => exact ⟨_, _, rfl, .inl s2, go r2 q⟩
    | lst ds =>
      cases r1 with
      | lst s2 r2 => exact ⟨_, _, rfl, .inr s2.sq, go r2 q⟩
    | _ => exact q.elim
/-! ### calls of built-ins by values -/
def OpN (J : Jc) (f : List D → Option D) (r : List V → Hp → VK → Prop) : Prop := ∀ (σ : St) (H : Hp) (Q : VK) (xs : List V) (ds : List D) (d : D), J.RL σ H xs ds → f ds = some d → (∀ (H' : Hp) (v : V), Grow H H' → J.R σ H' v d → Q v H') → r xs H Q
def mN (f : List D → Option D) (ms : MA) : ME := fun vw p => (ms vw p).bind fun ds p1 => ofO (f ds) p1
theorem ve_N {e' : Expr} {r : List V → Hp → VK → Prop} {f : List D → Option D} (h : PE X e' (tCB r (tA J ms))) (o : OpN J f r) : VE X J e' (mN f ms) := by
  refine pe_imp h fun σ H Q ⟨vw, p, rr, s, q⟩ => ⟨vw, p, rr, s, ?_⟩
  unfold mN at q
  cases e1 : ms vw p with
  | bad => rw [e1] at q; exact q.elim
  | err x dv p1 => rw [e1] at q; exact q
  | ok d p1 =>
    rw [e1] at q
    intro H1 v x1 s1 r1
    cases e2 : f d with
    | none => simp only [Res.bind, e2, ofO] at q; exact q.elim
    | some z =>
      simp only [Res.bind, e2, ofO] at q
      exact o σ H1 Q v d z r1 e2 fun H2 v2 g2 r2 => q H2 v2 (x1.trans g2.ext) (s1.grow g2) r2
theorem ve_callB {x : Str} {p : Pos} {id : String} {r : List V → Hp → VK → Prop} {f : List D → Option D} (hc : CallR X (.builtin id) r) (o : OpN J f r) (hm : X.mg x = none) (hv : bootBuiltins x = some (.builtin id)) (ha : VA X J (e :: es) ms) (hg : Gl X x := by rfl) (hn : x ≠ "__name__" := by decide)
    (hdb : (x == ("__debug__" : Str)) = false := by decide) (he : starEach (e :: es) X.env = (false, eval e X.env) :: starEach es X.env := by rfl) (hpl : (backTo pos (starEach es X.env)).any (·.1) = false := by rfl) :
    VE X J (.Call (.Name x p) (e :: es) [] pos) (mN f ms) := ve_N (pe_callB hc hg hm hv ha hn hdb he hpl) o
theorem ve_callTy {x : Str} {p : Pos} {T : String} {r : List V → Hp → VK → Prop} {f : List D → Option D} (hc : CallR X (.type T) r) (o : OpN J f r) (hm : X.mg x = none) (hv : bootBuiltins x = some (.type T)) (ha : VA X J (e :: es) ms) (hg : Gl X x := by rfl) (hn : x ≠ "__name__" := by decide)
    (hdb : (x == ("__debug__" : Str)) = false := by decide) (he : starEach (e :: es) X.env = (false, eval e X.env) :: starEach es X.env := by rfl) (hpl : (backTo pos (starEach es X.env)).any (·.1) = false := by rfl) :
    VE X J (.Call (.Name x p) (e :: es) [] pos) (mN f ms) := ve_N (pe_callTy hc hg hm hv ha hn hdb he hpl) o
/-- .. that make a new list -/
def OpNL (J : Jc) (f : List D → Option (List D)) (r : List V → Hp → VK → Prop) : Prop := ∀ (σ : St) (H : Hp) (Q : VK) (xs : List V) (ds ys : List D), J.RL σ H xs ds → f ds = some ys → (∀ (H' : Hp) (a : Addr) (vs : List V), Grow H H' → H' a = none → J.RL σ H' vs ys → Q (.ref a) (upd H' a (.lst vs))) → r xs H Q
def mNL (f : List D → Option (List D)) (ms : MA) : MA := fun vw p => (ms vw p).bind fun ds p1 => ofO (f ds) p1
theorem vn_N {e' : Expr} {r : List V → Hp → VK → Prop} {f : List D → Option (List D)} (h : PE X e' (tCB r (tA J ms))) (o : OpNL J f r) : VN X J e' (mNL f ms) := by
  refine pe_imp h fun σ H Q ⟨vw, p, rr, s, q⟩ => ⟨vw, p, rr, s, ?_⟩
  unfold mNL at q
  cases e1 : ms vw p with
  | bad => rw [e1] at q; exact q.elim
  | err x dv p1 => rw [e1] at q; exact q
  | ok d p1 =>
    rw [e1] at q
    intro H1 v x1 s1 r1
    cases e2 : f d with
    | none => simp only [Res.bind, e2, ofO] at q; exact q.elim
    | some z =>
      simp only [Res.bind, e2, ofO] at q
      exact o σ H1 Q v d z r1 e2 fun H2 a vs g2 hn r2 => q H2 a vs (x1.trans g2.ext) (s1.grow g2) hn r2
theorem vn_callTy {x : Str} {p : Pos} {T : String} {r : List V → Hp → VK → Prop} {f : List D → Option (List D)} (hc : CallR X (.type T) r) (o : OpNL J f r) (hm : X.mg x = none) (hv : bootBuiltins x = some (.type T)) (ha : VA X J (e :: es) ms) (hg : Gl X x := by rfl) (hn : x ≠ "__name__" := by decide)
    (hdb : (x == ("__debug__" : Str)) = false := by decide) (he : starEach (e :: es) X.env = (false, eval e X.env) :: starEach es X.env := by rfl) (hpl : (backTo pos (starEach es X.env)).any (·.1) = false := by rfl) :
    VN X J (.Call (.Name x p) (e :: es) [] pos) (mNL f ms) := vn_N (pe_callTy hc hg hm hv ha hn hdb he hpl) o
def dLen : List D → Option D
  | [.lst ds] => some (.int (ds.length : Nat))
  | [.tup ds] => some (.int (ds.length : Nat))
  | [.str x] => if x.length ≤ sizeLine then some (.int (x.length : Nat)) else none
  | [.scr ns] => some (.int (ns.length : Nat))
  | _ => none
theorem rep_scr {g : Gx} {co : CO} {H : Hp} {v : V} {ns : List Int} (r : Rep g co H v (.scr ns)) : ∃ a, v = .ref a ∧ SqL g.K H a (ns.map V.int) := by
  cases r with
  | scr h =>
    rcases h with ⟨o, h⟩ | h
    · exact ⟨_, rfl, FzL.sq ⟨o, h⟩⟩
    · exact ⟨_, rfl, h H⟩
theorem on_len (hK : J.g.K = X.K) : OpN J dLen (fun xs H Q => ∃ x n, xs = [x] ∧ LenV X.K x H n ∧ Q (.int n) H) := fun σ H Q xs ds d r e q => by
  rw [← hK]
  unfold dLen at e
  split at e
  · cases r with
    | cons r1 r2 =>
      cases r2
      cases r1 with
      | lst s1 t1 =>
        cases e
        exact ⟨_, _, rfl, .inl ⟨_, s1.sq, t1.length.symm⟩, g0 q (.int _)⟩
  · cases r with
    | cons r1 r2 =>
      cases r2
      cases r1 with
      | tup s1 t1 =>
        cases e
        exact ⟨_, _, rfl, .inr ⟨_, s1, t1.length.symm⟩, g0 q (.int _)⟩
  · cases r with
    | cons r1 r2 =>
      cases r2
      cases r1
      split at e
      · rename_i hz
        cases e
        exact ⟨_, _, rfl, ⟨hz, rfl⟩, g0 q (.int _)⟩
      · cases e
  · cases r with
    | cons r1 r2 =>
      cases r2
      obtain ⟨a, rfl, h⟩ := rep_scr r1
      cases e
      exact ⟨_, _, rfl, .inl ⟨_, h, by simp⟩, g0 q (.int _)⟩
  · cases e
def dAbs : List D → Option D
  | [.int i] => some (.int (if i < 0 then -i else i))
  | _ => none
theorem on_abs : OpN J dAbs (fun xs H Q => ∃ i, xs = [.int i] ∧ Q (.int (if i < 0 then -i else i)) H) := fun σ H Q xs ds d r e q => by
  unfold dAbs at e
  split at e
  · cases r with
    | cons r1 r2 =>
      cases r2; cases r1; cases e
      exact ⟨_, rfl, g0 q (.int _)⟩
  · cases e
def dMax2 : List D → Option D
  | [.int i, .int j] => some (.int (if j > i then j else i))
  | _ => none
def dMin2 : List D → Option D
  | [.int i, .int j] => some (.int (if j < i then j else i))
  | _ => none
theorem on_max2 : OpN J dMax2 (fun xs H Q => ∃ i j, xs = [.int i, .int j] ∧ Q (.int (if j > i then j else i)) H) := fun σ H Q xs ds d r e q => by
  unfold dMax2 at e
  split at e
  · cases r with
    | cons r1 r2 =>
      cases r2 with
      | cons r2 r3 =>
        cases r3; cases r2; cases r1; cases e
        exact ⟨_, _, rfl, g0 q (.int _)⟩
  · cases e
theorem on_min2 : OpN J dMin2 (fun xs H Q => ∃ i j, xs = [.int i, .int j] ∧ Q (.int (if j < i then j else i)) H) := fun σ H Q xs ds d r e q => by
  unfold dMin2 at e
  split at e
  · cases r with
    | cons r1 r2 =>
      cases r2 with
      | cons r2 r3 =>
        cases r3; cases r2; cases r1; cases e
        exact ⟨_, _, rfl, g0 q (.int _)⟩
  · cases e
def dInt : List D → Option D
  | [.int i] => some (.int i)
  | [.bl k] => some (.int (if k then 1 else 0))
  | _ => none
theorem on_int : OpN J dInt (fun xs H Q => (∃ i, xs = [.int i] ∧ Q (.int i) H) ∨ ∃ k, xs = [.bl k] ∧ Q (.int (if k then 1 else 0)) H) := fun σ H Q xs ds d r e q => by
  unfold dInt at e
  split at e
  · cases r with
    | cons r1 r2 =>
      cases r2; cases r1; cases e
      exact .inl ⟨_, rfl, g0 q (.int _)⟩
  · cases r with
    | cons r1 r2 =>
      cases r2; cases r1; cases e
      exact .inr ⟨_, rfl, g0 q (.int _)⟩
  · cases e
/-- tuple(x) -/
def dTuple : List D → Option D
  | [.lst ds] => some (.tup ds)
  | [.tup ds] => some (.tup ds)
  | _ => none
theorem on_tuple (hK : J.g.K = X.K) : OpN J dTuple (fun xs H Q => ∃ p ys, xs = [.ref p] ∧ ((SqL X.K H p ys ∧ ∀ l, H l = none → Q (.ref l) (upd H l (.tup ys))) ∨ (SqT X.K H p ys ∧ Q (.ref p) H))) := fun σ H Q xs ds d r e q => by
  rw [← hK]
  unfold dTuple at e
  split at e
  · cases r with
    | cons r1 r2 =>
      cases r2
      cases r1 with
      | lst s1 t1 =>
        cases e
        exact ⟨_, _, rfl, .inl ⟨s1.sq, fun l hl => tup_of hl t1 q⟩⟩
  · cases r with
    | cons r1 r2 =>
      cases r2
      cases r1 with
      | tup s1 t1 =>
        cases e
        exact ⟨_, _, rfl, .inr ⟨s1, g0 q (.tup s1 t1)⟩⟩
  · cases e
/-- list(x) -/
def dList : List D → Option (List D)
  | [.lst ds] => some ds
  | [.tup ds] => some ds
  | _ => none
theorem on_list (hK : J.g.K = X.K) : OpNL J dList (fun xs H Q => ∃ p ys, xs = [.ref p] ∧ (SqL X.K H p ys ∨ SqT X.K H p ys) ∧ ∀ l, H l = none → Q (.ref l) (upd H l (.lst ys))) := fun σ H Q xs ds d r e q => by
  rw [← hK]
  unfold dList at e
  split at e
  · cases r with
    | cons r1 r2 =>
      cases r2
      cases r1 with
      | lst s1 t1 =>
        cases e
        exact ⟨_, _, rfl, .inl s1.sq, fun l hl => q H l _ (fun _ _ k => k) hl t1⟩
  · cases r with
    | cons r1 r2 =>
      cases r2
      cases r1 with
      | tup s1 t1 =>
        cases e
        exact ⟨_, _, rfl, .inr s1, fun l hl => q H l _ (fun _ _ k => k) hl t1⟩
  · cases e
/-- isinstance(x, T), T a built-in class -/
def D.ty : D → Option String
  | .non => some "NoneType"
  | .bl _ => some "bool"
  | .int _ => some "int"
  | .str _ => some "str"
  | .tup _ => some "tuple"
  | .lst _ => some "list"
  | _ => none
theorem rep_ty {K : PySem.W.Frag} {J : Jc} {σ : St} {H : Hp} {v : V} {d : D} {t : String} (hK : J.g.K = K) (r : J.R σ H v d) (e : d.ty = some t) : TyX K H v (.type t) := by
  cases r with
  | non => cases e; exact .base .non
  | bl b => cases e; exact .base (.bl b)
  | int b => cases e; exact .base (.int b)
  | str b => cases e; exact .base (.str b)
  | tup s r =>
    cases e
    rcases s with (s | ⟨o, s⟩) | ⟨o, its, n, h1, h2, _⟩
    · exact .base (.tup s)
    · exact .fTuple s
    · exact .kTuple (hK ▸ h1) h2
  | lst s r =>
    cases e
    obtain ⟨o, s⟩ := s
    exact .base (.frz s)
  | _ => cases e
def mIsi (T : String) (m : ME) : ME := fun vw p => (m vw p).bind fun d p1 => match d.ty with
  | some t => ofO ((kitB t T).map D.bl) p1
  | none => .bad
theorem ve_isi {x : Str} {T : String} {p p2 : Pos} (hK : J.g.K = X.K) (ha : VE X J e ma) (hm : X.mg "isinstance" = none) (hmT : X.mg x = none) (hvT : bootBuiltins x = some (.type T)) (hg : Gl X "isinstance" := by rfl) (hgT : Gl X x := by rfl) (hn : x ≠ "__name__" := by decide)
    (hdb : (x == ("__debug__" : Str)) = false := by decide) (he : starEach [e, .Name x p2] X.env = (false, eval e X.env) :: starEach [.Name x p2] X.env := by rfl) :
    VE X J (.Call (.Name "isinstance" p) [e, .Name x p2] [] pos) (mIsi T ma) := by
  have h := pe_callB (p := p) (pos := pos) (call_isi (X := X)) hg hm (by decide +kernel) (pa_cons ha (pa_cons (pe_bltn (pos := p2) (v := .ty T) hgT hmT hvT rfl hn hdb) pa_nil) he) (he := he)
  refine pe_imp h fun σ H Q ⟨vw, p, rr, s, q⟩ => ⟨vw, p, rr, s, ?_⟩
  unfold mIsi at q
  cases e1 : ma vw p with
  | bad => rw [e1] at q; exact q.elim
  | err x dv p1 => rw [e1] at q; exact q
  | ok d p1 =>
    rw [e1] at q
    intro H1 v x1 s1 r1
    simp only [Res.bind] at q
    cases e2 : d.ty with
    | none => rw [e2] at q; exact q.elim
    | some t =>
      rw [e2] at q
      simp only at q
      cases e3 : kitB t T with
      | none => rw [e3] at q; exact q.elim
      | some b =>
        rw [e3] at q
        exact ⟨_, _, _, _, _, rfl, .ty T, rep_ty hK r1 e2, kit_ty e3, q H1 _ x1 s1 (.bl b)⟩
end
end VL

namespace VL
open PySem PySem.Spec PyProof.Rows L2 LamX
section
variable {X : Cx} {J : Jc} {a b c e : Expr} {es : List Expr} {ma mb mc : ME} {ms : MA} {pos : Pos}
/-! ### x[i] -/
def D.ix : D → D → Option D
  | .lst ds, .int i => atI ds i
  | .tup ds, .int i => atI ds i
  | .scr ns, .int i => (atI ns i).map D.int
  | .str z, .int i => if z.length ≤ sizeLine then (atI z.cps.toList i).map fun c => .str ⟨#[c]⟩ else none
  | _, _ => none
theorem RepL.atI {g : Gx} {co : CO} {H : Hp} {vs : List V} {ds : List D} {i : Int} {d : D} (r : RepL g co H vs ds) (e : atI ds i = some d) : ∃ v, atI vs i = some v ∧ Rep g co H v d := by
  unfold L2.atI at e ⊢
  rw [r.length]
  cases h : ixN ds.length i with
  | none => rw [h] at e; cases e
  | some j =>
    rw [h] at e
    exact r.get e
theorem atI_map {α β : Type} (f : α → β) (xs : List α) (i : Int) : atI (xs.map f) i = (atI xs i).map f := by
  unfold L2.atI
  rw [List.length_map]
  cases h : ixN xs.length i with
  | none => rfl
  | some j => simp
theorem op2_ix (hK : J.g.K = X.K) : Op2 J D.ix (rIx X.K) := fun σ H Q x y dx dy d rx ry e q => by
  rw [← hK]
  unfold D.ix at e
  split at e
  · cases rx with
    | lst s r =>
      cases ry
      obtain ⟨v, h1, h2⟩ := r.atI e
      exact .inl ⟨_, _, _, _, rfl, rfl, s.sq, h1, g0 q h2⟩
  · cases rx with
    | tup s r =>
      cases ry
      obtain ⟨v, h1, h2⟩ := r.atI e
      exact .inr (.inl ⟨_, _, _, _, rfl, rfl, s, h1, g0 q h2⟩)
  · rename_i ns i
    obtain ⟨a, rfl, h⟩ := rep_scr rx
    cases ry
    cases h2 : atI ns i with
    | none => rw [h2] at e; cases e
    | some n =>
      rw [h2] at e
      cases e
      exact .inl ⟨_, _, _, .int n, rfl, rfl, h, by rw [atI_map, h2]; rfl, g0 q (.int n)⟩
  · rename_i z i
    cases rx
    cases ry
    split at e
    · rename_i hz
      cases h2 : atI z.cps.toList i with
      | none => rw [h2] at e; cases e
      | some n =>
        rw [h2] at e
        cases e
        exact .inr (.inr ⟨_, _, n, rfl, rfl, hz, h2, g0 q (.str _)⟩)
    · cases e
  · cases e
theorem ve_ix (hK : J.g.K = X.K) (ha : VE X J a ma) (hb : VE X J b mb) (hs : PlainIx b) : VE X J (.Subscript a b pos) (m2 D.ix ma mb) := ve_two (pe_ix ix_seq ha hb hs) (op2_ix hK)
/-! ### x[i:j] -/
def cutL {α : Type} (xs : List α) (lo hi : Option Int) : List α := (xs.drop (HT.sIx xs.length 0 lo)).take (HT.sIx xs.length xs.length hi - HT.sIx xs.length 0 lo)
def D.slice : D → Option Int → Option Int → Option D
  | .lst ds, lo, hi => some (.lst (cutL ds lo hi))
  | .tup ds, lo, hi => some (.tup (cutL ds lo hi))
  | .str z, lo, hi => if z.length ≤ sizeLine then some (.str (cutS z lo hi)) else none
  | .scr ns, lo, hi => some (.lst ((cutL ns lo hi).map D.int))
  | _, _, _ => none
theorem RepL.cut {g : Gx} {co : CO} {H : Hp} {vs : List V} {ds : List D} (lo hi : Option Int) (r : RepL g co H vs ds) : RepL g co H (cutV vs lo hi) (cutL ds lo hi) := by
  unfold L2.cutV cutL
  rw [r.length]
  exact (r.drop _).take _
abbrev MO := Vw → P3 → Res (Option Int)
def oNo : MO := fun _ p => .ok none p
def oSome (m : ME) : MO := fun vw p => (m vw p).bind fun d p1 => match d with
  | .int i => .ok (some i) p1
  | _ => .bad
def PO3 (J : Jc) (σ : St) (H : Hp) (Q : Option Int → Hp → Prop) : Res (Option Int) → Prop
  | .ok o p => ∀ (H' : Hp), Ext J.g H H' → StR J.g H' p → Q o H'
  | .err x dv p => ErrP J σ H x dv p
  | .bad => False
def tO (J : Jc) (m : MO) : TO := fun σ H Q => ∃ vw p, VRep J σ H vw ∧ StR J.g H p ∧ PO3 J σ H Q (m vw p)
abbrev VO (X : Cx) (J : Jc) (e : Option Expr) (m : MO) : Prop := PO X e (tO J m)
theorem po_imp {o : Option Expr} {t t' : TO} (h : PO X o t) (i : ∀ σ H Q, t' σ H Q → t σ H Q) : PO X o t' := ⟨fun pins s σ H Q I q => h.run pins s σ H Q I (i σ H Q q)⟩
theorem vo_no : VO X J none oNo := po_imp po_none fun σ H Q ⟨vw, p, _, s, q⟩ => q H .refl s
theorem vo_some (h : VE X J e ma) : VO X J (some e) (oSome ma) := by
  refine po_imp (po_some h) fun σ H Q ⟨vw, p, rr, s, q⟩ => ⟨vw, p, rr, s, ?_⟩
  unfold oSome at q
  cases e1 : ma vw p with
  | bad => rw [e1] at q; exact q.elim
  | err x dv p1 => rw [e1] at q; exact q
  | ok d p1 =>
    rw [e1] at q
    intro H1 v x1 s1 r1
    cases d with
    | int i =>
      cases r1
      exact ⟨i, rfl, q H1 x1 s1⟩
    | _ => exact q.elim
def mSl (m : ME) (ml mh : MO) : ME := fun vw p => (m vw p).bind fun d p1 => (ml vw p1).bind fun lo p2 => (mh vw p2).bind fun hi p3 => ofO (d.slice lo hi) p3
def rSlAll (K : PySem.W.Frag) : V → Option Int → Option Int → Hp → VK → Prop := fun x lo hi H Q => rSlL K x lo hi H Q ∨ rSlA K x lo hi H Q ∨ rSlS x lo hi H Q
theorem sl_all : SlR X (rSlAll X.K) := sl_list.or (sl_tupA.or sl_str)
theorem sl_logic {K : PySem.W.Frag} (hK : J.g.K = K) {σ : St} {H : Hp} {Q : VK} {v : V} {d z : D} {lo hi : Option Int} (r : J.R σ H v d) (e : d.slice lo hi = some z) (q : ∀ (H' : Hp) (v : V), Grow H H' → J.R σ H' v z → Q v H') : rSlAll K v lo hi H (Fz Q) := by
  rw [← hK]
  unfold D.slice at e
  split at e
  · cases r with
    | lst s r =>
      cases e
      exact .inl ⟨_, _, rfl, s.sq, fun p hp => fz_of (d := .non) hp (r.cut lo hi) q⟩
  · cases r with
    | tup s r =>
      cases e
      refine .inr (.inl ⟨_, _, rfl, s, fun ⟨h1, h2⟩ => .inl ?_, fun _ p hp => .inl (tup_of hp (r.cut lo hi) q)⟩)
      refine g0 q (.tup s ?_)
      have w := r.cut lo hi
      have e2 : ∀ {α : Type} (l : List α), HT.sIx l.length 0 lo = 0 → HT.sIx l.length l.length hi = l.length → cutL l lo hi = l := fun l h1 h2 => by
        unfold cutL
        rw [h1, h2]
        simp
      rw [show cutL _ lo hi = _ from e2 _ (by rw [← r.length]; exact h1) (by rw [← r.length]; exact h2)]
      exact r
  · cases r
    split at e
    · rename_i hz
      cases e
      exact .inr (.inr ⟨_, rfl, hz, .inl (g0 q (.str _))⟩)
    · cases e
  · obtain ⟨a, rfl, h⟩ := rep_scr r
    cases e
    refine .inl ⟨_, _, rfl, h, fun p hp => fz_of (d := .non) hp ?_ q⟩
    have go : ∀ l : List Int, RepL J.g (J.co H) H (l.map V.int) (l.map D.int) := fun l => by
      induction l with
      | nil => exact .nil
      | cons x l ih => exact .cons (.int x) ih
    have e3 : ∀ l : List Int, cutV (l.map V.int) lo hi = (cutL l lo hi).map V.int := fun l => by
      unfold cutV cutL
      rw [List.length_map, ← List.map_drop, ← List.map_take]
    rw [e3]
    exact go _
  · cases e
theorem ve_slice {lo hi : Option Expr} {ml mh : MO} {p2 : Pos} (hK : J.g.K = X.K) (he : VE X J e ma) (hl : VO X J lo ml) (hu : VO X J hi mh) : VE X J (.Subscript e (.Slice lo hi none p2) pos) (mSl ma ml mh) := by
  refine pe_imp (pe_fz (pe_slice (p2 := p2) (sl_all (X := X)) he hl hu)) fun σ H Q ⟨vw, p, rr, s, q⟩ => ⟨vw, p, rr, s, ?_⟩
  unfold mSl at q
  cases e1 : ma vw p with
  | bad => rw [e1] at q; exact q.elim
  | err x dv p1 => rw [e1] at q; exact q
  | ok d p1 =>
    rw [e1] at q
    intro H1 v x1 s1 r1
    refine ⟨vw, p1, rr.ext x1, s1, ?_⟩
    simp only [Res.bind] at q
    cases e2 : ml vw p1 with
    | bad => rw [e2] at q; exact q.elim
    | err x dv p2 => rw [e2] at q; exact ErrP.ext q x1
    | ok l p2 =>
      rw [e2] at q
      intro H2 x2 s2
      have x12 := x1.trans x2
      refine ⟨vw, p2, rr.ext x12, s2, ?_⟩
      simp only at q
      cases e3 : mh vw p2 with
      | bad => rw [e3] at q; exact q.elim
      | err x dv p2 => rw [e3] at q; exact ErrP.ext q x12
      | ok u p3 =>
        rw [e3] at q
        intro H3 x3 s3
        simp only at q
        cases e4 : d.slice l u with
        | none => rw [e4] at q; exact q.elim
        | some z =>
          rw [e4] at q
          exact sl_logic hK (J.ext (x2.trans x3) r1) e4 fun H4 v4 g4 r4 => q H4 v4 ((x12.trans x3).trans g4.ext) (s3.grow g4) r4
/-! ### x[::-1] -/
theorem sliceApplied_rev {prog : Program} {w : World} {A : Around} {E : Value → Shared → Prop} {s : Shared} {sl : Addr} {vl vu vs : Value} {n : Nat} {Q : Int × Int × Nat → Shared → Prop} (hs : s.heap.IsSliceOf sl vl vu vs) (pl : IsPart vl none) (pu : IsPart vu none) (ps : IsPart vs (some (-1)))
    (h : Q ((n : Int) - 1, -1, n) s) : wpAny (model prog w) A (Builtin.Slice.sliceApplied (.ref sl) (pure (n : Int))) Q E s := by
  obtain ⟨os, hos, hcs, hds⟩ := id hs
  unfold Builtin.Slice.sliceApplied Builtin.Slice.sliceFields
  refine wpAny_bind (wpAny_bind (wpAny_field hos hds (x := vl) rfl (wpAny_bind (wpAny_field hos hds (x := vu) rfl (wpAny_bind (wpAny_field hos hds (x := vs) rfl (wpAny_pure ?_)))))))
  refine wpAny_bind (HT.slicePart_ ps ?_)
  show wpAny _ _ (if ((-1 : Int) == 0) = true then _ else _) _ _ s
  rw [if_neg (by decide)]
  refine wpAny_bind (HT.slicePart_ pl (wpAny_bind (HT.slicePart_ pu (wpAny_bind (wpAny_pure ?_)))))
  show wpAny _ _ (match Builtin.Slice.sliceAdjust none none (-1) (n : Int) with | (lo, hi) => pure (lo, (-1 : Int), Builtin.Slice.slicePlaces lo hi (-1))) _ _ s
  have e1 : Builtin.Slice.sliceAdjust none none (-1) (n : Int) = ((n : Int) - 1, -1) := by
    unfold Builtin.Slice.sliceAdjust
    simp
  rw [e1]
  show wpAny _ _ (pure ((n : Int) - 1, (-1 : Int), Builtin.Slice.slicePlaces ((n : Int) - 1) (-1) (-1))) _ _ s
  have e2 : Builtin.Slice.slicePlaces ((n : Int) - 1) (-1) (-1) = n := by
    unfold Builtin.Slice.slicePlaces
    simp
    omega
  rw [e2]
  exact wpAny_pure h
theorem pick_rev (xs : Array Value) : ((List.range xs.size).filterMap fun (m : Nat) => xs[(((xs.size : Nat) : Int) - 1 + (m : Int) * (-1)).toNat]?).toArray = xs.toList.reverse.toArray := by
  congr 1
  apply List.ext_getElem?
  intro i
  have all : ∀ m ∈ List.range xs.size, (fun (m : Nat) => xs[(((xs.size : Nat) : Int) - 1 + (m : Int) * (-1)).toNat]?) m = some (xs.toList.reverse.getD m .none) := by
    intro m hm
    have hm' := List.mem_range.mp hm
    have e : (((xs.size : Nat) : Int) - 1 + (m : Int) * (-1)).toNat = xs.size - 1 - m := by omega
    have hl : m < xs.toList.reverse.length := by simpa using hm'
    rw [List.getD_eq_getElem?_getD, List.getElem?_eq_getElem hl]
    simp only [e, Option.getD_some]
    rw [List.getElem_reverse]
    simp only [Array.length_toList]
    rw [Array.getElem?_eq_getElem (by omega)]
    simp
  have fm : ∀ (l : List Nat) (f : Nat → Option Value) (g : Nat → Value), (∀ m ∈ l, f m = some (g m)) → l.filterMap f = l.map g := by
    intro l f g
    induction l with
    | nil => intro _; rfl
    | cons a l ih =>
      intro h
      rw [List.filterMap_cons, h a List.mem_cons_self, List.map_cons, ih fun m hm => h m (List.mem_cons_of_mem _ hm)]
  rw [fm _ _ _ all, List.getElem?_map]
  by_cases hi : i < xs.size
  · rw [List.getElem?_range hi]
    have hl : i < xs.toList.reverse.length := by simpa using hi
    simp only [Option.map_some]
    rw [List.getD_eq_getElem?_getD, List.getElem?_eq_getElem hl]
    rfl
  · rw [List.getElem?_eq_none (by simpa using Nat.le_of_not_lt hi), List.getElem?_eq_none (by simpa using Nat.le_of_not_lt hi)]
    rfl
theorem getItem_tuple_rev {prog : Program} {w : World} {A : Around} {E : Value → Shared → Prop} {s : Shared} {t sl : Addr} {items : Array Value} {vl vu vs : Value} {Q : Value → Shared → Prop} (ht : IsTup s.heap t items) (hs : s.heap.IsSliceOf sl vl vu vs) (pl : IsPart vl none) (pu : IsPart vu none) (ps : IsPart vs (some (-1)))
    (h : Q (.ref s.heap.objs.size) { s with heap := s.heap.push { cls := .type "tuple", data := .seq items.toList.reverse.toArray } }) (hsz : items.size ≤ sizeLine) : wpAny (model prog w) A (getItem (.ref t) (.ref sl)) Q E s := by
  have htake : sizeOk (.seq items.toList.reverse.toArray) := by
    show items.toList.reverse.toArray.size ≤ sizeLine
    rw [List.size_toArray, List.length_reverse, Array.length_toList]
    exact hsz
  obtain ⟨os, hos, hcs, hds⟩ := id hs
  have hTs : s.TypeIs (.ref sl) "slice" := ⟨os, hos, hcs⟩
  unfold getItem
  try with_reducible refine wpAny_holding ?_
  first | refine wpAny_bind (wpAny_pure ?_) | skip
  refine wpAny_bind (wpAny_sequenceKey ht.typeIs (by decide) ?_)
  refine wpAny_bind (wpAny_callSpecial?_slot (name := Str.ofString "__getitem__") ht.typeIs PyProof.Rows.slot_tuple_getitem
    (wpAny_call_entry PyProof.Rows.slot_tuple_getitem ht.typeIs entry_tuple_getitem ?_ (args_tuple_getitem _ _)))
  show wpAny _ _ (Builtin.Tuple.tupleItemsOf (.ref t) >>= _) _ _ s
  refine wpAny_bind (tupleItemsOf_ ht ?_)
  refine wpAny_bind (wpAny_typeOf hTs ?_)
  rw [if_pos (by decide)]
  refine wpAny_bind (sliceApplied_rev hs pl pu ps ?_)
  have hno : ¬ ((((items.size : Nat) : Int) - 1 == 0 && (-1 : Int) == 1 && items.size == items.size) = true) := by simp
  show wpAny _ _ (if (((items.size : Nat) : Int) - 1 == 0 && (-1 : Int) == 1 && items.size == items.size) = true then _ else _) _ _ s
  rw [if_neg hno, pick_rev]
  first
    | exact wpAny_bind (m := Builtin.Tuple.tupleExact _) (wpAny_newObj_type (wpAny_pure ⟨_, rfl, wpAny_pure h⟩) htake)
    | exact wpAny_bind (m := Builtin.Tuple.tupleExact _) (wpAny_newObj_type (wpAny_bind (wpAny_pure (wpAny_pure ⟨_, rfl, wpAny_pure h⟩))) htake)
    | exact wpAny_bind (wpAny_bind (m := Builtin.Tuple.tupleExact _) (wpAny_newObj_type (wpAny_pure (wpAny_pure ⟨_, rfl, wpAny_pure h⟩)) htake))
    | exact wpAny_bind (wpAny_bind (m := Builtin.Tuple.tupleExact _) (wpAny_newObj_type (wpAny_pure ⟨_, rfl, wpAny_pure h⟩) htake))
def D.rev : D → Option D
  | .lst ds => some (.lst ds.reverse)
  | .tup ds => some (.tup ds.reverse)
  | _ => none
def tRevA (K : PySem.W.Frag) (te : TE) : TE := fun σ H Q => te σ H fun x H1 => ∃ a xs, x = .ref a ∧ ((SqL K H1 a xs ∧ ∀ p, H1 p = none → Q (.ref p) (upd H1 p (.lst xs.reverse))) ∨ (SqT K H1 a xs ∧ ∀ p, H1 p = none → Q (.ref p) (upd H1 p (.tup xs.reverse))))
theorem pe_revA {te : TE} {k : Nat} {p1 p2 p3 : Pos} (he : PE X e te) : PE X (.Subscript e (.Slice none none (some (.UnaryOp .USub (.Constant (.int 1) k p1) p2)) p3) pos) (tRevA X.K te) := by
  refine ⟨fun pins s σ H Q I h => ?_⟩
  refine Subscript_ (thn (he.run pins s σ H _ I h) fun v s1 ⟨x, H1, I1, r1, a, xs, ex, q1⟩ => ?_)
  subst ex
  cases r1
  have hst : PO X (some (.UnaryOp .USub (.Constant (.int 1) k p1) p2)) (tPart (tUn (rU fun i => .int (-i)) (tC (.int 1)))) := po_some (pe_un un_neg pe_int)
  refine wpAny_Slice (thn (po_none.run pins s1 σ H1 (fun o H2 => o = none ∧ H2 = H1) I1 ⟨rfl, rfl⟩) fun vl s2 ⟨l, H2, I2, pl, el, e2⟩ => ?_)
  subst el e2
  refine thn (po_none.run pins s2 σ H2 (fun o H3 => o = none ∧ H3 = H2) I2 ⟨rfl, rfl⟩) fun vu s3 ⟨u, H3, I3, pu, eu, e3⟩ => ?_
  subst eu e3
  refine thn (hst.run pins s3 σ H3 (fun o H4 => o = some (-1) ∧ H4 = H3) I3 ⟨1, rfl, -1, rfl, rfl, rfl⟩) fun vs s4 ⟨o, H4, I4, ps, eo, e4⟩ => ?_
  subst eo e4
  have I5 : Inv X pins σ H4 { s4 with heap := s4.heap.push { cls := .type "slice", data := .fields #[vl, vu, vs] } } := I4.kept (t' := s4.toks) fun b ob q => Heap.get?_push_of_some _ q
  show wpAny (model X.prog X.w) X.A (subscriptTail e (.Slice none none (some (.UnaryOp .USub (.Constant (.int 1) k p1) p2)) p3) (.ref a) (.ref s4.heap.objs.size)) (EP X pins σ Q) X.xe { s4 with heap := s4.heap.push { cls := .type "slice", data := .fields #[vl, vu, vs] } }
  rcases q1 with ⟨hx, q⟩ | ⟨hx, q⟩
  · obtain ⟨its, r, ht, hz⟩ := I5.list hx
    have hlen := r.length
    refine tail_any (ops := [.ref a, .ref s4.heap.objs.size]) ht.isList.typeIs (PySem.slot_list_getitem.lookup) ?_ (by with_unfolding_all rfl)
    refine wpAny_getItem_list_slice ht.isList (Heap.IsSliceOf.new _ vl vu vs) pl pu ps (by decide) ?_ (by rw [List.size_toArray]; omega)
    rw [PySem.W.krv_pick]
    refine ⟨.ref _, _, I5.laid (t' := s4.toks) (o := .lst xs.reverse) (fun b ob q => Heap.get?_push_of_some _ q) (Nat.le_refl _) ?_, rfl, q _ (I5.hok.fresh (Nat.le_refl _))⟩
    exact ⟨by rw [List.length_reverse]; exact hz, _, 0, r.reverse, Heap.get?_push_size _ rfl⟩
  · obtain ⟨its, r, ht, hz⟩ := I5.tuple hx
    have hlen := r.length
    refine tail_any (ops := [.ref a, .ref s4.heap.objs.size]) ht.typeIs (PyProof.Rows.slot_tuple_getitem.lookup) ?_ (by with_unfolding_all rfl)
    refine getItem_tuple_rev ht (Heap.IsSliceOf.new _ vl vu vs) pl pu ps ?_ (by rw [List.size_toArray]; omega)
    refine ⟨.ref _, _, I5.laid (t' := s4.toks) (o := .tup xs.reverse) (fun b ob q => Heap.get?_push_of_some _ q) (Nat.le_refl _) ?_, rfl, q _ (I5.hok.fresh (Nat.le_refl _))⟩
    exact ⟨by rw [List.length_reverse]; exact hz, _, r.reverse, IsTup.new _ _⟩
theorem ve_rev {k : Nat} {p1 p2 p3 : Pos} (hK : J.g.K = X.K) (he : VE X J e ma) : VE X J (.Subscript e (.Slice none none (some (.UnaryOp .USub (.Constant (.int 1) k p1) p2)) p3) pos) (m1 D.rev ma) := by
  refine ve_one (r := fun x H Q => ∃ a xs, x = .ref a ∧ ((SqL X.K H a xs ∧ ∀ p, H p = none → Fz Q (.ref p) (upd H p (.lst xs.reverse))) ∨ (SqT X.K H a xs ∧ ∀ p, H p = none → Fz Q (.ref p) (upd H p (.tup xs.reverse))))) (pe_fz (pe_revA he)) fun σ H Q x dx d rx e q => ?_
  rw [← hK]
  unfold D.rev at e
  split at e
  · cases rx with
    | lst s r =>
      cases e
      exact ⟨_, _, rfl, .inl ⟨s.sq, fun p hp => fz_of (d := .non) hp r.reverse q⟩⟩
  · cases rx with
    | tup s r =>
      cases e
      exact ⟨_, _, rfl, .inr ⟨s, fun p hp => .inl (tup_of hp r.reverse q)⟩⟩
  · cases e
/-! ### repr, min, max, sum, any, all -/
def D.repr (d : D) : Option D := if d.plain 60 && d.py.showable && decide (d.py.shown.length ≤ sizeLine) then some (.str d.py.shown) else none
theorem call_reprD (hu : X.A.units + 70 < cLine) (hgd : X.A.guards = some []) : CallR X (.builtin "repr") (fun xs H Q => ∃ x d, xs = [x] ∧ Dp X.K H x d ∧ SeqAt.shaped d = true ∧ d.showable = true ∧ d.shown.length ≤ sizeLine ∧ Q (.str d.shown) H) := by
  intro pins s σ H xs us Q I r h
  obtain ⟨x, d, rfl, hd, sh, hs, hz, q⟩ := h
  obtain ⟨u, rfl, rx⟩ := vals1 r
  obtain ⟨as, rd⟩ := Dp.reads I d x u hd rx
  have hd0 : d.hasDict = false := PyData.hasDict_of_canLay d (SeqAt.canLay_of_shaped sh)
  have dep := SeqAt.depth_of_shaped sh
  have fin : ∀ (h' : Heap) (t : Tok) (tk : Nat), (∀ b o, s.heap.get? b = some o → h'.get? b = some o) → EP X pins σ Q (.str d.shown t) { s with heap := h', toks := tk } := fun h' t tk hk => ⟨.str d.shown, H, I.kept hk, ⟨_, rfl⟩, q⟩
  cases rd with
  | none => exact PySem.P.repr_of_none (fin _ _ _ fun _ _ k => k)
  | bool b => exact PySem.P.repr_of_bool (fin _ _ _ fun _ _ k => k)
  | int i t => exact PySem.P.repr_of_int (by simpa [PyData.showable] using hs) (fin _ _ _ fun _ _ k => k)
  | str y t => exact PySem.P.repr_of_str (fin _ _ _ fun _ _ k => k) hz
  | list h1 h2 h3 h4 => exact repr_of_reads' (.list h1 h2 h3 h4) hs (fun z => by rw [hd0] at z; cases z) hgd (by omega) (fun _ _ k => k) (fun h' t tk hk => fin h' t tk hk) hz
  | tuple h1 h2 h3 h4 => exact repr_of_reads' (.tuple h1 h2 h3 h4) hs (fun z => by rw [hd0] at z; cases z) hgd (by omega) (fun _ _ k => k) (fun h' t tk hk => fin h' t tk hk) hz
  | dict h1 h2 h3 h4 h5 => simp [PyData.hasDict] at hd0
def dRepr : List D → Option D
  | [d] => d.repr
  | _ => none
theorem on_repr (hK : J.g.K = X.K) : OpN J dRepr (fun xs H Q => ∃ x d, xs = [x] ∧ Dp X.K H x d ∧ SeqAt.shaped d = true ∧ d.showable = true ∧ d.shown.length ≤ sizeLine ∧ Q (.str d.shown) H) := fun σ H Q xs ds d r e q => by
  rw [← hK]
  unfold dRepr at e
  split at e
  · cases r with
    | cons r1 r2 =>
      cases r2
      unfold D.repr at e
      split at e
      · rename_i hc
        cases e
        rw [Bool.and_eq_true, Bool.and_eq_true, decide_eq_true_eq] at hc
        exact ⟨_, _, rfl, r1.dp _ hc.1.1, D.shaped hc.1.1, hc.1.2, hc.2, g0 q (.str _)⟩
      · cases e
  · cases e
/-- all items ints, bools -/
def D.ints : List D → Option (List Int)
  | [] => some []
  | .int i :: ds => (D.ints ds).map (i :: ·)
  | _ :: _ => none
def D.bools : List D → Option (List Bool)
  | [] => some []
  | .bl i :: ds => (D.bools ds).map (i :: ·)
  | _ :: _ => none
theorem RepL.ints {g : Gx} {co : CO} {H : Hp} : ∀ {vs : List V} {ds : List D} {ns : List Int}, RepL g co H vs ds → D.ints ds = some ns → vs = ns.map V.int
  | _, _, _, .nil, e => by cases e; rfl
  | _, _, ns, .cons (d := d) (ds := ds) r t, e => by
    cases d with
    | int i =>
      cases r
      unfold D.ints at e
      cases h : D.ints ds with
      | none => rw [h] at e; cases e
      | some ms =>
        rw [h] at e
        cases e
        rw [RepL.ints t h]
        rfl
    | _ => simp [D.ints] at e
theorem RepL.bools {g : Gx} {co : CO} {H : Hp} : ∀ {vs : List V} {ds : List D} {ns : List Bool}, RepL g co H vs ds → D.bools ds = some ns → vs = ns.map V.bl
  | _, _, _, .nil, e => by cases e; rfl
  | _, _, ns, .cons (d := d) (ds := ds) r t, e => by
    cases d with
    | bl i =>
      cases r
      unfold D.bools at e
      cases h : D.bools ds with
      | none => rw [h] at e; cases e
      | some ms =>
        rw [h] at e
        cases e
        rw [RepL.bools t h]
        rfl
    | _ => simp [D.bools] at e
def dAll : List D → Option D
  | [.lst ds] => (D.bools ds).map fun bs => .bl (bs.all id)
  | _ => none
def dAny : List D → Option D
  | [.lst ds] => (D.bools ds).map fun bs => .bl (bs.any id)
  | _ => none
theorem on_all (hK : J.g.K = X.K) : OpN J dAll (rAll X.K) := fun σ H Q xs ds d r e q => by
  rw [← hK]
  unfold dAll at e
  split at e
  · rename_i ds
    cases r with
    | cons r1 r2 =>
      cases r2
      cases r1 with
      | lst s t =>
        cases h : D.bools ds with
        | none => rw [h] at e; cases e
        | some bs =>
          rw [h] at e
          cases e
          exact ⟨_, bs, rfl, (t.bools h) ▸ s.sq, g0 q (.bl _)⟩
  · cases e
theorem on_any (hK : J.g.K = X.K) : OpN J dAny (rAny X.K) := fun σ H Q xs ds d r e q => by
  rw [← hK]
  unfold dAny at e
  split at e
  · rename_i ds
    cases r with
    | cons r1 r2 =>
      cases r2
      cases r1 with
      | lst s t =>
        cases h : D.bools ds with
        | none => rw [h] at e; cases e
        | some bs =>
          rw [h] at e
          cases e
          exact ⟨_, bs, rfl, (t.bools h) ▸ s.sq, g0 q (.bl _)⟩
  · cases e
def dSum : List D → Option D
  | [.lst ds] => (D.ints ds).map fun ns => .int ns.sum
  | [.scr ns] => some (.int ns.sum)
  | _ => none
theorem on_sum (hK : J.g.K = X.K) : OpN J dSum (rSum X.K) := fun σ H Q xs ds d r e q => by
  rw [← hK]
  unfold dSum at e
  split at e
  · rename_i ds
    cases r with
    | cons r1 r2 =>
      cases r2
      cases r1 with
      | lst s t =>
        cases h : D.ints ds with
        | none => rw [h] at e; cases e
        | some bs =>
          rw [h] at e
          cases e
          exact ⟨_, bs, rfl, (t.ints h) ▸ s.sq, g0 q (.int _)⟩
  · rename_i ns
    cases r with
    | cons r1 r2 =>
      cases r2
      obtain ⟨a, rfl, h⟩ := rep_scr r1
      cases e
      exact ⟨_, ns, rfl, h, g0 q (.int _)⟩
  · cases e
def maxI : List Int → Option Int
  | [] => none
  | n :: ns => some (ns.foldl max n)
def minI : List Int → Option Int
  | [] => none
  | n :: ns => some (ns.foldl min n)
theorem foldl_max (ns : List Int) (n m : Int) (hm : m = n ∨ m ∈ ns) (h : ∀ y, y = n ∨ y ∈ ns → y ≤ m) : ns.foldl max n = m := by
  induction ns generalizing n with
  | nil =>
    rcases hm with rfl | hm
    · rfl
    · cases hm
  | cons a l ih =>
    rw [List.foldl_cons]
    have h1 := h n (.inl rfl)
    have h2 := h a (.inr List.mem_cons_self)
    refine ih (max n a) ?_ fun y hy => ?_
    · rcases hm with rfl | hm
      · left; omega
      · rcases List.mem_cons.mp hm with rfl | hm
        · left; omega
        · right; exact hm
    · rcases hy with rfl | hy
      · omega
      · exact h y (.inr (List.mem_cons_of_mem _ hy))
theorem foldl_min (ns : List Int) (n m : Int) (hm : m = n ∨ m ∈ ns) (h : ∀ y, y = n ∨ y ∈ ns → m ≤ y) : ns.foldl min n = m := by
  induction ns generalizing n with
  | nil =>
    rcases hm with rfl | hm
    · rfl
    · cases hm
  | cons a l ih =>
    rw [List.foldl_cons]
    have h1 := h n (.inl rfl)
    have h2 := h a (.inr List.mem_cons_self)
    refine ih (min n a) ?_ fun y hy => ?_
    · rcases hm with rfl | hm
      · left; omega
      · rcases List.mem_cons.mp hm with rfl | hm
        · left; omega
        · right; exact hm
    · rcases hy with rfl | hy
      · omega
      · exact h y (.inr (List.mem_cons_of_mem _ hy))
def dMax1 : List D → Option D
  | [.lst ds] => (D.ints ds).bind fun ns => (maxI ns).map D.int
  | _ => none
def dMin1 : List D → Option D
  | [.lst ds] => (D.ints ds).bind fun ns => (minI ns).map D.int
  | _ => none
theorem on_max (hK : J.g.K = X.K) : OpN J dMax1 (rMax X.K) := fun σ H Q xs ds d r e q => by
  rw [← hK]
  unfold dMax1 at e
  split at e
  · rename_i ds
    cases r with
    | cons r1 r2 =>
      cases r2
      cases r1 with
      | lst s t =>
        cases h : D.ints ds with
        | none => rw [h] at e; cases e
        | some bs =>
          rw [h] at e
          cases bs with
          | nil => cases e
          | cons n ns =>
            cases e
            refine ⟨_, n :: ns, rfl, (t.ints h) ▸ s.sq, Nat.succ_pos _, fun m hm hall => ?_⟩
            rw [foldl_max ns n m (List.mem_cons.mp hm) fun y hy => hall y (List.mem_cons.mpr hy)] at q
            exact g0 q (.int _)
  · cases e
theorem on_min (hK : J.g.K = X.K) : OpN J dMin1 (rMin X.K) := fun σ H Q xs ds d r e q => by
  rw [← hK]
  unfold dMin1 at e
  split at e
  · rename_i ds
    cases r with
    | cons r1 r2 =>
      cases r2
      cases r1 with
      | lst s t =>
        cases h : D.ints ds with
        | none => rw [h] at e; cases e
        | some bs =>
          rw [h] at e
          cases bs with
          | nil => cases e
          | cons n ns =>
            cases e
            refine ⟨_, n :: ns, rfl, (t.ints h) ▸ s.sq, Nat.succ_pos _, fun m hm hall => ?_⟩
            rw [foldl_min ns n m (List.mem_cons.mp hm) fun y hy => hall y (List.mem_cons.mpr hy)] at q
            exact g0 q (.int _)
  · cases e
/-- -x -/
def D.usub : D → Option D
  | .int i => some (.int (-i))
  | _ => none
theorem ve_neg (ha : VE X J a ma) : VE X J (.UnaryOp .USub a pos) (m1 D.usub ma) := by
  refine ve_one (pe_un un_neg ha) fun σ H Q x dx d rx e q => ?_
  unfold D.usub at e
  split at e
  · cases rx; cases e
    exact ⟨_, rfl, g0 q (.int _)⟩
  · cases e
end
end VL

namespace VL
open PySem PySem.Spec PyProof.Rows L2 LamX
/-! ### defs and their mirrors -/
abbrev coN : CO := ⟨fun _ _ _ => False, fun _ _ => False⟩
theorem coN_le {c : CO} : coN.le c := ⟨fun _ _ _ h => h.elim, fun _ _ h => h.elim⟩
/-- no closures here -/
def jP (g : Gx) (W : WX) : Jc := ⟨g, fun _ => coN, W, fun _ _ _ => .refl⟩
def PF (g : Gx) (H : Hp) (Q : VK) (E : XK) : Res D → Prop
  | .ok d p => ∀ (H' : Hp) (v : V), Ext g H H' → StR g H' p → Rep g coN H' v d → Q v H'
  | .err x dv p => ∀ (H' : Hp) (C dd : Addr) (y : V), Ext g H H' → StR g H' p → g.mg x = some (.ref C) → H' dd = some (.xd [("value", y)]) → Rep g coN H' y dv → E (.ref C) (some dd) H'
  | .bad => False
structure FnP (P : Program) (w : World) (base : Heap) (g : Gx) (k : Nat) (f : Addr) (fd : FuncData) (ps : List Str) (mf : List D → P3 → Res D) : Prop where
  len : ∀ ds p, ds.length ≠ ps.length → mf ds p = .bad
  run : ∀ (A : Around) (outer : List Env) (s : Shared) (H : Hp) (args : Args) (us : List Value) (vs : List V) (ds : List D) (p : P3) (Q : VK) (E : XK), Room k A → A.guards = some [] → Env0 P w g.K g.mg base A outer s H → BindsTo s fd args (ps.zip us) → Vals vs us →
    RepL g coN H vs ds → StR g H p → PF g H Q E (mf ds p) → codeAny (model P w) A (.call (.ref f) args) (CR (L2.CX P w) outer P w H s Q E) s
theorem FnP.mono {P : Program} {w : World} {base : Heap} {g : Gx} {j k : Nat} {f : Addr} {fd : FuncData} {ps : List Str} {mf : List D → P3 → Res D} (F : FnP P w base g j f fd ps mf) (h : j ≤ k) : FnP P w base g k f fd ps mf :=
  ⟨F.len, fun A outer s H args us vs ds p Q E hr => F.run A outer s H args us vs ds p Q E (hr.mono h)⟩
theorem FnP.bad {P : Program} {w : World} {base : Heap} {g : Gx} {k : Nat} {f : Addr} {fd : FuncData} {ps : List Str} : FnP P w base g k f fd ps (fun _ _ => .bad) :=
  ⟨fun _ _ _ => rfl, fun _ _ _ _ _ _ _ _ _ _ _ _ _ _ _ _ _ _ h => h.elim⟩
/-- a def that the callers find by its name -/
structure Cal (P : Program) (w : World) (base : Heap) (g : Gx) (k : Nat) (x : Str) (ps : List Str) (mf : List D → P3 → Res D) : Prop where
  ex : ∃ (f : Addr) (fd : FuncData), g.mg x = some (.ref f) ∧ PySem.W.keepIn g.K (.ref f) = true ∧ Binds g.K fd ps [] ∧ FnP P w base g k f fd ps mf
theorem Cal.mono {P : Program} {w : World} {base : Heap} {g : Gx} {j k : Nat} {x : Str} {ps : List Str} {mf : List D → P3 → Res D} (c : Cal P w base g j x ps mf) (h : j ≤ k) : Cal P w base g k x ps mf :=
  let ⟨f, fd, h1, h2, h3, h4⟩ := c.ex
  ⟨f, fd, h1, h2, h3, h4.mono h⟩
/-- what holds in every plain frame -/
structure Fr0 (X : Cx) (J : Jc) (base : Heap) (k : Nat) : Prop where
  K : J.g.K = X.K
  mg : J.g.mg = X.mg
  bs : X.base = base
  tk : Takes X J.W
  room : Room k X.A
  gd : X.A.guards = some []
  calm : X.calm = true
section
variable {X : Cx} {J : Jc} {base : Heap} {k : Nat} {e : Expr} {es : List Expr} {m : ME} {ms : MA} {pos : Pos}
theorem plainL (pl : ∀ H, (J.co H).le coN) {σ : St} {H : Hp} {vs : List V} {ds : List D} (r : J.RL σ H vs ds) : RepL J.g coN H vs ds := r.ext .refl (pl H)
theorem plain1 (pl : ∀ H, (J.co H).le coN) {σ : St} {H : Hp} {v : V} {d : D} (r : J.R σ H v d) : Rep J.g coN H v d := r.ext .refl (pl H)
theorem Rep.up {J : Jc} {σ : St} {H : Hp} {v : V} {d : D} (r : Rep J.g coN H v d) : J.R σ H v d := r.ext .refl coN_le
def mCall (mf : List D → P3 → Res D) (ms : MA) : ME := fun vw p => (ms vw p).bind mf
theorem run_cal {P : Program} {w : World} {mf : List D → P3 → Res D} {x : Str} {ps : List Str} {f : Addr} {fd : FuncData} {pins : List (Addr × Obj)} {σ : St} {H : Hp} {s : Shared} {vs : List V} {us : List Value} {ds : List D} {p : P3} {Q : VK} (F : Fr0 X J X.base k) (pl : ∀ H, (J.co H).le coN) (C : FnP X.prog X.w X.base J.g k f fd ps mf) (hb : Binds J.g.K fd ps [])
    (I : Inv X pins σ H s) (rv : Vals vs us) (r : J.RL σ H vs ds) (st : StR J.g H p) (q : PV J σ H Q (mf ds p)) : wpAny (model X.prog X.w) X.A (call (.ref f) us) (EP X pins σ Q) X.xe s := by
  have hl : us.length = ps.length := by
    rw [← rv.length, r.length]
    refine Classical.byContradiction fun z => ?_
    rw [C.len ds p z] at q
    exact q
  have hb' := hb s us (F.K ▸ I.kIn) (by rw [List.append_nil]; exact hl)
  rw [List.append_nil] at hb'
  have e0 : Env0 X.prog X.w J.g.K J.g.mg X.base X.A X.stack s H := by rw [F.K, F.mg]; exact I.env0
  refine wpAny_call (codeAny_mono (C.run X.A X.stack s H ⟨us, []⟩ us vs ds p Q (fun cls d H' => J.W cls d σ H') F.room F.gd e0 hb' rv (plainL pl r) st ?_) fun r s' hq => ?_)
  · cases e1 : mf ds p with
    | bad => rw [e1] at q; exact q
    | err x dv p1 => rw [e1] at q; exact fun H' C dd y e s c z r => q H' C dd y e s c z (Rep.up r)
    | ok d p1 => rw [e1] at q; exact fun H' v e s r => q H' v e s (Rep.up r)
  · cases r with
    | error e => exact F.tk _ _ (XE.of_call (W := J.W) I (fun _ _ _ z => z) hq)
    | ok fl =>
      cases fl with
      | ret u => exact I.after hq
      | next => exact False.elim hq
      | brk => exact False.elim hq
      | cont => exact False.elim hq
theorem ve_call {mf : List D → P3 → Res D} {x : Str} {ps : List Str} {p : Pos} {j : Nat} (C : Cal X.prog X.w X.base J.g j x ps mf) (F : Fr0 X J X.base k) (hj : j ≤ k) (ha : VA X J (e :: es) ms) (pl : ∀ H, (J.co H).le coN := by intro _; exact .refl) (hg : Gl X x := by rfl) (hdb : (x == ("__debug__" : Str)) = false := by decide)
    (he : starEach (e :: es) X.env = (false, eval e X.env) :: starEach es X.env := by rfl) (hpl : (backTo pos (starEach es X.env)).any (·.1) = false := by rfl) : VE X J (.Call (.Name x p) (e :: es) [] pos) (mCall mf ms) := by
  obtain ⟨f, fd, h1, h2, h3, h4⟩ := C.ex
  refine ⟨fun pins s σ H Q I ⟨vw, p, rr, st, q⟩ => ?_⟩
  refine wpAny_Call_Name_kw (ld_glob I hg (F.mg ▸ h1) ?_ hdb)
  have hk : PySem.W.keepIn X.K (.ref f) = true := F.K ▸ h2
  refine PySem.W.callWith_K (h₀ := X.base) I.ok.mod.kin hk (thn (ha.run pos pins s σ H (fun vs H1 => ∃ ds p1, J.RL σ H1 vs ds ∧ StR J.g H1 p1 ∧ PV J σ H1 Q (mf ds p1)) I ⟨vw, p, rr, st, ?_⟩) fun us s1 ⟨vs, H1, I1, r, ds, p1, r1, s1', q1⟩ => ⟨I1.kIn, ?_⟩) he hpl
  · unfold mCall at q
    cases e1 : ms vw p with
    | bad => rw [e1] at q; exact q.elim
    | err x dv p1 => rw [e1] at q; exact q
    | ok ds p1 =>
      rw [e1] at q
      simp only [Res.bind] at q
      intro H1 vs x1 s1 r1
      refine ⟨ds, p1, r1, s1, ?_⟩
      cases e2 : mf ds p1 with
      | bad => rw [e2] at q; exact q.elim
      | err x dv p1 => rw [e2] at q; exact ErrP.ext q x1
      | ok d p2 => rw [e2] at q; exact fun H2 v x2 s2 r2 => q H2 v (x1.trans x2) s2 r2
  · exact run_cal (P := X.prog) (w := X.w) (x := x) F pl (h4.mono hj) h3 I1 r r1 s1' q1
theorem ve_call0 {mf : List D → P3 → Res D} {x : Str} {ps : List Str} {p : Pos} {j : Nat} (C : Cal X.prog X.w X.base J.g j x ps mf) (F : Fr0 X J X.base k) (hj : j ≤ k) (pl : ∀ H, (J.co H).le coN := by intro _; exact .refl) (hg : Gl X x := by rfl) (hdb : (x == ("__debug__" : Str)) = false := by decide) : VE X J (.Call (.Name x p) [] [] pos) (mCall mf mNil) := by
  obtain ⟨f, fd, h1, h2, h3, h4⟩ := C.ex
  refine ⟨fun pins s σ H Q I ⟨vw, p, rr, st, q⟩ => ?_⟩
  refine wpAny_Call_Name_kw (ld_glob I hg (F.mg ▸ h1) ?_ hdb)
  have hk : PySem.W.keepIn X.K (.ref f) = true := F.K ▸ h2
  exact PySem.W.callWith_K0 I.kIn hk (run_cal (P := X.prog) (w := X.w) (x := x) (us := []) F pl (h4.mono hj) h3 I .nil .nil st q)
end
/-! ### statements -/
inductive Sl where
  | p (d : D)
  | l (ds : List D)
abbrev En := List (Option Sl)
inductive Fl where
  | nx | ret (d : D) | bk | ct | rtl (ds : List D)
abbrev MS := En → P3 → Res (Fl × En)
/-- the frame's own -/
def Own (X : Cx) (g : Gx) (a : Addr) : Prop := g.pa ≠ some a ∧ ∀ o, X.H_0 a = some o → ∃ ps, o = .tbl ps
def SlRep (X : Cx) (J : Jc) (σ : St) (H : Hp) (i : Nat) : Sl → Prop
  | .p d => ∃ v, σ[i]? = some (some v) ∧ J.R σ H v d
  | .l ds => ∃ a xs, σ[i]? = some (some (.ref a)) ∧ H a = some (.lst xs) ∧ J.RL σ H xs ds ∧ Own X J.g a
def isOwn (env : En) (i : Nat) : Prop := ∃ ds, env[i]? = some (some (.l ds))
structure ERep (X : Cx) (J : Jc) (σ : St) (H : Hp) (env : En) : Prop where
  len : env.length = σ.length
  slot : ∀ i sl, env[i]? = some (some sl) → SlRep X J σ H i sl
  dist : ∀ i j a, i ≠ j → isOwn env i → isOwn env j → σ[i]? = some (some (.ref a)) → σ[j]? ≠ some (some (.ref a))
  ext : Ext J.g X.H_0 H
def PSt (X : Cx) (J : Jc) (Dn : Ends) (σ0 : St) (H0 : Hp) : Res (Fl × En) → Prop
  | .ok (.nx, env) p => ∀ (σ : St) (H : Hp), ERep X J σ H env → StR J.g H p → Ext1 H0 H → Dn.nx σ H
  | .ok (.bk, env) p => ∀ (σ : St) (H : Hp), ERep X J σ H env → StR J.g H p → Ext1 H0 H → Dn.bk σ H
  | .ok (.ct, env) p => ∀ (σ : St) (H : Hp), ERep X J σ H env → StR J.g H p → Ext1 H0 H → Dn.ct σ H
  | .ok (.ret d, _) p => ∀ (H : Hp) (v : V), Ext J.g X.H_0 H → StR J.g H p → Rep J.g coN H v d → Dn.rt v H
  | .ok (.rtl ds, _) p => ∀ (H : Hp) (a : Addr) (xs : List V), Ext J.g X.H_0 H → StR J.g H p → H a = none → RepL J.g coN H xs ds → Dn.rt (.ref a) (upd H a (.lst xs))
  | .err x dv p => ∀ (σ : St) (H' : Hp) (C dd : Addr) (y : V), Ext J.g X.H_0 H' → StR J.g H' p → J.g.mg x = some (.ref C) → H' dd = some (.xd [("value", y)]) → J.R σ H' y dv → J.W (.ref C) (some dd) σ H'
  | .bad => False
theorem PSt.at_ {X : Cx} {J : Jc} {Dn : Ends} {σ0 σ1 : St} {H0 H1 : Hp} {r : Res (Fl × En)} (q : PSt X J Dn σ0 H0 r) (e : Ext1 H0 H1) : PSt X J Dn σ1 H1 r := by
  match r, q with
  | .bad, q => exact q
  | .err _ _ _, q => exact q
  | .ok (.nx, env) p, q => exact fun σ H r s e' => q σ H r s (e.trans e')
  | .ok (.bk, env) p, q => exact fun σ H r s e' => q σ H r s (e.trans e')
  | .ok (.ct, env) p, q => exact fun σ H r s e' => q σ H r s (e.trans e')
  | .ok (.ret d, env) p, q => exact q
  | .ok (.rtl d, env) p, q => exact q
def tS (X : Cx) (J : Jc) (m : MS) : TS := fun Dn σ H => ∃ env p, ERep X J σ H env ∧ StR J.g H p ∧ PSt X J Dn σ H (m env p)
abbrev VS (X : Cx) (J : Jc) (st : Stmt) (m : MS) : Prop := PS X st (tS X J m)
abbrev VSs (X : Cx) (J : Jc) (st : List Stmt) (m : MS) : Prop := PSs X st (tS X J m)
def Res.bindS (r : Res (Fl × En)) (f : MS) : Res (Fl × En) := match r with
  | .ok (.nx, env) p => f env p
  | r => r
def sSeq (m n : MS) : MS := fun env p => (m env p).bindS n
def sNil : MS := fun env p => .ok (.nx, env) p
section
variable {X : Cx} {J : Jc} {st : Stmt} {sts : List Stmt} {e : Expr} {m n : MS} {pos : Pos}
theorem vss_nil : VSs X J [] sNil := pss_imp pss_nil fun Dn σ H ⟨env, p, r, s, q⟩ => q σ H r s .refl
theorem vss_cons (h : VS X J st m) (hs : VSs X J sts n) : VSs X J (st :: sts) (sSeq m n) := by
  refine pss_imp (pss_cons h hs) fun Dn σ H ⟨env, p, r, s, q⟩ => ⟨env, p, r, s, ?_⟩
  unfold sSeq Res.bindS at q
  cases e1 : m env p with
  | bad => rw [e1] at q; exact q
  | err x dv p1 => rw [e1] at q; exact q
  | ok fe p1 =>
    obtain ⟨fl, env1⟩ := fe
    rw [e1] at q
    cases fl with
    | nx => exact fun σ1 H1 r1 s1 e1 => ⟨env1, p1, r1, s1, PSt.at_ (show PSt X J Dn σ H (n env1 p1) from q) e1⟩
    | ret d => exact q
    | bk => exact q
    | ct => exact q
    | rtl d => exact q
theorem vss_one (h : VS X J st m) : VSs X J [st] m := pss_one h
def sPass : MS := sNil
theorem vs_pass : VS X J (.Pass pos) sPass := ps_imp ps_pass fun Dn σ H ⟨env, p, r, s, q⟩ => q σ H r s .refl
theorem vs_break : VS X J (.Break pos) (fun env p => .ok (.bk, env) p) := ps_imp ps_break fun Dn σ H ⟨env, p, r, s, q⟩ => q σ H r s .refl
theorem vs_continue : VS X J (.Continue pos) (fun env p => .ok (.ct, env) p) := ps_imp ps_continue fun Dn σ H ⟨env, p, r, s, q⟩ => q σ H r s .refl
/-! the slots as an expression sees them: an own list is not seen -/
def vwOf (env : En) : Vw := env.map fun o => match o with
  | some (.p d) => some d
  | _ => none
theorem ERep.vrep {σ : St} {H : Hp} {env : En} (r : ERep X J σ H env) : VRep J σ H (vwOf env) := by
  refine ⟨by unfold vwOf; rw [List.length_map]; exact Nat.le_of_eq r.len, fun i d h => ?_⟩
  unfold vwOf at h
  rw [List.getElem?_map] at h
  cases e1 : env[i]? with
  | none => rw [e1] at h; cases h
  | some o =>
    rw [e1] at h
    cases o with
    | none => cases h
    | some sl =>
      cases sl with
      | p d' =>
        cases h
        exact r.slot i _ e1
      | l ds => cases h
theorem Ext.keepL {g : Gx} {H H' : Hp} {a : Addr} {xs : List V} (e : Ext g H H') (h : H a = some (.lst xs)) (hp : g.pa ≠ some a) : H' a = some (.lst xs) := e _ _ h (fun z => absurd z hp) (fun _ z => nomatch z)
theorem ERep.ext1 {σ : St} {H H' : Hp} {env : En} (r : ERep X J σ H env) (e : Ext J.g H H') : ERep X J σ H' env := by
  refine ⟨r.len, fun i sl h => ?_, r.dist, r.ext.trans e⟩
  have q := r.slot i sl h
  cases sl with
  | p d =>
    obtain ⟨v, h1, h2⟩ := q
    exact ⟨v, h1, J.ext e h2⟩
  | l ds =>
    obtain ⟨a, xs, h1, h2, h3, h4⟩ := q
    exact ⟨a, xs, h1, e.keepL h2 h4.1, J.extL e h3, h4⟩
/-- an expression in a statement -/
def onV (m : ME) (k : D → En → P3 → Res (Fl × En)) : MS := fun env p => match m (vwOf env) p with
  | .ok d p1 => k d env p1
  | .err x v p1 => .err x v p1
  | .bad => .bad
theorem err_st {σ : St} {H : Hp} {env : En} {x : Str} {dv : D} {p : P3} {Dn : Ends} (r : ERep X J σ H env) (q : PSt X J Dn σ H (.err x dv p)) : ErrP J σ H x dv p := fun H' C dd y e s c z r' => q σ H' C dd y (r.ext.trans e) s c z r'
theorem onV_logic {me : ME} {k : D → En → P3 → Res (Fl × En)} {Dn : Ends} {σ : St} {H : Hp} {Q : VK} (h : tS X J (onV me k) Dn σ H)
    (hq : ∀ env d p1 H1 v, ERep X J σ H1 env → StR J.g H1 p1 → J.R σ H1 v d → PSt X J Dn σ H1 (k d env p1) → Q v H1) : tV J me σ H Q := by
  obtain ⟨env, p, r, s, q⟩ := h
  refine ⟨vwOf env, p, r.vrep, s, ?_⟩
  unfold onV at q
  cases e1 : me (vwOf env) p with
  | bad => rw [e1] at q; exact q
  | err x dv p1 => rw [e1] at q; exact err_st r q
  | ok d p1 =>
    rw [e1] at q
    exact fun H1 v x1 s1 r1 => hq env d p1 H1 v (r.ext1 x1) s1 r1 (PSt.at_ (show PSt X J Dn σ H (k d env p1) from q) x1.hard)
def sRet (me : ME) : MS := onV me fun d env p => .ok (.ret d, env) p
theorem vs_ret {me : ME} {base : Heap} {k : Nat} (F : Fr0 X J base k) (h : VE X J e me) (pl : ∀ H, (J.co H).le coN := by intro _; exact .refl) : VS X J (.Return (some e) pos) (sRet me) :=
  ps_imp (ps_ret h) fun Dn σ H q => onV_logic q fun env d p1 H1 v r s rv q => q H1 v r.ext s (plain1 pl rv)
def sRetN : MS := fun env p => .ok (.ret .non, env) p
theorem vs_retN : VS X J (.Return none pos) sRetN := ps_imp ps_retN fun Dn σ H ⟨env, p, r, s, q⟩ => q H _ r.ext s .non
def sExpr (me : ME) : MS := onV me fun _ env p => .ok (.nx, env) p
theorem vs_expr {me : ME} (h : VE X J e me) (hs : swapsWith e none pos.line X.env = pure false := by rfl) : VS X J (.Expr e pos) (sExpr me) :=
  ps_imp (ps_expr h hs) fun Dn σ H q => onV_logic q fun env d p1 H1 v r s rv q => q σ H1 r s .refl
theorem vs_doc {x : Str} {j : Nat} {pos' : Pos} : VS X J (.Expr (.Constant (.str x) j pos) pos') sPass := ps_imp ps_doc fun Dn σ H ⟨env, p, r, s, q⟩ => q σ H r s .refl
def sIf (c : MB) (m n : MS) : MS := fun env p => match c (vwOf env) p with
  | .ok true p1 => m env p1
  | .ok false p1 => n env p1
  | .err x v p1 => .err x v p1
  | .bad => .bad
theorem vs_if {c : Expr} {a b : List Stmt} {mc : MB} (hc : VT X J c mc) (ha : VSs X J a m) (hb : VSs X J b n) : VS X J (.If c a b pos) (sIf mc m n) := by
  refine ps_imp (ps_if hc ha hb) fun Dn σ H ⟨env, p, r, s, q⟩ => ⟨vwOf env, p, r.vrep, s, ?_⟩
  unfold sIf at q
  cases e1 : mc (vwOf env) p with
  | bad => rw [e1] at q; exact q
  | err x dv p1 => rw [e1] at q; exact err_st r q
  | ok d p1 =>
    rw [e1] at q
    intro H1 x1 s1
    have go : ∀ {m : MS}, PSt X J Dn σ H (m env p1) → tS X J m Dn σ H1 := fun {m} q => ⟨env, p1, r.ext1 x1, s1, PSt.at_ q x1.hard⟩
    cases d with
    | true => rw [if_pos rfl]; exact go q
    | false => rw [if_neg Bool.false_ne_true]; exact go q
/-! stores -/
theorem ERep.set {σ : St} {H : Hp} {env : En} {i : Nat} {v : V} {d : D} (r : ERep X J σ H env) (rv : J.R σ H v d) : ERep X J (σ.set i (some v)) H (env.set i (some (.p d))) := by
  refine ⟨by rw [List.length_set, List.length_set, r.len], fun j sl h => ?_, fun a b c hab ha hb => ?_, r.ext⟩
  · by_cases hj : i = j
    · subst hj
      by_cases hl : i < env.length
      · rw [List.getElem?_set_self hl] at h
        cases h
        exact ⟨v, by rw [List.getElem?_set_self (by rw [← r.len]; exact hl)], rv⟩
      · rw [List.getElem?_eq_none (by rw [List.length_set]; exact Nat.le_of_not_lt hl)] at h
        cases h
    · rw [List.getElem?_set_ne hj] at h
      have q := r.slot j sl h
      cases sl with
      | p d' =>
        obtain ⟨v', h1, h2⟩ := q
        exact ⟨v', by rw [List.getElem?_set_ne hj]; exact h1, h2⟩
      | l ds =>
        obtain ⟨a, xs, h1, h2, h3, h4⟩ := q
        exact ⟨a, xs, by rw [List.getElem?_set_ne hj]; exact h1, h2, h3, h4⟩
  · have no : ∀ j, isOwn (env.set i (some (.p d))) j → j ≠ i ∧ isOwn env j := fun j ⟨ds, h⟩ => by
      by_cases hj : i = j
      · subst hj
        by_cases hl : i < env.length
        · rw [List.getElem?_set_self hl] at h; cases h
        · rw [List.getElem?_eq_none (by rw [List.length_set]; exact Nat.le_of_not_lt hl)] at h; cases h
      · rw [List.getElem?_set_ne hj] at h
        exact ⟨fun z => hj z.symm, ds, h⟩
    obtain ⟨n1, o1⟩ := no a ha
    obtain ⟨n2, o2⟩ := no b hb
    rw [List.getElem?_set_ne (Ne.symm n1), List.getElem?_set_ne (Ne.symm n2)]
    exact r.dist a b c hab o1 o2
def setE (env : En) (i : Nat) (sl : Sl) : En := env.set i (some sl)
def sSet (i : Nat) (me : ME) : MS := onV me fun d env p => .ok (.nx, setE env i (.p d)) p
theorem vs_set {i : Nat} {x : Str} {me : ME} {pos' : Pos} (hN : X.N.Nodup) (he : VE X J e me) (hi : X.N[i]? = some x := by rfl) (hx : Loc X.env.scope x := by first | exact Or.inl rfl | exact Or.inr rfl) (hs : swapsWith e (some (.Name x pos')) pos.line X.env = pure false := by rfl)
    (hfn : X.fn x = true ∨ X.env.scope.names.lookup x = some .local := by first | exact .inl rfl | exact .inr rfl) : VS X J (.Assign [.Name x pos'] e pos) (sSet i me) :=
  ps_imp (ps_set hN hi hx he hs hfn) fun Dn σ H q => onV_logic q fun env d p1 H1 v r s rv q => q _ _ (r.set rv) s .refl
end
end VL

namespace VL
open PySem PySem.Spec PyProof.Rows L2 LamX
def env0 (n : Nat) (ds : List D) : En := ds.map (fun d => some (.p d)) ++ List.replicate (n - ds.length) none
def outF (r : Res (Fl × En)) : Res D := match r with
  | .ok (.ret d, _) p => .ok d p
  | .ok (.nx, _) p => .ok .non p
  | .ok _ _ => .bad
  | .err x v p => .err x v p
  | .bad => .bad
def callF (n np : Nat) (m : MS) : List D → P3 → Res D := fun ds p => if ds.length = np then outF (m (env0 n ds) p) else .bad
theorem start_get {N : List Str} {vs : List V} {i : Nat} {v : V} (hl : vs.length ≤ N.length) (h : vs[i]? = some v) : (L2.start N vs)[i]? = some (some v) := by
  unfold L2.start
  have hi : i < vs.length := (List.getElem?_eq_some_iff.mp h).1
  rw [List.getElem?_append_left (by rw [List.length_map]; exact hi), List.getElem?_map, h]
  rfl
section
variable {P : Program} {w : World} {base : Heap} {g : Gx} {k : Nat} {x qual : Str} {st : Stmt} {f : Addr} {fd : FuncData} {N ps : List Str} {m : MS}
theorem fnp_of (F : L2.Fun g.K x qual st f fd) (S : FnScope N ps (L2.defScope st))
    (hbody : ∀ (cdv : Value) (A : Around) (outer : List Env) (s : Shared) (H : Hp) (E : XK), Fr0 (cxOf (L2.CX P w) P w g.K g.mg base N qual (L2.defScope st) f cdv A outer s H E) (jP g fun cls d _ H' => E cls d H') base k →
      VSs (cxOf (L2.CX P w) P w g.K g.mg base N qual (L2.defScope st) f cdv A outer s H E) (jP g fun cls d _ H' => E cls d H') (L2.defBody st) m) : FnP P w base g (k + 1) f fd ps (callF N.length ps.length m) := by
  refine ⟨fun ds p h => if_neg h, fun A outer s H args us vs ds p Q E hr gd e0 hb r rd stp q => ?_⟩
  obtain ⟨oc, od, kV, doc, pm, an, cdv, ct, osl, rfl, lk, hcd⟩ := F.ex
  unfold callF at q
  by_cases hl : ds.length = ps.length
  · rw [if_pos hl] at q
    have hpl : ps.length ≤ N.length := by have := congrArg List.length S.pre; rw [List.length_take] at this; omega
    let sp : Sp := fun vs' H' Q' E' => vs'.length = ps.length ∧ Room (k + 1) A
    have KX : g.K.In s.heap := e0.mod.kin.keeps fun b o e => (e0.bs b o e).1
    have lim : s.heap.NoLimit := e0.mod.nolimit.keeps fun b o e => (e0.bs b o e).1
    have hkind : ∀ y ∈ ps.zip us, (L2.defScope st).names.lookup y.1 = some .local ∨ ((L2.defScope st).names.lookup y.1 = some .cell ∧ ((cellsFrom (s.heap.objs.size + 1) (L2.defScope st).names []).lookup y.1).isSome = true) := fun ⟨n, v⟩ hy => by
      rcases S.par n (List.of_mem_zip hy).1 with z | z
      · exact .inl z
      · exact .inr ⟨z, PySem.W.cellsFrom_some _ _ _ (.inl z)⟩
    have hvl : vs.length = ps.length := by rw [rd.length, hl]
    refine codeAny_call_function hr.depth (KX _ _ lk) rfl S.co S.gen rfl (PySem.W.codeRec_of KX hcd) (hb _ _ _ _ ?_)
    refine wpAny_newFunctionEnv_cells S.kind hkind fun env he s1 xx => ?_
    subst he
    refine ⟨lim.keeps xx.toInCall.keep, codeAny_func ?_⟩
    have I : Inv (cxOf (L2.CX P w) P w g.K g.mg base N qual (L2.defScope st) f cdv A outer s H E) [] (L2.start N vs) H s1 := inv_start S hr.hd e0 hvl r xx
    have F0 : Fr0 (cxOf (L2.CX P w) P w g.K g.mg base N qual (L2.defScope st) f cdv A outer s H E) (jP g fun cls d _ H' => E cls d H') base k :=
      ⟨rfl, rfl, rfl, takes_of rfl rfl rfl rfl, hr.deeper _, gd, rfl⟩
    have er : ERep (cxOf (L2.CX P w) P w g.K g.mg base N qual (L2.defScope st) f cdv A outer s H E) (jP g fun cls d _ H' => E cls d H') (L2.start N vs) H (env0 N.length ds) := by
      refine ⟨?_, fun i sl h => ?_, fun i j a _ ⟨ds', h⟩ => ?_, .refl⟩
      · unfold env0 L2.start
        rw [List.length_append, List.length_append, List.length_map, List.length_map, List.length_replicate, List.length_replicate, rd.length]
      · unfold env0 at h
        by_cases hi : i < ds.length
        · rw [List.getElem?_append_left (by rw [List.length_map]; exact hi), List.getElem?_map, List.getElem?_eq_getElem hi] at h
          cases h
          obtain ⟨v, h1, h2⟩ := rd.get (List.getElem?_eq_getElem hi)
          exact ⟨v, start_get (by omega) h1, h2⟩
        · rw [List.getElem?_append_right (by rw [List.length_map]; omega), List.getElem?_replicate] at h
          split at h <;> cases h
      · unfold env0 at h
        by_cases hi : i < ds.length
        · rw [List.getElem?_append_left (by rw [List.length_map]; exact hi), List.getElem?_map, List.getElem?_eq_getElem hi] at h
          cases h
        · rw [List.getElem?_append_right (by rw [List.length_map]; omega), List.getElem?_replicate] at h
          split at h <;> cases h
    have hrun := (hbody cdv A outer s H E F0).run [] s1 (L2.start N vs) H { nx := fun _ H' => Q .non H', rt := Q } I ⟨_, p, er, stp, ?_⟩
    · refine wpAny_mono hrun (fun fl s' hs => ?_) fun e s' hs => hs
      have fin : ∀ {σ' : St} {H' : Hp} {v : V} {u : Value}, Inv (cxOf (L2.CX P w) P w g.K g.mg base N qual (L2.defScope st) f cdv A outer s H E) [] σ' H' s' → RelV v u → Q v H' → CE outer P w H s Q u s' :=
        fun {σ' H' v u} J rv z => ⟨v, H', J.os, J.bare, J.base, J.hok, rv, z⟩
      cases fl with
      | ret u => obtain ⟨v, σ', H', J, rv, z⟩ := hs; exact fin J rv z
      | next => obtain ⟨σ', H', J, z⟩ := hs; exact fin (v := V.non) (u := Value.none) J rfl z
      | brk => obtain ⟨_, _, _, z⟩ := hs; exact False.elim z
      | cont => obtain ⟨_, _, _, z⟩ := hs; exact False.elim z
    · unfold outF at q
      cases e1 : m (env0 N.length ds) p with
      | bad => rw [e1] at q; exact q
      | err y dv p1 => rw [e1] at q; exact fun σ H' C dd y' e s c z r => q H' C dd y' e s c z r
      | ok fe p1 =>
        obtain ⟨fl, env1⟩ := fe
        rw [e1] at q
        cases fl with
        | nx => exact fun σ H' r s _ => q H' .non r.ext s .non
        | ret d => exact fun H' v e s r => q H' v e s r
        | bk => exact q.elim
        | ct => exact q.elim
        | rtl d => exact q.elim
  · rw [if_neg hl] at q
    exact q.elim
end
/-! ### targets -/
section
variable {X : Cx} {J : Jc} {base : Heap} {k : Nat} {e : Expr} {pos : Pos}
/-- a, b, .. = a tuple: names by slots -/
def putAll : List Nat → List D → En → Option En
  | [], [], env => some env
  | i :: is, d :: ds, env => putAll is ds (setE env i (.p d))
  | _, _, _ => none
/-- names as targets -/
inductive TNames (X : Cx) : List Expr → List Nat → TGs → Prop where
  | nil : TNames X [] [] gNil
  | cons {i : Nat} {es : List Expr} {is : List Nat} {t : TG} {e : Expr} {u : TGs} : PG X e (gName i) → t = gName i → TNames X es is u → PGs X (e :: es) (gCons t u) → TNames X (e :: es) (i :: is) (gCons t u)
theorem tn_nil : TNames X [] [] gNil := .nil
theorem tn_pgs {es : List Expr} {is : List Nat} {u : TGs} (h : TNames X es is u) : PGs X es u := by
  cases h with
  | nil => exact pgs_nil
  | cons _ _ _ h => exact h
theorem tn_cons {i : Nat} {es : List Expr} {is : List Nat} {x : Str} {pos' : Pos} {u : TGs} (hN : X.N.Nodup) (h : TNames X es is u) (hi : X.N[i]? = some x := by rfl) (hx : Loc X.env.scope x := by first | exact Or.inl rfl | exact Or.inr rfl)
    (hfn : X.fn x = true ∨ X.env.scope.names.lookup x = some .local := by first | exact .inl rfl | exact .inr rfl) (hs : (assignEach (.Name x pos' :: es) X.env).map (·.2) = assign (.Name x pos') X.env :: (assignEach es X.env).map (·.2) := by rfl) : TNames X (.Name x pos' :: es) (i :: is) (gCons (gName i) u) :=
  .cons (pg_name hN hi hx hfn) rfl h (pgs_cons (pg_name hN hi hx hfn) (tn_pgs h) hs)
theorem tn_run {es : List Expr} {is : List Nat} {u : TGs} (h : TNames X es is u) : ∀ {vs : List V} {ds : List D} {σ : St} {H : Hp} {env env' : En} {Q : St → Hp → Prop}, J.RL σ H vs ds → ERep X J σ H env → putAll is ds env = some env' → (∀ σ', ERep X J σ' H env' → Q σ' H) → u vs σ H Q := by
  induction h with
  | nil =>
    intro vs ds σ H env env' Q r er hp q
    cases ds with
    | nil =>
      cases r
      cases hp
      exact ⟨rfl, q σ er⟩
    | cons d ds => cases hp
  | @cons i es is t e u _ ht _ _ ih =>
    intro vs ds σ H env env' Q r er hp q
    subst ht
    cases ds with
    | nil => cases hp
    | cons d ds =>
      cases r with
      | cons r1 r2 =>
        refine ⟨_, _, rfl, ?_⟩
        exact ih r2 (er.set r1) hp q
def sTupSet (is : List Nat) (me : ME) : MS := onV me fun d env p => match d with
  | .tup ds => match putAll is ds env with
    | some env' => .ok (.nx, env') p
    | none => .bad
  | _ => .bad
theorem putAll_len : ∀ {is : List Nat} {ds : List D} {env env' : En}, putAll is ds env = some env' → ds.length = is.length
  | [], [], _, _, _ => rfl
  | i :: is, d :: ds, env, env', h => congrArg (· + 1) (putAll_len (is := is) (ds := ds) h)
  | [], _ :: _, _, _, h => by cases h
  | _ :: _, [], _, _, h => by cases h
theorem vs_tup {es : List Expr} {is : List Nat} {u : TGs} {me : ME} {j : Nat} {tpos : Pos} (hc : X.calm = true) (hK : J.g.K = X.K) (ht : TNames X es is u) (he : VE X J e me) (hn : (assignEach es X.env).length = is.length := by rfl) (hst : (assignEach es X.env).findIdx? (·.1) = none := by rfl)
    (hs : swapsWithSole [.Tuple es j tpos] e pos.line X.env = pure false := by rfl) (hw : swappedStores [.Tuple es j tpos] e X.env = pure none := by rfl) (h1 : (assignEach [.Tuple es j tpos] X.env).map (·.2) = [assign (.Tuple es j tpos) X.env] := by rfl) :
    VS X J (.Assign [.Tuple es j tpos] e pos) (sTupSet is me) := by
  refine ps_imp (ps_asg he (pg_tup hc (tn_pgs ht) hn hst) hs hw h1) fun Dn σ H q => onV_logic q fun env d p1 H1 v r s rv q => ?_
  cases d with
  | tup ds =>
    cases rv with
    | tup sq rl =>
      simp only at q
      cases e1 : putAll is ds env with
      | none => rw [e1] at q; exact q.elim
      | some env' =>
        rw [e1] at q
        exact ⟨_, _, rfl, hK ▸ sq, by rw [rl.length, putAll_len e1], tn_run ht rl r e1 fun σ' er => q σ' H1 er s .refl⟩
  | _ => exact q.elim
end
end VL

namespace VL
open PySem PySem.Spec PyProof.Rows L2 LamX
/-! ### what is walked -/
structure Feeds (J : Jc) (H0 : Hp) (I : It) (ds : List D) : Prop where
  go : ∀ i H, Ext1 H0 H → i < ds.length → I.go i H
  stop : ∀ H, Ext1 H0 H → I.stop ds.length H
  yld : ∀ i H x H' d, Ext1 H0 H → ds[i]? = some d → I.yld i H x H' → Grow H H' ∧ J.R [] H' x d
def PI3 (J : Jc) (σ : St) (H : Hp) (R : It → Hp → Prop) : Res (List D) → Prop
  | .ok ds p => ∀ (H' : Hp) (I : It), Ext J.g H H' → StR J.g H' p → Feeds J H' I ds → ds.length ≤ sizeLine → R I H'
  | .err x dv p => ErrP J σ H x dv p
  | .bad => False
def tI (J : Jc) (m : MA) : TI := fun σ H R => ∃ vw p, VRep J σ H vw ∧ StR J.g H p ∧ PI3 J σ H R (m vw p)
abbrev VI (X : Cx) (J : Jc) (tg e : Expr) (m : MA) : Prop := PI X tg e (tI J m)
def irange (lo hi : Int) : List D := (List.range (hi - lo).toNat).map fun (i : Nat) => D.int (lo + (i : Int))
def rgOk (lo hi : Int) : Bool := decide (-(2 ^ 62) ≤ lo) && decide (lo < 2 ^ 62) && decide (-(2 ^ 62) ≤ hi) && decide (hi < 2 ^ 62) && decide (hi - lo ≤ 16777216)
def mIter (m : ME) : MA := fun vw p => (m vw p).bind fun d p1 => match d with
  | .lst ds => .ok ds p1
  | .tup ds => .ok ds p1
  | .scr ns => .ok (ns.map D.int) p1
  | .rng lo hi => if rgOk lo hi then .ok (irange lo hi) p1 else .bad
  | _ => .bad
section
variable {X : Cx} {J : Jc} {tg e : Expr} {m : ME} {ms : MA} {pos : Pos}
theorem scrL (g : Gx) (co : CO) (H : Hp) : ∀ l : List Int, RepL g co H (l.map V.int) (l.map D.int)
  | [] => .nil
  | x :: l => .cons (.int x) (scrL g co H l)
theorem feeds_list {H0 : Hp} {a : Addr} {xs : List V} {ds : List D} (h : ∀ H, Ext1 H0 H → SqL X.K H a xs) (r : RepL J.g (J.co H0) H0 xs ds) : Feeds J H0 (Itl X.K a) ds := by
  refine ⟨fun i H e hi => ?_, fun H e => ⟨xs, h H e, by rw [r.length]; exact Nat.le_refl _⟩, fun i H x H' d e hd y => ?_⟩
  · obtain ⟨v, h1, _⟩ := r.get (List.getElem?_eq_getElem hi)
    exact ⟨xs, v, h H e, h1⟩
  · obtain ⟨rfl, y⟩ := y
    obtain ⟨v, h1, h2⟩ := r.get hd
    have w := y xs (h _ e)
    rw [h1] at w
    cases w
    exact ⟨fun _ _ k => k, h2.ext e (J.coE _ _ e)⟩
theorem feeds_tup {H0 : Hp} {a : Addr} {xs : List V} {ds : List D} (h : ∀ H, Ext1 H0 H → SqT X.K H a xs) (r : RepL J.g (J.co H0) H0 xs ds) : Feeds J H0 (Itt X.K a) ds := by
  refine ⟨fun i H e hi => ?_, fun H e => ⟨xs, h H e, by rw [r.length]; exact Nat.le_refl _⟩, fun i H x H' d e hd y => ?_⟩
  · obtain ⟨v, h1, _⟩ := r.get (List.getElem?_eq_getElem hi)
    exact ⟨xs, v, h H e, h1⟩
  · obtain ⟨rfl, y⟩ := y
    obtain ⟨v, h1, h2⟩ := r.get hd
    have w := y xs (h _ e)
    rw [h1] at w
    cases w
    exact ⟨fun _ _ k => k, h2.ext e (J.coE _ _ e)⟩
theorem irange_len (lo hi : Int) : (irange lo hi).length = (hi - lo).toNat := by unfold irange; simp
theorem feeds_range {H0 : Hp} (lo hi : Int) : Feeds J H0 (Itr lo (hi - lo).toNat) (irange lo hi) := by
  refine ⟨fun i H e hi => by rw [irange_len] at hi; exact hi, fun H e => by rw [irange_len]; exact Nat.le_refl _, fun i H x H' d e hd y => ?_⟩
  obtain ⟨rfl, rfl⟩ := y
  unfold irange at hd
  rw [List.getElem?_map] at hd
  cases h : (List.range (hi - lo).toNat)[i]? with
  | none => rw [h] at hd; cases hd
  | some j =>
    rw [h] at hd
    cases hd
    have := List.getElem?_eq_some_iff.mp h
    obtain ⟨h1, h2⟩ := this
    rw [List.getElem_range] at h2
    subst h2
    exact ⟨fun _ _ k => k, .int _⟩
theorem rg_ok {lo hi : Int} (h : rgOk lo hi = true) : (-(2 ^ 62) ≤ lo ∧ lo < 2 ^ 62 ∧ -(2 ^ 62) ≤ hi ∧ hi < 2 ^ 62) ∧ (hi - lo).toNat ≤ sizeLine := by
  unfold rgOk at h
  simp only [Bool.and_eq_true, decide_eq_true_eq] at h
  obtain ⟨⟨⟨⟨h1, h2⟩, h3⟩, h4⟩, h5⟩ := h
  rw [sizeLine_eq]
  exact ⟨⟨h1, h2, h3, h4⟩, by omega⟩
/-- a list, a tuple -/
theorem vi_seq (hK : J.g.K = X.K) (h : VE X J e m) : VI X J tg e (mIter m) := by
  refine ⟨fun pins s σ H R I ⟨vw, p, rr, st, q⟩ => ?_⟩
  refine thn (h.run pins s σ H (fun v H1 => ∃ d p1, Ext J.g H H1 ∧ StR J.g H1 p1 ∧ J.R σ H1 v d ∧ PI3 J σ H R (match d with | .lst ds => .ok ds p1 | .tup ds => .ok ds p1 | .scr ns => .ok (ns.map D.int) p1 | .rng lo hi => if rgOk lo hi then .ok (irange lo hi) p1 else .bad | _ => .bad)) I ⟨vw, p, rr, st, ?_⟩) fun u s1 ⟨v, H1, I1, r1, d, p1, x1, s1', rd, q1⟩ => ?_
  · unfold mIter at q
    cases e1 : m vw p with
    | bad => rw [e1] at q; exact q.elim
    | err x dv p1 => rw [e1] at q; exact q
    | ok d p1 => rw [e1] at q; exact fun H1 v x1 s1 r1 => ⟨d, p1, x1, s1, r1, q⟩
  · have lst : ∀ {a : Addr} {xs : List V} {ds : List D}, v = .ref a → (∀ H, Ext1 H1 H → SqL X.K H a xs) → RepL J.g (J.co H1) H1 xs ds → PI3 J σ H R (.ok ds p1) → wpAny (model X.prog X.w) X.A (pyIter u) (PIE X pins σ tg R) X.xe s1 := fun {a xs ds} ev hq r q => by
      subst ev
      cases r1
      obtain ⟨its, rv, pl, hz⟩ := I1.list (hq H1 .refl)
      refine wpAny_pyIter_list pl.isList ?_
      refine ⟨s1.heap.objs.size, [s1.heap.objs.size], _, _, H1, rfl, I1.kept (t' := s1.toks) fun b o e => Heap.get?_push_of_some _ e, turn_list a _, ⟨_, Heap.get?_push_size _ rfl, rfl, rfl⟩, fun b hb => ?_, q H1 _ x1 s1' (feeds_list hq r) (by rw [← r.length]; exact hz)⟩
      have e : b = s1.heap.objs.size := by simpa using hb
      subst e
      exact I1.fpOk (Nat.le_refl _) (I1.hok.fresh (Nat.le_refl _))
    have tup : ∀ {a : Addr} {xs : List V} {ds : List D}, v = .ref a → (∀ H, Ext1 H1 H → SqT X.K H a xs) → RepL J.g (J.co H1) H1 xs ds → PI3 J σ H R (.ok ds p1) → wpAny (model X.prog X.w) X.A (pyIter u) (PIE X pins σ tg R) X.xe s1 := fun {a xs ds} ev hq r q => by
      subst ev
      cases r1
      obtain ⟨its, rv, pl, hz⟩ := I1.tuple (hq H1 .refl)
      refine wpAny_pyIter_tuple (show s1.heap.IsTuple a its.toArray from pl) ?_
      refine ⟨s1.heap.objs.size, [s1.heap.objs.size], _, _, H1, rfl, I1.kept (t' := s1.toks) fun b o e => Heap.get?_push_of_some _ e, turn_tuple a _, ⟨_, Heap.get?_push_size _ rfl, rfl, rfl⟩, fun b hb => ?_, q H1 _ x1 s1' (feeds_tup hq r) (by rw [← r.length]; exact hz)⟩
      have e : b = s1.heap.objs.size := by simpa using hb
      subst e
      exact I1.fpOk (Nat.le_refl _) (I1.hok.fresh (Nat.le_refl _))
    cases d with
    | lst ds =>
      cases rd with
      | lst sq r => exact lst rfl (fun H e => (FzL.ext e sq).sq) r q1
    | tup ds =>
      cases rd with
      | tup sq r => exact tup rfl (fun H e => by rw [← hK]; exact sqT_ext e sq) r q1
    | scr ns =>
      cases rd with
      | scr h =>
        rcases h with ⟨o, h⟩ | h
        · exact lst rfl (fun H e => (FzL.ext e ⟨o, h⟩).sq) (scrL _ _ _ ns) q1
        · exact lst rfl (fun H e => by rw [← hK]; exact h H) (scrL _ _ _ ns) q1
    | rng lo hi =>
      simp only at q1
      split at q1
      · rename_i hc
        obtain ⟨⟨h1, h2, h3, h4⟩, h5⟩ := rg_ok hc
        cases rd with
        | @rng a _ _ hr =>
          cases r1
          obtain ⟨t1, t2, t3, ho⟩ := I1.hok a _ hr
          refine wpAny_pyIter_range (show IsRange s1.heap a lo hi 1 t1 t2 t3 from ho) (small_one h1 h2 h3 h4) ?_
          refine ⟨s1.heap.objs.size, [s1.heap.objs.size], _, _, H1, rfl, I1.kept (t' := s1.toks) fun b o e => Heap.get?_push_of_some _ e, turn_range _ lo (hi - lo).toNat, ?_, fun b hb => ?_, q1 H1 _ x1 s1' (feeds_range lo hi) (by rw [irange_len]; exact h5)⟩
          · have e1 : lo + ((0 : Nat) : Int) * 1 = lo := by simp
            have e2 : (((hi - lo).toNat : Nat) : Int) - ((0 : Nat) : Int) = Builtin.Range.rangeSize lo hi 1 := by rw [rangeSize_one]; split <;> omega
            show IsRangeIter _ _ (lo + ((0 : Nat) : Int) * 1) ((((hi - lo).toNat : Nat) : Int) - ((0 : Nat) : Int)) 1
            rw [e1, e2]
            exact Heap.get?_push_size _ rfl
          · have e : b = s1.heap.objs.size := by simpa using hb
            subst e
            exact I1.fpOk (Nat.le_refl _) (I1.hok.fresh (Nat.le_refl _))
      · exact q1.elim
    | _ => exact q1.elim
/-- range(a), range(a, b) -/
def mRange1 (ms : MA) : MA := fun vw p => (ms vw p).bind fun ds p1 => match ds with
  | [.int hi] => if rgOk 0 hi then .ok (irange 0 hi) p1 else .bad
  | _ => .bad
def mRange2 (ms : MA) : MA := fun vw p => (ms vw p).bind fun ds p1 => match ds with
  | [.int lo, .int hi] => if rgOk lo hi then .ok (irange lo hi) p1 else .bad
  | _ => .bad
theorem vi_range1 {a : Expr} {p : Pos} (hm : X.mg "range" = none) (ha : VA X J [a] ms) (hg : Gl X "range" := by rfl) (hs : starEach [a] X.env = [(false, eval a X.env)] := by rfl) : VI X J tg (.Call (.Name "range" p) [a] [] pos) (mRange1 ms) := by
  refine ⟨fun pins s σ H R I h => (pi_range1 hg hm ha hs).run pins s σ H R I ?_⟩
  obtain ⟨vw, p, rr, st, q⟩ := h
  refine ⟨vw, p, rr, st, ?_⟩
  unfold mRange1 at q
  cases e1 : ms vw p with
  | bad => rw [e1] at q; exact q.elim
  | err x dv p1 => rw [e1] at q; exact q
  | ok ds p1 =>
    rw [e1] at q
    intro H1 vs x1 s1 r1
    simp only [Res.bind] at q
    split at q
    · split at q
      · rename_i hc
        obtain ⟨⟨h1, h2, h3, h4⟩, h5⟩ := rg_ok hc
        cases r1 with
        | cons r1 r2 =>
          cases r2; cases r1
          have w := q H1 _ x1 s1 (feeds_range 0 _) (by rw [irange_len]; exact h5)
          rw [Int.sub_zero] at w
          exact ⟨_, rfl, h3, h4, w⟩
      · exact q.elim
    · exact q.elim
theorem vi_range2 {a b : Expr} {p : Pos} (hm : X.mg "range" = none) (ha : VA X J [a, b] ms) (hg : Gl X "range" := by rfl) (hs : starEach [a, b] X.env = [(false, eval a X.env), (false, eval b X.env)] := by rfl) (hs2 : starEach [b] X.env = [(false, eval b X.env)] := by rfl) :
    VI X J tg (.Call (.Name "range" p) [a, b] [] pos) (mRange2 ms) := by
  refine ⟨fun pins s σ H R I h => (pi_range2 hg hm ha hs hs2).run pins s σ H R I ?_⟩
  obtain ⟨vw, p, rr, st, q⟩ := h
  refine ⟨vw, p, rr, st, ?_⟩
  unfold mRange2 at q
  cases e1 : ms vw p with
  | bad => rw [e1] at q; exact q.elim
  | err x dv p1 => rw [e1] at q; exact q
  | ok ds p1 =>
    rw [e1] at q
    intro H1 vs x1 s1 r1
    simp only [Res.bind] at q
    split at q
    · split at q
      · rename_i hc
        obtain ⟨h1, h5⟩ := rg_ok hc
        cases r1 with
        | cons r1 r2 =>
          cases r2 with
          | cons r2 r3 =>
            cases r3; cases r2; cases r1
            exact ⟨_, _, rfl, h1, q H1 _ x1 s1 (feeds_range _ _) (by rw [irange_len]; exact h5)⟩
      · exact q.elim
    · exact q.elim
/-! ### comprehensions -/
def wipeV (vw : Vw) : List Nat → Vw
  | [] => vw
  | v :: vs => (wipeV vw vs).set v none
theorem wipe_at (σ : St) : ∀ (vs : List Nat) (j : Nat), (wipe σ vs)[j]? = if j ∈ vs ∧ j < σ.length then some none else σ[j]?
  | [], j => by simp [wipe]
  | v :: vs, j => by
    unfold wipe
    by_cases hj : v = j
    · subst hj
      by_cases hl : v < σ.length
      · rw [List.getElem?_set_self (by rw [wipe_length]; exact hl), if_pos ⟨List.mem_cons_self, hl⟩]
      · rw [List.getElem?_eq_none (by rw [List.length_set, wipe_length]; exact Nat.le_of_not_lt hl), if_neg (fun z => hl z.2), List.getElem?_eq_none (Nat.le_of_not_lt hl)]
    · rw [List.getElem?_set_ne hj, wipe_at σ vs j]
      have : (j ∈ v :: vs) ↔ j ∈ vs := by simp only [List.mem_cons]; exact ⟨fun z => z.elim (fun e => absurd e.symm hj) id, .inr⟩
      by_cases hm : j ∈ vs ∧ j < σ.length
      · rw [if_pos hm, if_pos ⟨this.mpr hm.1, hm.2⟩]
      · rw [if_neg hm, if_neg fun z => hm ⟨this.mp z.1, z.2⟩]
theorem wipe_set {σ : St} {vs : List Nat} {i : Nat} (h : i ∈ vs) (x : Option V) : wipe (σ.set i x) vs = wipe σ vs := by
  apply List.ext_getElem?
  intro j
  rw [wipe_at, wipe_at, List.length_set]
  by_cases hj : i = j
  · subst hj
    by_cases hl : i < σ.length
    · rw [if_pos ⟨h, hl⟩, if_pos ⟨h, hl⟩]
    · rw [if_neg (fun z => hl z.2), if_neg (fun z => hl z.2), List.getElem?_eq_none (by rw [List.length_set]; exact Nat.le_of_not_lt hl), List.getElem?_eq_none (Nat.le_of_not_lt hl)]
  · rw [List.getElem?_set_ne hj]
theorem wipe_wipe (σ : St) (vs : List Nat) : wipe (wipe σ vs) vs = wipe σ vs := by
  apply List.ext_getElem?
  intro j
  rw [wipe_at, wipe_at, wipe_length]
  by_cases h : j ∈ vs ∧ j < σ.length
  · rw [if_pos h, if_pos h]
  · rw [if_neg h, if_neg h]
theorem wipeV_len (vw : Vw) : ∀ vs : List Nat, (wipeV vw vs).length = vw.length
  | [] => rfl
  | v :: vs => by unfold wipeV; rw [List.length_set, wipeV_len vw vs]
theorem wipeV_get {vw : Vw} {d : D} : ∀ {vs : List Nat} {j : Nat}, (wipeV vw vs)[j]? = some (some d) → vw[j]? = some (some d) ∧ j ∉ vs
  | [], j, h => ⟨h, by simp⟩
  | v :: vs, j, h => by
    unfold wipeV at h
    by_cases hj : v = j
    · subst hj
      by_cases hl : v < (wipeV vw vs).length
      · rw [List.getElem?_set_self hl] at h; cases h
      · rw [List.getElem?_eq_none (by rw [List.length_set]; exact Nat.le_of_not_lt hl)] at h; cases h
    · rw [List.getElem?_set_ne hj] at h
      obtain ⟨h1, h2⟩ := wipeV_get h
      exact ⟨h1, by simp only [List.mem_cons, not_or]; exact ⟨fun z => hj z.symm, h2⟩⟩
theorem VRep.wipe {σ : St} {H : Hp} {vw : Vw} {vs : List Nat} (r : VRep J σ H vw) : VRep J (wipe σ vs) H (wipeV vw vs) := ⟨by rw [wipeV_len, wipe_length]; exact r.len, fun i d h => by
  obtain ⟨h1, h2⟩ := wipeV_get h
  obtain ⟨v, e, rv⟩ := r.at_ i d h1
  exact ⟨v, by rw [wipe_at, if_neg (fun z => h2 z.1)]; exact e, rv⟩⟩
/-- binding of an item: to names of the block -/
def bName (i : Nat) : D → Vw → Option Vw := fun d vw => some (vw.set i (some d))
def putV : List Nat → List D → Vw → Option Vw
  | [], [], vw => some vw
  | i :: is, d :: ds, vw => putV is ds (vw.set i (some d))
  | _, _, _ => none
def bTup (is : List Nat) : D → Vw → Option Vw := fun d vw => match d with
  | .tup ds => putV is ds vw
  | _ => none
theorem VRep.set {σ : St} {H : Hp} {vw : Vw} {i : Nat} {v : V} {d : D} (r : VRep J σ H vw) (rv : J.R σ H v d) : VRep J (σ.set i (some v)) H (vw.set i (some d)) := ⟨by rw [List.length_set, List.length_set]; exact r.len, fun j d' h => by
  by_cases hj : i = j
  · subst hj
    by_cases hv : i < vw.length
    · rw [List.getElem?_set_self hv] at h
      cases h
      exact ⟨v, List.getElem?_set_self (Nat.lt_of_lt_of_le hv r.len), rv⟩
    · rw [List.getElem?_eq_none (by rw [List.length_set]; exact Nat.le_of_not_lt hv)] at h; cases h
  · rw [List.getElem?_set_ne hj] at h
    rw [List.getElem?_set_ne hj]
    exact r.at_ j d' h⟩
/-- the target g binds as bind says, names within vs -/
def Bd (J : Jc) (K : PySem.W.Frag) (vs : List Nat) (g : TG) (bind : D → Vw → Option Vw) : Prop := ∀ (σ : St) (H : Hp) (vw vw1 : Vw) (x : V) (d : D) (Q : St → Hp → Prop), VRep J σ H vw → J.R σ H x d → bind d vw = some vw1 →
  (∀ σ2, wipe σ2 vs = wipe σ vs → VRep J σ2 H vw1 → Q σ2 H) → g x σ H Q
theorem bd_name {K : PySem.W.Frag} {vs : List Nat} {i : Nat} (h : i ∈ vs) : Bd J K vs (gName i) (bName i) := fun σ H vw vw1 x d Q r rx e q => by
  cases e
  exact q _ (wipe_set h _) (r.set rx)
theorem bd_names {es : List Expr} {is vs : List Nat} {u : TGs} (h : TNames X es is u) : (∀ i ∈ is, i ∈ vs) → ∀ {σ : St} {H : Hp} {vw vw1 : Vw} {xs : List V} {ds : List D} {Q : St → Hp → Prop}, VRep J σ H vw → J.RL σ H xs ds → putV is ds vw = some vw1 →
    (∀ σ2, wipe σ2 vs = wipe σ vs → VRep J σ2 H vw1 → Q σ2 H) → u xs σ H Q := by
  induction h with
  | nil =>
    intro _ σ H vw vw1 xs ds Q r rx e q
    cases ds with
    | nil => cases rx; cases e; exact ⟨rfl, q σ rfl r⟩
    | cons d ds => cases e
  | @cons i es is t e u _ ht _ _ ih =>
    intro hi σ H vw vw1 xs ds Q r rx e q
    subst ht
    cases ds with
    | nil => cases e
    | cons d ds =>
      cases rx with
      | cons r1 r2 =>
        refine ⟨_, _, rfl, ih (fun j hj => hi j (List.mem_cons_of_mem _ hj)) (r.set r1) r2 e fun σ2 h2 r' => q σ2 ?_ r'⟩
        rw [h2, wipe_set (hi i List.mem_cons_self)]
theorem bd_tup {es : List Expr} {is vs : List Nat} {u : TGs} (h : TNames X es is u) (hi : ∀ i ∈ is, i ∈ vs) (hK : J.g.K = X.K) : Bd J X.K vs (gTup X.K is.length u) (bTup is) := fun σ H vw vw1 x d Q r rx e q => by
  unfold bTup at e
  cases d with
  | tup ds =>
    cases rx with
    | tup sq rl =>
      have len : ∀ {is : List Nat} {ds : List D} {vw vw1 : Vw}, putV is ds vw = some vw1 → ds.length = is.length := fun {is} => by
        induction is with
        | nil => intro ds vw vw1 h; cases ds with | nil => rfl | cons _ _ => cases h
        | cons i is ih => intro ds vw vw1 h; cases ds with | nil => cases h | cons d ds => exact congrArg (· + 1) (ih h)
      exact ⟨_, _, rfl, hK ▸ sq, by rw [rl.length, len e], bd_names h hi r rl e q⟩
  | _ => cases e
/-- an error within a comprehension is not served -/
def strict {α : Type} (r : Res α) : Res α := match r with
  | .err _ _ _ => .bad
  | r => r
def lcGo (bind : D → Vw → Option Vw) (mt : MB) (me : ME) (vw : Vw) : List D → P3 → Res (List D)
  | [], p => .ok [] p
  | x :: xs, p => match bind x vw with
    | none => .bad
    | some vw1 => (strict (mt vw1 p)).bind fun k p1 => if k then (strict (me vw1 p1)).bind fun y p2 => (lcGo bind mt me vw xs p2).bind fun ys p3 => .ok (y :: ys) p3 else lcGo bind mt me vw xs p1
def mLc (vs : List Nat) (bind : D → Vw → Option Vw) (mi : MA) (mt : MB) (me : ME) : MA := fun vw p => (mi vw p).bind fun ds p1 => lcGo bind mt me (wipeV vw vs) ds p1
def Jc.blk (J : Jc) : Jc := { J with W := fun _ _ _ _ => False }
theorem VRep.toBlk {J : Jc} {σ : St} {H : Hp} {vw : Vw} (r : VRep J σ H vw) : VRep J.blk σ H vw := ⟨r.len, r.at_⟩
def hdel (H : Hp) (a : Addr) : Hp := fun b => if b = a then none else H b
theorem hdel_upd {H : Hp} {a : Addr} {o : HO} (h : H a = some o) : upd (hdel H a) a o = H := by
  funext b
  by_cases hb : b = a
  · subst hb; rw [upd_same, h]
  · rw [upd_ne hb]; exact if_neg hb
theorem StR.del {g : Gx} {H : Hp} {p : P3} {a : Addr} {xs : List V} (s : StR g H p) (h : H a = some (.lst xs)) (hp : g.pa ≠ some a) : StR g (hdel H a) p := by
  have q := s.pot
  refine ⟨?_, fun P hP => ?_⟩
  · unfold PotR at q ⊢
    split at q
    · rename_i e1
      show hdel H _ _ = _
      unfold hdel
      rw [if_neg]
      · exact q
      · intro e; exact hp (by rw [e1, e])
    · trivial
    · exact q
  · obtain ⟨ps, h1, h2, h3⟩ := s.tab P hP
    refine ⟨ps, ?_, h2, fun pos cv hc => ?_⟩
    · unfold hdel
      rw [if_neg]
      · exact h1
      · intro e; rw [e, h] at h1; cases h1
    · obtain ⟨c, e1, e2⟩ := h3 pos cv hc
      refine ⟨c, e1, ?_⟩
      unfold hdel
      rw [if_neg]
      · exact e2
      · intro e; rw [e, h] at e2; unfold CodeO at e2; cases e2
theorem ext1_del {H : Hp} {a : Addr} {xs : List V} (h : H a = some (.lst xs)) : Ext1 H (hdel H a) := fun b o e k => by
  unfold hdel
  rw [if_neg]
  · exact e
  · intro z; rw [z, h] at e; cases e; exact k
theorem pot_ne {g : Gx} {H : Hp} {p : P3} {a : Addr} (s : StR g H p) (h : H a = none) : g.pa ≠ some a := fun e => by
  have q := s.pot
  unfold PotR at q
  rw [e] at q
  cases p with
  | none => exact q
  | some p => obtain ⟨x, y, z⟩ := p; replace q : H a = _ := q; rw [h] at q; cases q
theorem StR.updL {g : Gx} {H : Hp} {p : P3} {a : Addr} {xs ys : List V} (s : StR g H p) (h : H a = some (.lst xs)) (hp : g.pa ≠ some a) : StR g (upd H a (.lst ys)) p := by
  have w := (s.del h hp).grow (Grow.upd (H := hdel H a) (p := a) (o := .lst ys) (if_pos rfl))
  have e : upd (hdel H a) a (.lst ys) = upd H a (.lst ys) := by
    funext b
    by_cases hb : b = a
    · subst hb; rw [upd_same, upd_same]
    · rw [upd_ne hb, upd_ne hb]; exact if_neg hb
  rw [e] at w
  exact w
theorem ext1_lst {H : Hp} {a : Addr} {xs : List V} {u : HO} (h : H a = some (.lst xs)) : Ext1 H (upd H a u) := fun b o e k => by
  rw [upd_ne]
  · exact e
  · intro z; rw [z, h] at e; cases e; exact k
/-- a list of one's own is turned: what it is measured from doesn't see it -/
theorem ext_updL {g : Gx} {H0 H : Hp} {a : Addr} {u : HO} (e : Ext g H0 H) (h : H0 a = none) : Ext g H0 (upd H a u) := fun b o q k n => by
  rw [upd_ne (ne_of_none q h)]
  exact e b o q k n
theorem vn_lc_logic {mi : MA} {mt : MB} {me : ME} {vs : List Nat} {g : TG} {bind : D → Vw → Option Vw} {K : PySem.W.Frag} (bd : Bd J K vs g bind) {σ : St} {H : Hp} {Q : VK}
    (h : tN J (mLc vs bind mi mt me) σ H Q) : tLc (tI J mi) g (tB J.blk mt) (tV J.blk me) vs σ H Q := by
  obtain ⟨vw, p, rr, st, q⟩ := h
  refine ⟨vw, p, rr, st, ?_⟩
  unfold mLc at q
  cases e1 : mi vw p with
  | bad => rw [e1] at q; exact q.elim
  | err x dv p1 => rw [e1] at q; exact q
  | ok ds p1 =>
    rw [e1] at q
    simp only [Res.bind] at q
    intro H1 I x1 s1 F hz DD hD
    have nP := pot_ne s1 hD
    have rw1 : ∀ {H' : Hp}, Ext J.g H1 H' → VRep J (wipe σ vs) H' (wipeV vw vs) := fun {H'} e => (rr.ext (x1.trans e)).wipe
    -- the invariant
    refine ⟨fun i mm H' => mm = ds.length - i ∧ i ≤ ds.length ∧ ∃ p' acc ys, StR J.g H' p' ∧ Ext J.g H1 H' ∧ H' DD = some (.lst acc) ∧ J.RL σ H' acc ys ∧ acc.length ≤ i ∧ PN J σ H Q ((lcGo bind mt me (wipeV vw vs) (ds.drop i) p').bind fun zs p2 => .ok (ys ++ zs) p2),
      ⟨ds.length, by simp, Nat.zero_le _, p1, [], [], s1.grow (Grow.upd hD), (Grow.upd hD).ext, upd_same, .nil, Nat.le_refl _, ?_⟩, fun i mm H' ⟨hm, hi, p', acc, ys, s2, x2, hacc, racc, hlacc, q2⟩ => ?_⟩
    · rw [List.drop_zero]
      cases e2 : lcGo bind mt me (wipeV vw vs) ds p1 with
      | bad => rw [e2] at q; exact q
      | err x dv p2 => rw [e2] at q; exact q
      | ok zs p2 => rw [e2] at q; exact q
    · by_cases hlt : i < ds.length
      · refine .inr ⟨F.go i H' x2.hard hlt, fun H'' => ∃ p' acc ys, StR J.g H'' p' ∧ Ext J.g H1 H'' ∧ H'' DD = some (.lst acc) ∧ J.RL σ H'' acc ys ∧ acc.length ≤ i + 1 ∧ PN J σ H Q ((lcGo bind mt me (wipeV vw vs) (ds.drop (i + 1)) p').bind fun zs p2 => .ok (ys ++ zs) p2), fun H'' hN => ⟨ds.length - (i + 1), by omega, rfl, hlt, hN⟩, fun x H3 hy => ?_⟩
        have hd : ds[i]? = some ds[i] := List.getElem?_eq_getElem hlt
        obtain ⟨g3, rx⟩ := F.yld i H' x H3 _ x2.hard hd hy
        rw [List.drop_eq_getElem_cons hlt] at q2
        unfold lcGo at q2
        cases e3 : bind ds[i] (wipeV vw vs) with
        | none => rw [e3] at q2; exact q2.elim
        | some vw1 =>
          rw [e3] at q2
          have x3 : Ext J.g H1 H3 := x2.trans g3.ext
          have s3 := s2.grow g3
          refine bd (wipe σ vs) H3 (wipeV vw vs) vw1 x ds[i] _ (rw1 x3) rx e3 fun σ2 hw r2 => ?_
          · rw [wipe_wipe] at hw
            refine ⟨hw, vw1, p', r2.toBlk, s3, ?_⟩
            simp only at q2
            cases e4 : mt vw1 p' with
            | bad => rw [e4] at q2; exact q2.elim
            | err x dv p2 => rw [e4] at q2; exact q2.elim
            | ok k p2 =>
              rw [e4] at q2
              simp only [strict, Res.bind] at q2
              intro H4 x4 s4
              have x14 := x3.trans x4
              have hacc4 : H4 DD = some (.lst acc) := x4.keepL (g3 _ _ hacc) nP
              have racc4 : J.RL σ H4 acc ys := J.extL (g3.ext.trans x4) racc
              cases k with
              | false =>
                rw [if_neg Bool.false_ne_true]
                simp only [Bool.false_eq_true, if_false] at q2
                exact ⟨p2, acc, ys, s4, x14, hacc4, racc4, by omega, q2⟩
              | true =>
                rw [if_pos rfl]
                simp only [if_true] at q2
                refine ⟨vw1, p2, (VRep.ext (J := J) x4 r2).toBlk, s4, ?_⟩
                cases e5 : me vw1 p2 with
                | bad => rw [e5] at q2; exact q2.elim
                | err x dv p3 => rw [e5] at q2; exact q2.elim
                | ok y p3 =>
                  rw [e5] at q2
                  simp only at q2
                  intro H5 v5 x5 s5 r5
                  have x15 := x14.trans x5
                  have hacc5 : H5 DD = some (.lst acc) := x5.keepL hacc4 nP
                  refine ⟨acc, hacc5, ?_, p3, acc ++ [v5], ys ++ [y], s5.updL hacc5 nP, ext_updL x15 hD, upd_same, ?_, ?_, ?_⟩
                  · have : acc.length < ds.length := Nat.lt_of_le_of_lt hlacc hlt
                    exact Nat.lt_of_lt_of_le this hz
                  · exact J.extL1 (ext1_lst hacc5) ((J.extL x5 racc4).append (.cons r5 .nil))
                  · rw [List.length_append]
                    exact Nat.add_le_add_right hlacc 1
                  · cases e6 : lcGo bind mt me (wipeV vw vs) (ds.drop (i + 1)) p3 with
                    | bad => rw [e6] at q2; exact q2
                    | err x dv p4 => rw [e6] at q2; exact q2
                    | ok zs p4 =>
                      rw [e6] at q2
                      simp only at q2
                      show PN J σ H Q (.ok ((ys ++ [y]) ++ zs) p4)
                      rw [show (ys ++ [y]) ++ zs = ys ++ (y :: zs) by simp]
                      exact q2
      · have hie : i = ds.length := by omega
        subst hie
        refine .inl ⟨F.stop H' x2.hard, ?_⟩
        rw [List.drop_length] at q2
        simp only [lcGo, Res.bind, List.append_nil] at q2
        have w := q2 (hdel H' DD) DD acc (x1.trans fun b o e k n => ?_) (s2.del hacc nP) (if_pos rfl) (J.extL1 (ext1_del hacc) racc)
        · rw [hdel_upd hacc] at w
          exact w
        · unfold hdel
          rw [if_neg (ne_of_none e hD)]
          exact x2 b o e k n
variable {base : Heap} {k : Nat}
theorem Fr0.blk (F : Fr0 X J base k) {s : Shared} {H : Hp} {scope : Scope} {ce : Env} {fp : List Addr} : Fr0 (X.blk s H scope ce fp) J.blk base k :=
  ⟨F.K, F.mg, F.bs, fun u s' ⟨_, _, _, _, _, _, _, _, _, _, _, _, _, _, _, _, z⟩ => z.elim, F.room, F.gd, F.calm⟩
theorem pts_tB {X : Cx} {J : Jc} : PTs X [] (tB J fun _ p => .ok true p) := ⟨fun pins s σ H Q I ⟨vw, p, r, st, q⟩ => pts_nil.run pins s σ H Q I (q H .refl st)⟩
def bTrue : MB := fun _ p => .ok true p
theorem vn_lc {elt tg iter : Expr} {ifs : List Expr} {scope : Scope} {own : List (Str × Nat)} {mi : MA} {mt : MB} {me : ME} {g : TG} {bind : D → Vw → Option Vw} (hc : X.calm = true) (hN : X.N.Nodup) (hi : VI X J tg iter mi) (ok : BlkOk X.N X.env.scope scope own)
    (bd : Bd J X.K (own.map (·.2)) g bind)
    (hg : ∀ (s : Shared) (H : Hp) (C : Addr) (cl : List (Str × Addr)) (fp : List Addr), PG (X.blk s H scope (compEnvC scope cl C X.env) fp) tg g)
    (ht : ∀ (s : Shared) (H : Hp) (C : Addr) (cl : List (Str × Addr)) (fp : List Addr), PTs (X.blk s H scope (compEnvC scope cl C X.env) fp) ifs (tB J.blk mt))
    (he : ∀ (s : Shared) (H : Hp) (C : Addr) (cl : List (Str × Addr)) (fp : List Addr), VE (X.blk s H scope (compEnvC scope cl C X.env) fp) J.blk elt me) (hs : ∀ x, foldedSetIterable iter X.env x = pure x := by intro _; rfl) :
    VN X J (.ListComp elt [⟨tg, iter, ifs, 0⟩] scope pos) (mLc (own.map (·.2)) bind mi mt me) :=
  pe_imp (pe_lc hc hN hi ok hg ht he hs) fun σ H Q q => vn_lc_logic bd q
end
end VL

namespace VL
open PySem PySem.Spec PyProof.Rows L2 LamX
section
variable {X : Cx} {J : Jc} {base : Heap} {k : Nat} {e : Expr} {pos : Pos}
/-! ### for -/
def forL (bind : D → En → Option En) (mb : MS) : List D → MS
  | [], env, p => .ok (.nx, env) p
  | x :: xs, env, p => match bind x env with
    | none => .bad
    | some env1 => match mb env1 p with
      | .ok (.nx, e) p1 => forL bind mb xs e p1
      | .ok (.ct, e) p1 => forL bind mb xs e p1
      | .ok (.bk, e) p1 => .ok (.nx, e) p1
      | .ok (.ret d, e) p1 => .ok (.ret d, e) p1
      | .ok (.rtl _, _) _ => .bad
      | .err x v p1 => .err x v p1
      | .bad => .bad
def sFor (bind : D → En → Option En) (mi : MA) (mb : MS) : MS := fun env p => match mi (vwOf env) p with
  | .ok ds p1 => forL bind mb ds env p1
  | .err x v p1 => .err x v p1
  | .bad => .bad
def eName (i : Nat) : D → En → Option En := fun d env => some (setE env i (.p d))
def eTup (is : List Nat) : D → En → Option En := fun d env => match d with
  | .tup ds => putAll is ds env
  | _ => none
def BdE (X : Cx) (J : Jc) (g : TG) (bind : D → En → Option En) : Prop := ∀ (σ : St) (H : Hp) (env env1 : En) (x : V) (d : D) (Q : St → Hp → Prop), ERep X J σ H env → J.R σ H x d → bind d env = some env1 → (∀ σ', ERep X J σ' H env1 → Q σ' H) → g x σ H Q
theorem be_name {i : Nat} : BdE X J (gName i) (eName i) := fun σ H env env1 x d Q r rx e q => by
  cases e
  exact q _ (r.set rx)
theorem be_tup {es : List Expr} {is : List Nat} {u : TGs} (ht : TNames X es is u) (hK : J.g.K = X.K) : BdE X J (gTup X.K is.length u) (eTup is) := fun σ H env env1 x d Q r rx e q => by
  unfold eTup at e
  cases d with
  | tup ds =>
    cases rx with
    | tup sq rl => exact ⟨_, _, rfl, hK ▸ sq, by rw [rl.length, putAll_len e], tn_run ht rl r e q⟩
  | _ => cases e
theorem vs_for {tg iter : Expr} {body : List Stmt} {mi : MA} {mb : MS} {g : TG} {bind : D → En → Option En} (hp : PassesOwn (model X.prog X.w) X.A X.env X.xe) (hc : X.calm = true) (hi : VI X J tg iter mi) (hg : PG X tg g) (bd : BdE X J g bind) (hb : VSs X J body mb)
    (hs : ∀ x, foldedSetIterable iter X.env x = pure x := by intro _; rfl) : VS X J (.For tg iter body [] pos) (sFor bind mi mb) := by
  refine ps_imp (ps_for hp hc hi hg hb hs) fun Dn σ H ⟨env, p, r, s, q⟩ => ⟨vwOf env, p, r.vrep, s, ?_⟩
  unfold sFor at q
  cases e1 : mi (vwOf env) p with
  | bad => rw [e1] at q; exact q
  | err x dv p1 => rw [e1] at q; exact err_st r q
  | ok ds p1 =>
    rw [e1] at q
    simp only at q
    intro H1 I x1 s1 F hz
    refine ⟨fun i m σ' H' => m = ds.length - i ∧ i ≤ ds.length ∧ ∃ env' p', ERep X J σ' H' env' ∧ StR J.g H' p' ∧ Ext1 H1 H' ∧ PSt X J Dn σ' H' (forL bind mb (ds.drop i) env' p'),
      ⟨ds.length, by simp, Nat.zero_le _, env, p1, r.ext1 x1, s1, .refl, by rw [List.drop_zero]; exact PSt.at_ q x1.hard⟩, fun i m σ' H' ⟨hm, hi, env', p', r', s', x', q'⟩ => ?_⟩
    by_cases hlt : i < ds.length
    · refine .inr ⟨F.go i H' x' hlt, fun σ2 H2 => ∃ env' p', ERep X J σ2 H2 env' ∧ StR J.g H2 p' ∧ Ext1 H1 H2 ∧ PSt X J Dn σ2 H2 (forL bind mb (ds.drop (i + 1)) env' p'), fun σ2 H2 hN => ⟨ds.length - (i + 1), by omega, rfl, hlt, hN⟩, fun x H3 hy => ?_⟩
      have hd : ds[i]? = some ds[i] := List.getElem?_eq_getElem hlt
      obtain ⟨g3, rx⟩ := F.yld i H' x H3 _ x' hd hy
      rw [List.drop_eq_getElem_cons hlt] at q'
      unfold forL at q'
      cases e3 : bind ds[i] env' with
      | none => rw [e3] at q'; exact q'.elim
      | some env1 =>
        rw [e3] at q'
        have g3e : Ext J.g H' H3 := g3.ext
        refine bd σ' H3 env' env1 x ds[i] _ (r'.ext1 g3e) rx e3 fun σ2 r2 => ⟨env1, p', r2, s'.grow g3, ?_⟩
        simp only at q'
        cases e4 : mb env1 p' with
        | bad => rw [e4] at q'; exact q'
        | err y dv p2 => rw [e4] at q'; exact q'
        | ok fe p2 =>
          obtain ⟨fl, env2⟩ := fe
          rw [e4] at q'
          cases fl with
          | nx => exact fun σ4 H4 r4 s4 x4 => ⟨env2, p2, r4, s4, (x'.trans g3e.hard).trans x4, PSt.at_ q' (g3e.hard.trans x4)⟩
          | ct => exact fun σ4 H4 r4 s4 x4 => ⟨env2, p2, r4, s4, (x'.trans g3e.hard).trans x4, PSt.at_ q' (g3e.hard.trans x4)⟩
          | bk => exact fun σ4 H4 r4 s4 x4 => q' σ4 H4 r4 s4 (g3e.hard.trans x4)
          | ret d => exact q'
          | rtl d => exact q'.elim
    · have hie : i = ds.length := by omega
      subst hie
      rw [List.drop_length] at q'
      exact .inl ⟨F.stop H' x', q' σ' H' r' s' .refl⟩
/-! ### while -/
def whileL (c : MB) (mb : MS) : Nat → MS
  | 0, _, _ => .bad
  | n + 1, env, p => match c (vwOf env) p with
    | .ok false p1 => .ok (.nx, env) p1
    | .ok true p1 => match mb env p1 with
      | .ok (.nx, e) p2 => whileL c mb n e p2
      | .ok (.ct, e) p2 => whileL c mb n e p2
      | .ok (.bk, e) p2 => .ok (.nx, e) p2
      | .ok (.ret d, e) p2 => .ok (.ret d, e) p2
      | .ok (.rtl _, _) _ => .bad
      | .err x v p2 => .err x v p2
      | .bad => .bad
    | .err x v p1 => .err x v p1
    | .bad => .bad
theorem vs_while {c : Expr} {body : List Stmt} {mc : MB} {mb : MS} (N : Nat) (hp : PassesOwn (model X.prog X.w) X.A X.env X.xe) (hc : VT X J c mc) (hb : VSs X J body mb) : VS X J (.While c body [] pos) (whileL mc mb N) := by
  refine ps_imp (ps_while hp hc hb) fun Dn σ H ⟨env, p, r, s, q⟩ => ?_
  refine ⟨fun n σ' H' => ∃ env' p', ERep X J σ' H' env' ∧ StR J.g H' p' ∧ PSt X J Dn σ' H' (whileL mc mb n env' p'), ⟨N, env, p, r, s, q⟩, fun n σ' H' ⟨env', p', r', s', q'⟩ => ⟨vwOf env', p', r'.vrep, s', ?_⟩⟩
  cases n with
  | zero => exact q'.elim
  | succ n =>
    unfold whileL at q'
    cases e1 : mc (vwOf env') p' with
    | bad => rw [e1] at q'; exact q'
    | err x dv p1 => rw [e1] at q'; exact err_st r' q'
    | ok b p1 =>
      rw [e1] at q'
      intro H1 x1 s1
      cases b with
      | false =>
        rw [if_neg Bool.false_ne_true]
        exact q' σ' H1 (r'.ext1 x1) s1 x1.hard
      | true =>
        rw [if_pos rfl]
        refine ⟨fun σ2 H2 => ∃ env' p', ERep X J σ2 H2 env' ∧ StR J.g H2 p' ∧ PSt X J Dn σ2 H2 (whileL mc mb n env' p'), fun σ2 H2 hN => ⟨n, Nat.lt_succ_self n, hN⟩, env', p1, r'.ext1 x1, s1, ?_⟩
        simp only at q'
        cases e2 : mb env' p1 with
        | bad => rw [e2] at q'; exact q'
        | err y dv p2 => rw [e2] at q'; exact q'
        | ok fe p2 =>
          obtain ⟨fl, env2⟩ := fe
          rw [e2] at q'
          cases fl with
          | nx => exact fun σ4 H4 r4 s4 x4 => ⟨env2, p2, r4, s4, PSt.at_ q' (x1.hard.trans x4)⟩
          | ct => exact fun σ4 H4 r4 s4 x4 => ⟨env2, p2, r4, s4, PSt.at_ q' (x1.hard.trans x4)⟩
          | bk => exact fun σ4 H4 r4 s4 x4 => q' σ4 H4 r4 s4 (x1.hard.trans x4)
          | ret d => exact q'
          | rtl d => exact q'.elim
/-! ### lists of one's own -/
def onN (m : MA) (k : List D → En → P3 → Res (Fl × En)) : MS := fun env p => match m (vwOf env) p with
  | .ok d p1 => k d env p1
  | .err x v p1 => .err x v p1
  | .bad => .bad
theorem ERep.own {σ : St} {H : Hp} {env : En} {p : P3} {i : Nat} {a : Addr} {xs : List V} {ds : List D} (r : ERep X J σ H env) (s : StR J.g H p) (ha : H a = none) (rl : J.RL σ H xs ds) : ERep X J (σ.set i (some (.ref a))) (upd H a (.lst xs)) (setE env i (.l ds)) := by
  have gr : Ext J.g H (upd H a (.lst xs)) := (Grow.upd ha).ext
  have fresh : ∀ j, isOwn env j → σ[j]? ≠ some (some (.ref a)) := fun j ⟨ds', h⟩ e => by
    obtain ⟨b, ys, h1, h2, _⟩ := r.slot j _ h
    rw [e] at h1
    cases h1
    rw [ha] at h2
    cases h2
  refine ⟨by unfold setE; rw [List.length_set, List.length_set, r.len], fun j sl h => ?_, fun a' b c hab hA hB => ?_, r.ext.trans gr⟩
  · unfold setE at h
    by_cases hj : i = j
    · subst hj
      by_cases hl : i < env.length
      · rw [List.getElem?_set_self hl] at h
        cases h
        refine ⟨a, xs, by rw [List.getElem?_set_self (by rw [← r.len]; exact hl)], upd_same, J.extL gr rl, pot_ne s ha, fun o ho => ?_⟩
        refine Classical.byContradiction fun z => ?_
        have w := r.ext a o ho (fun e => absurd e (pot_ne s ha)) fun ps e => z ⟨ps, e⟩
        rw [ha] at w
        cases w
      · rw [List.getElem?_eq_none (by rw [List.length_set]; exact Nat.le_of_not_lt hl)] at h; cases h
    · rw [List.getElem?_set_ne hj] at h
      have q := (r.ext1 gr).slot j sl h
      cases sl with
      | p d' =>
        obtain ⟨v', h1, h2⟩ := q
        exact ⟨v', by rw [List.getElem?_set_ne hj]; exact h1, h2⟩
      | l ds =>
        obtain ⟨a, xs, h1, h2, h3, h4⟩ := q
        exact ⟨a, xs, by rw [List.getElem?_set_ne hj]; exact h1, h2, h3, h4⟩
  · have old : ∀ j, j ≠ i → isOwn (setE env i (.l ds)) j → isOwn env j := fun j hj ⟨ds', h⟩ => by
      unfold setE at h
      rw [List.getElem?_set_ne (Ne.symm hj)] at h
      exact ⟨ds', h⟩
    have at_i : ∀ j, isOwn (setE env i (.l ds)) j → j < env.length := fun j ⟨ds', h⟩ => by
      have := (List.getElem?_eq_some_iff.mp h).1
      unfold setE at this
      rw [List.length_set] at this
      exact this
    by_cases h1 : a' = i
    · subst h1
      have hb : b ≠ a' := fun e => hab e.symm
      rw [List.getElem?_set_self (by rw [← r.len]; exact at_i a' hA), List.getElem?_set_ne (Ne.symm hb)]
      intro e1 e2
      cases e1
      exact fresh b (old b hb hB) e2
    · by_cases h2 : b = i
      · subst h2
        rw [List.getElem?_set_ne (Ne.symm h1), List.getElem?_set_self (by rw [← r.len]; exact at_i b hB)]
        intro e1 e2
        cases e2
        exact fresh a' (old a' h1 hA) e1
      · rw [List.getElem?_set_ne (Ne.symm h1), List.getElem?_set_ne (Ne.symm h2)]
        exact r.dist a' b c hab (old a' h1 hA) (old b h2 hB)
def sNew (i : Nat) (ms : MA) : MS := onN ms fun ds env p => .ok (.nx, setE env i (.l ds)) p
theorem new_logic {i : Nat} {ms : MA} {Dn : Ends} {σ : St} {H : Hp} (h : tS X J (sNew i ms) Dn σ H) : tAsg (tN J ms) (gName i) Dn σ H := by
  obtain ⟨env, p, r, s, q⟩ := h
  refine ⟨vwOf env, p, r.vrep, s, ?_⟩
  unfold sNew onN at q
  cases e1 : ms (vwOf env) p with
  | bad => rw [e1] at q; exact q
  | err x dv p1 => rw [e1] at q; exact err_st r q
  | ok d p1 =>
    rw [e1] at q
    intro H1 a xs x1 s1 hn r1
    exact q _ _ ((r.ext1 x1).own s1 hn r1) (s1.grow (Grow.upd hn)) (x1.hard.trans (Grow.ext (g := J.g) (Grow.upd hn)).hard)
theorem vs_new {i : Nat} {x : Str} {ms : MA} {pos' : Pos} (hN : X.N.Nodup) (he : VN X J e ms) (hi : X.N[i]? = some x := by rfl) (hx : Loc X.env.scope x := by first | exact Or.inl rfl | exact Or.inr rfl) (hs : swapsWith e (some (.Name x pos')) pos.line X.env = pure false := by rfl)
    (hfn : X.fn x = true ∨ X.env.scope.names.lookup x = some .local := by first | exact .inl rfl | exact .inr rfl) : VS X J (.Assign [.Name x pos'] e pos) (sNew i ms) :=
  ps_imp (ps_set hN hi hx he hs hfn) fun Dn σ H q => new_logic q
theorem vs_newLc {i : Nat} {y : Str} {py : Pos} {elt tg iter : Expr} {ifs : List Expr} {scope : Scope} {own : List (Str × Nat)} {spos : Pos} {mi : MA} {mt : MB} {me : ME} {g : TG} {bind : D → Vw → Option Vw} (hc : X.calm = true) (hN : X.N.Nodup) (hi : VI X J tg iter mi) (ok : BlkOk X.N X.env.scope scope own)
    (bd : Bd J X.K (own.map (·.2)) g bind)
    (hg : ∀ (s : Shared) (H : Hp) (C : Addr) (cl : List (Str × Addr)) (fp : List Addr), PG (X.blk s H scope (compEnvC scope cl C X.env) fp) tg g)
    (ht : ∀ (s : Shared) (H : Hp) (C : Addr) (cl : List (Str × Addr)) (fp : List Addr), PTs (X.blk s H scope (compEnvC scope cl C X.env) fp) ifs (tB J.blk mt))
    (he : ∀ (s : Shared) (H : Hp) (C : Addr) (cl : List (Str × Addr)) (fp : List Addr), VE (X.blk s H scope (compEnvC scope cl C X.env) fp) J.blk elt me)
    (hsw : swapsWith (.ListComp elt [⟨tg, iter, ifs, 0⟩] scope pos) (some (.Name y py)) spos.line X.env = pure true)
    (hy : X.N[i]? = some y := by rfl) (hyl : X.env.scope.names.lookup y = some .local := by rfl) (hs : ∀ x, foldedSetIterable iter X.env x = pure x := by intro _; rfl) :
    VS X J (.Assign [.Name y py] (.ListComp elt [⟨tg, iter, ifs, 0⟩] scope pos) spos) (sNew i (mLc (own.map (·.2)) bind mi mt me)) := by
  refine ps_imp (ps_setLc hc hN hy hyl hsw hi ok hg ht he hs) fun Dn σ H q => ?_
  have w := new_logic q
  exact vn_lc_logic bd w
/-- from here on the list in slot i never changes -/
def sFreeze (i : Nat) (m : MS) : MS := fun env p => match env[i]? with
  | some (some (.l ds)) => m (setE env i (.p (.lst ds))) p
  | _ => .bad
theorem ERep.freeze {σ : St} {H : Hp} {env : En} {i : Nat} {a : Addr} {xs : List V} {ds : List D} {o : Obj} (r : ERep X J σ H env) (hi : env[i]? = some (some (.l ds))) (hs : σ[i]? = some (some (.ref a))) (ha : H a = some (.lst xs)) (rl : J.RL σ H xs ds) (ow : Own X J.g a) : ERep X J σ (upd H a (.frz o (.lst xs))) (setE env i (.p (.lst ds))) := by
  have e1 : Ext1 H (upd H a (.frz o (.lst xs))) := ext1_lst ha
  refine ⟨by unfold setE; rw [List.length_set, r.len], fun j sl h => ?_, fun a' b c hab hA hB => ?_, fun b u hb k n => ?_⟩
  · unfold setE at h
    by_cases hj : i = j
    · subst hj
      rw [List.getElem?_set_self (List.getElem?_eq_some_iff.mp hi).1] at h
      cases h
      exact ⟨.ref a, hs, .lst ⟨o, upd_same⟩ (J.extL1 e1 rl)⟩
    · rw [List.getElem?_set_ne hj] at h
      have q := r.slot j sl h
      cases sl with
      | p d' =>
        obtain ⟨v', h1, h2⟩ := q
        exact ⟨v', h1, J.ext1 e1 h2⟩
      | l ds' =>
        obtain ⟨b, ys, h1, h2, h3, h4⟩ := q
        refine ⟨b, ys, h1, ?_, J.extL1 e1 h3, h4⟩
        rw [upd_ne]
        · exact h2
        · intro e
          subst e
          exact r.dist i j b hj ⟨ds, hi⟩ ⟨ds', h⟩ hs h1
  · have old : ∀ j, isOwn (setE env i (.p (.lst ds))) j → isOwn env j := fun j ⟨ds', h⟩ => by
      unfold setE at h
      by_cases hj : i = j
      · subst hj
        rw [List.getElem?_set_self (List.getElem?_eq_some_iff.mp hi).1] at h
        cases h
      · rw [List.getElem?_set_ne hj] at h
        exact ⟨ds', h⟩
    exact r.dist a' b c hab (old a' hA) (old b hB)
  · have hne : b ≠ a := fun e => by
      subst e
      obtain ⟨ps, e⟩ := ow.2 u hb
      exact n ps e
    rw [upd_ne hne]
    exact r.ext b u hb k n
theorem StR.frzL {g : Gx} {H : Hp} {p : P3} {a : Addr} {xs : List V} {o : Obj} (s : StR g H p) (h : H a = some (.lst xs)) (hp : g.pa ≠ some a) : StR g (upd H a (.frz o (.lst xs))) p := by
  have w := (s.del h hp).grow (Grow.upd (H := hdel H a) (p := a) (o := .frz o (.lst xs)) (if_pos rfl))
  have e : upd (hdel H a) a (.frz o (.lst xs)) = upd H a (.frz o (.lst xs)) := by
    funext b
    by_cases hb : b = a
    · subst hb; rw [upd_same, upd_same]
    · rw [upd_ne hb, upd_ne hb]; exact if_neg hb
  rw [e] at w
  exact w
theorem vss_freeze {sts : List Stmt} {m : MS} (i : Nat) (h : VSs X J sts m) : VSs X J sts (sFreeze i m) := by
  refine ⟨fun pins s σ H Dn I ⟨env, p, r, st, q⟩ => ?_⟩
  unfold sFreeze at q
  split at q
  · rename_i ds hi
    obtain ⟨a, xs, h1, h2, h3, h4⟩ := r.slot i _ hi
    obtain ⟨o, I2⟩ := inv_freeze I h2
    exact h.run pins s σ _ Dn I2 ⟨_, p, r.freeze hi h1 h2 h3 h4, st.frzL h2 h4.1, PSt.at_ q (ext1_lst h2)⟩
  · exact q.elim
end
end VL

namespace VL
open PySem PySem.Spec PyProof.Rows L2 LamX
/-! ### times -/
theorem op_repF {X : Cx} : OpR X (binaryOp .Mult) rRepF := by
  intro pins s σ H x y v u Q I rx ry h
  obtain ⟨l, k, xs, rfl, rfl, hH, h1, h2, hz, q⟩ := h
  cases rx
  obtain ⟨t, rfl⟩ := ry
  obtain ⟨z, its, n, r, e⟩ := inv_fz I hH
  have hl := r.length
  have hlen : its.toArray.size * k.toNat ≤ sizeLine := by rw [List.size_toArray, ← hl]; exact hz
  have hcap : ¬ its.toArray.size * k.toNat > (2 ^ 63 - 1) / 8 := by
    have : (sizeLine : Nat) ≤ (2 ^ 63 - 1) / 8 := by decide
    omega
  have hfit : ¬ (!Builtin.List.listFitsIndex k) = true := by
    rw [fitsIndex_both h1 h2]
    exact Bool.false_ne_true
  have hlong : ¬ Builtin.List.listTooLong (its.toArray.size * k.toNat) = true := by
    rw [notLongL hlen]
    exact Bool.false_ne_true
  have hnew : List.foldl (fun x1 x2 => x1 ++ x2) #[] (List.replicate (if its.toArray.isEmpty = true then 0 else k.toNat) its.toArray) = (List.replicate k.toNat its).flatten.toArray := by
    have f0 : ∀ m : Nat, List.foldl (fun x1 x2 => x1 ++ x2) #[] (List.replicate m its.toArray) = (List.replicate m its).flatten.toArray := fun m => by
      have := foldl_rep its m []
      rw [List.nil_append] at this
      exact this
    rw [f0]
    cases its with
    | nil => simp
    | cons a r' => rw [if_neg (by simp)]
  refine wpAny_binaryOp_repeat_ref (T := "list") (U := "int") (by decide) ⟨_, e, rfl⟩ (fun s' => typeIs_int s' k t) noFill_list_mul F.fills_int_mul F.slot_int_rmul repeat_list F.slot_int_index.lookup
    (call_meets F.slot_int_rmul (typeIs_int s k t) F.entry_int_rmul (F.args_int_rmul_2 _ _) (int___rmul___int_list k t l its.toArray n)
      ⟨e, rfl, ⟨_, e, rfl⟩, call_meets F.slot_list_mul ⟨_, e, rfl⟩ F.entry_list_mul (F.args_list_mul_2 _ _) (AutoListH.list___mul___list_int_3 l its.toArray n k t hfit hcap hlong) ⟨e, ?_⟩⟩)
  rw [hnew]
  exact ⟨.ref _, _, I.lnew (t' := s.toks) (r.rep k.toNat) (by rw [PyProof.Rows.lm_len_rep_flat, Nat.mul_comm]; exact hz), rfl, q _ I.fresh⟩
theorem RepL.rep {g : Gx} {co : CO} {H : Hp} {vs : List V} {ds : List D} (r : RepL g co H vs ds) : ∀ k : Nat, RepL g co H (List.replicate k vs).flatten (List.replicate k ds).flatten
  | 0 => .nil
  | k + 1 => by
    rw [List.replicate_succ, List.replicate_succ, List.flatten_cons, List.flatten_cons]
    exact r.append (RepL.rep r k)
section
variable {X : Cx} {J : Jc} {a b : Expr} {ma mb : ME} {pos : Pos}
theorem op_mulAll : OpR X (binaryOp .Mult) (fun x y H Q => rI CMul (fun i j => .int (i * j)) x y H Q ∨ rI CMulW (fun i j => .int (i * j)) x y H Q ∨ rRepT X.K x y H Q ∨ rRepF x y H Q) := op_mul.or (op_mulW.or (op_repT.or op_repF))
theorem ve_mul (hK : J.g.K = X.K) (ha : VE X J a ma) (hb : VE X J b mb) : VE X J (.BinOp a .Mult b pos) (m2 D.mul ma mb) := by
  refine op2_fz (pe_op op_mulAll ha hb) fun σ H Q x y dx dy d rx ry e q => ?_
  rw [← hK]
  unfold D.mul at e
  split at e
  · rename_i i j
    cases rx; cases ry
    split at e
    · rename_i hc
      cases e
      unfold okMul at hc
      simp only [Bool.or_eq_true, Bool.and_eq_true, decide_eq_true_eq] at hc
      have w : ∀ {P : Prop}, P → P := fun h => h
      rcases hc with h | h | h
      · exact .inl ⟨_, _, rfl, rfl, .inl h, .inl (q H _ (fun _ _ k => k) (.int _))⟩
      · exact .inl ⟨_, _, rfl, rfl, .inr h, .inl (q H _ (fun _ _ k => k) (.int _))⟩
      · exact .inr (.inl ⟨_, _, rfl, rfl, h, .inl (q H _ (fun _ _ k => k) (.int _))⟩)
    · cases e
  · cases ry
    cases rx with
    | tup s r =>
      split at e
      · rename_i hc
        obtain ⟨h1, h2, h3, h4⟩ := hc
        cases e
        refine .inr (.inr (.inl ⟨_, _, _, rfl, rfl, s, ?_, h2, h3, by rw [r.length]; exact h4, fun p hp => .inl (tup_of hp (r.rep _) q)⟩))
        intro z
        subst z
        cases r
        exact h1 rfl
      · cases e
  · cases ry
    cases rx with
    | lst s r =>
      split at e
      · rename_i hc
        obtain ⟨h1, h2, h3⟩ := hc
        cases e
        exact .inr (.inr (.inr ⟨_, _, _, rfl, rfl, s, by omega, by omega, by rw [r.length]; exact h3, fun p hp => fz_of (d := .non) hp (r.rep _) q⟩))
      · cases e
  · cases e
end
/-! ### own lists read in an expression: frozen for its time -/
mutual
def D.noL : D → Bool
  | .lst _ | .dct _ | .exc _ _ | .clo _ _ | .own _ | .scr _ => false
  | .tup ds => D.noLs ds
  | _ => true
def D.noLs : List D → Bool
  | [] => true
  | d :: ds => d.noL && D.noLs ds
end
theorem upd_ext1F {H : Hp} {a : Addr} {o : Obj} {xs : List V} {u : HO} (h : H a = some (.frz o (.lst xs))) : ∀ b w, H b = some w → (∀ o ys, w ≠ .frz o (.lst ys)) → upd H a u b = some w := fun b w e k => by
  rw [upd_ne]
  · exact e
  · intro z; rw [z, h] at e; cases e; exact k _ _ rfl
mutual
theorem Rep.thaw {g : Gx} {co co' : CO} {H : Hp} {a : Addr} {o : Obj} {xs : List V} {u : HO} (h : H a = some (.frz o (.lst xs))) : ∀ {v : V} {d : D}, Rep g co H v d → d.noL = true → Rep g co' (upd H a u) v d
  | _, _, .non, _ => .non
  | _, _, .bl b, _ => .bl b
  | _, _, .int i, _ => .int i
  | _, _, .str x, _ => .str x
  | _, _, .tup s r, e => by
    refine .tup ?_ (RepL.thaw h r (by simpa [D.noL] using e))
    rcases s with (s | ⟨o, s⟩) | s
    · exact .inl (.inl (upd_ext1F h _ _ s (fun _ _ z => nomatch z)))
    · exact .inl (.inr ⟨o, upd_ext1F h _ _ s (fun _ _ z => nomatch z)⟩)
    · exact .inr s
  | _, _, .lst _ _, e => by simp [D.noL] at e
  | _, _, .glb k, _ => .glb k
  | _, _, .exc _ _ _ _, e => by simp [D.noL] at e
  | _, _, .clo _ _, e => by simp [D.noL] at e
  | _, _, .own _, e => by simp [D.noL] at e
  | _, _, .pot k, _ => .pot k
  | _, _, .scr _, e => by simp [D.noL] at e
  | _, _, .rng k, _ => .rng (upd_ext1F h _ _ k (fun _ _ z => nomatch z))
theorem RepL.thaw {g : Gx} {co co' : CO} {H : Hp} {a : Addr} {o : Obj} {xs : List V} {u : HO} (h : H a = some (.frz o (.lst xs))) : ∀ {v : List V} {d : List D}, RepL g co H v d → D.noLs d = true → RepL g co' (upd H a u) v d
  | _, _, .nil, _ => .nil
  | _, _, .cons r t, e => by
    simp only [D.noLs, Bool.and_eq_true] at e
    exact .cons (Rep.thaw h r e.1) (RepL.thaw h t e.2)
end
mutual
theorem Rep.flat {g : Gx} {co co' : CO} {H : Hp} : ∀ {v : V} {d : D}, Rep g co H v d → d.noL = true → Rep g co' H v d
  | _, _, .non, _ => .non
  | _, _, .bl b, _ => .bl b
  | _, _, .int i, _ => .int i
  | _, _, .str x, _ => .str x
  | _, _, .tup s r, e => .tup s (RepL.flat r (by simpa [D.noL] using e))
  | _, _, .lst _ _, e => by simp [D.noL] at e
  | _, _, .glb k, _ => .glb k
  | _, _, .exc _ _ _ _, e => by simp [D.noL] at e
  | _, _, .clo _ _, e => by simp [D.noL] at e
  | _, _, .own _, e => by simp [D.noL] at e
  | _, _, .pot k, _ => .pot k
  | _, _, .scr _, e => by simp [D.noL] at e
  | _, _, .rng k, _ => .rng k
theorem RepL.flat {g : Gx} {co co' : CO} {H : Hp} : ∀ {v : List V} {d : List D}, RepL g co H v d → D.noLs d = true → RepL g co' H v d
  | _, _, .nil, _ => .nil
  | _, _, .cons r t, e => by
    simp only [D.noLs, Bool.and_eq_true] at e
    exact .cons (Rep.flat r e.1) (RepL.flat t e.2)
end
theorem StR.thaw {g : Gx} {H : Hp} {p : P3} {a : Addr} {o : Obj} {xs : List V} {u : HO} (s : StR g H p) (h : H a = some (.frz o (.lst xs))) : StR g (upd H a u) p := by
  refine ⟨?_, fun P hP => ?_⟩
  · have q := s.pot
    unfold PotR at q ⊢
    split at q
    · exact upd_ext1F h _ _ q (fun _ _ z => nomatch z)
    · trivial
    · exact q
  · obtain ⟨ps, h1, h2, h3⟩ := s.tab P hP
    refine ⟨ps, upd_ext1F h _ _ h1 (fun _ _ z => nomatch z), h2, fun pos cv hc => ?_⟩
    obtain ⟨c, e1, e2⟩ := h3 pos cv hc
    refine ⟨c, e1, upd_ext1F h _ _ e2 (fun _ _ z => ?_)⟩
    unfold CodeO at z
    cases z
/-- a judgement's weakest precondition, of any kind of result -/
abbrev TG0 (β : Type) := St → Hp → (β → Hp → Prop) → Prop
def borT {β : Type} (H0 : Hp) : List Nat → TG0 β → TG0 β
  | [], t => t
  | i :: is, t => fun σ H Q => ∃ a xs, σ[i]? = some (some (.ref a)) ∧ H a = some (.lst xs) ∧ (∀ o u, H0 a ≠ some (.frz o u)) ∧
    ∀ o, borT H0 is t σ (upd H a (.frz o (.lst xs))) fun v H1 => H1 a = some (.frz o (.lst xs)) ∧ Q v (upd H1 a (.lst xs))
section
variable {X : Cx} {J : Jc}
theorem pe_bor {e : Expr} {t : TE} (h : PE X e t) : ∀ is : List Nat, PE X e (borT X.H_0 is t)
  | [] => h
  | i :: is => by
    refine ⟨fun pins s σ H Q I ⟨a, xs, h1, h2, h3, q⟩ => ?_⟩
    obtain ⟨o, I1⟩ := inv_freeze I h2
    refine thn ((pe_bor h is).run pins s σ _ _ I1 (q o)) fun u s1 ⟨v, H1, I2, r, h4, q1⟩ => ?_
    exact ⟨v, _, inv_thaw I2 h4 h3, r, q1⟩
theorem pt_bor {e : Expr} {t : TT} (h : PT X e t) : ∀ is : List Nat, PT X e (borT X.H_0 is t)
  | [] => h
  | i :: is => by
    refine ⟨fun pins s σ H Q I ⟨a, xs, h1, h2, h3, q⟩ => ?_⟩
    obtain ⟨o, I1⟩ := inv_freeze I h2
    refine thn ((pt_bor h is).run pins s σ _ _ I1 (q o)) fun u s1 ⟨H1, I2, h4, q1⟩ => ?_
    exact ⟨_, inv_thaw I2 h4 h3, q1⟩
def frzE : List Nat → En → Option En
  | [], env => some env
  | i :: is, env => match env[i]? with
    | some (some (.l ds)) => frzE is (setE env i (.p (.lst ds)))
    | _ => none
theorem own_nofrz {g : Gx} {a : Addr} (h : Own X g a) : ∀ o u, X.H_0 a ≠ some (.frz o u) := fun o u e => by
  obtain ⟨ps, z⟩ := h.2 _ e
  cases z
theorem ext_thaw {g : Gx} {H Hf : Hp} {a : Addr} {o : Obj} {xs : List V} (h : H a = some (.lst xs)) (e : Ext g (upd H a (.frz o (.lst xs))) Hf) : Ext g H (upd Hf a (.lst xs)) := fun b w hb k n => by
  by_cases z : b = a
  · subst z
    rw [h] at hb
    cases hb
    exact upd_same
  · rw [upd_ne z]
    exact e b w (by rw [upd_ne z]; exact hb) k n
theorem frz_at {g : Gx} {H Hf : Hp} {a : Addr} {o : Obj} {xs : List V} (e : Ext g (upd H a (.frz o (.lst xs))) Hf) : Hf a = some (.frz o (.lst xs)) := e a _ upd_same (fun _ _ z => nomatch z) fun _ z => nomatch z
theorem bor_ind {β : Type} {σ : St} {t : TG0 β} {Pl : β → P3 → Hp → Prop} (st : ∀ v p H a o xs, H a = some (.frz o (.lst xs)) → Pl v p H → Pl v p (upd H a (.lst xs))) : ∀ (is : List Nat) {env envf : En} {p : P3} {H : Hp} {Q : β → Hp → Prop},
    frzE is env = some envf → ERep X J σ H env → StR J.g H p →
    (∀ Hf Q', ERep X J σ Hf envf → StR J.g Hf p → Ext1 H Hf → (∀ v p1 H1, Ext J.g Hf H1 → StR J.g H1 p1 → Pl v p1 H1 → (∀ H2, Ext J.g H H2 → StR J.g H2 p1 → Pl v p1 H2 → Q v H2) → Q' v H1) → t σ Hf Q') → borT X.H_0 is t σ H Q
  | [], env, envf, p, H, Q, he, r, s, h => by
    cases he
    exact h H Q r s .refl fun v p1 H1 e s1 pl q => q H1 e s1 pl
  | i :: is, env, envf, p, H, Q, he, r, s, h => by
    unfold frzE at he
    split at he
    · rename_i ds hi
      obtain ⟨a, xs, h1, h2, h3, h4⟩ := r.slot i _ hi
      refine ⟨a, xs, h1, h2, own_nofrz h4, fun o => ?_⟩
      refine bor_ind st is he (r.freeze hi h1 h2 h3 h4) (s.frzL h2 h4.1) fun Hf Q' rf sf xf back => ?_
      refine h Hf Q' rf sf ((ext1_lst h2).trans xf) fun v p1 H1 e s1 pl q => ?_
      refine back v p1 H1 e s1 pl fun H2 e2 s2 pl2 => ?_
      have h5 := frz_at e2
      exact ⟨h5, q _ (ext_thaw h2 e2) (s2.thaw h5) (st _ _ _ _ _ _ h5 pl2)⟩
    · cases he
/-- with the own lists in `is` seen -/
def onB (is : List Nat) (m : ME) (k : D → En → P3 → Res (Fl × En)) : MS := fun env p => match frzE is env with
  | none => .bad
  | some envf => match m (vwOf envf) p with
    | .ok d p1 => if d.noL then k d env p1 else .bad
    | .err x v p1 => .err x v p1
    | .bad => .bad
theorem onB_logic {is : List Nat} {me : ME} {k : D → En → P3 → Res (Fl × En)} {Dn : Ends} {σ : St} {H : Hp} {Q : VK} (h : tS X J (onB is me k) Dn σ H)
    (hq : ∀ env d p1 H1 v, Ext J.g H H1 → ERep X J σ H1 env → StR J.g H1 p1 → J.R σ H1 v d → PSt X J Dn σ H1 (k d env p1) → Q v H1) : borT X.H_0 is (tV J me) σ H Q := by
  obtain ⟨env, p, r, s, q⟩ := h
  unfold onB at q
  cases e0 : frzE is env with
  | none => rw [e0] at q; exact q.elim
  | some envf =>
    rw [e0] at q
    simp only at q
    cases e1 : me (vwOf envf) p with
    | bad => rw [e1] at q; exact q.elim
    | err x dv p1 =>
      rw [e1] at q
      refine bor_ind (Pl := fun _ _ _ => True) (fun _ _ _ _ _ _ _ _ => trivial) is e0 r s fun Hf Q' rf sf xf back => ⟨vwOf envf, p, rf.vrep, sf, ?_⟩
      rw [e1]
      exact err_st rf (PSt.at_ q xf)
    | ok d p1 =>
      rw [e1] at q
      by_cases hd : d.noL = true
      · simp only [hd, if_true] at q
        refine bor_ind (Pl := fun v p' H' => p' = p1 ∧ Rep J.g coN H' v d) (fun v p' H' a o xs ha ⟨z, rr⟩ => ⟨z, rr.thaw ha hd⟩) is e0 r s fun Hf Q' rf sf xf back => ⟨vwOf envf, p, rf.vrep, sf, ?_⟩
        rw [e1]
        intro H1 v x1 s1 r1
        refine back v p1 H1 x1 s1 ⟨rfl, Rep.flat r1 hd⟩ fun H2 x2 s2 ⟨_, r2⟩ => hq env d p1 H2 v x2 (r.ext1 x2) s2 r2.up (PSt.at_ q x2.hard)
      · simp only [hd, if_false, Bool.false_eq_true] at q
        exact q.elim

/-- with no own list seen nothing is asked of what comes -/
def onX (is : List Nat) (m : ME) (k : D → En → P3 → Res (Fl × En)) : MS := match is with
  | [] => onV m k
  | i :: is => onB (i :: is) m k
theorem onX_logicE {is : List Nat} {me : ME} {k : D → En → P3 → Res (Fl × En)} {Dn : Ends} {σ : St} {H : Hp} {Q : VK} (h : tS X J (onX is me k) Dn σ H)
    (hq : ∀ env d p1 H1 v, Ext J.g H H1 → ERep X J σ H1 env → StR J.g H1 p1 → J.R σ H1 v d → PSt X J Dn σ H1 (k d env p1) → Q v H1) : borT X.H_0 is (tV J me) σ H Q := by
  cases is with
  | nil =>
    obtain ⟨env, p, r, s, q⟩ := h
    refine ⟨vwOf env, p, r.vrep, s, ?_⟩
    unfold onX onV at q
    simp only at q
    cases e1 : me (vwOf env) p with
    | bad => rw [e1] at q; exact q
    | err x dv p1 => rw [e1] at q; exact err_st r q
    | ok d p1 =>
      rw [e1] at q
      exact fun H1 v x1 s1 r1 => hq env d p1 H1 v x1 (r.ext1 x1) s1 r1 (PSt.at_ (show PSt X J Dn σ H (k d env p1) from q) x1.hard)
  | cons i is => exact onB_logic h hq
theorem onX_logic {is : List Nat} {me : ME} {k : D → En → P3 → Res (Fl × En)} {Dn : Ends} {σ : St} {H : Hp} {Q : VK} (h : tS X J (onX is me k) Dn σ H)
    (hq : ∀ env d p1 H1 v, ERep X J σ H1 env → StR J.g H1 p1 → J.R σ H1 v d → PSt X J Dn σ H1 (k d env p1) → Q v H1) : borT X.H_0 is (tV J me) σ H Q :=
  onX_logicE h fun env d p1 H1 v _ => hq env d p1 H1 v
/-- an expression's tree, the own lists in `is` seen -/
def evV (is : List Nat) (m : ME) (env : En) (p : P3) : Res D := match is with
  | [] => m (vwOf env) p
  | i :: is => match frzE (i :: is) env with
    | none => .bad
    | some envf => match m (vwOf envf) p with
      | .ok d p1 => if d.noL then .ok d p1 else .bad
      | .err x v p1 => .err x v p1
      | .bad => .bad
theorem evV_logic {is : List Nat} {me : ME} {σ : St} {H : Hp} {env : En} {p : P3} {Q : VK} (r : ERep X J σ H env) (s : StR J.g H p)
    (q : match evV is me env p with
      | .ok d p1 => ∀ H2 v, Ext J.g H H2 → StR J.g H2 p1 → J.R σ H2 v d → Q v H2
      | .err x dv p1 => ∀ H', Ext J.g X.H_0 H' → ErrP J σ H' x dv p1
      | .bad => False) : borT X.H_0 is (tV J me) σ H Q := by
  cases is with
  | nil =>
    refine ⟨vwOf env, p, r.vrep, s, ?_⟩
    unfold evV at q
    simp only at q
    cases e1 : me (vwOf env) p with
    | bad => rw [e1] at q; exact q
    | err x dv p1 => rw [e1] at q; exact q H r.ext
    | ok d p1 => rw [e1] at q; exact fun H1 v x1 s1 r1 => q H1 v x1 s1 r1
  | cons i is =>
    unfold evV at q
    simp only at q
    cases e0 : frzE (i :: is) env with
    | none => rw [e0] at q; exact q.elim
    | some envf =>
      rw [e0] at q
      simp only at q
      cases e1 : me (vwOf envf) p with
      | bad => rw [e1] at q; exact q.elim
      | err x dv p1 =>
        rw [e1] at q
        refine bor_ind (Pl := fun _ _ _ => True) (fun _ _ _ _ _ _ _ _ => trivial) (i :: is) e0 r s fun Hf Q' rf sf xf back => ⟨vwOf envf, p, rf.vrep, sf, ?_⟩
        rw [e1]
        exact q Hf rf.ext
      | ok d p1 =>
        rw [e1] at q
        by_cases hd : d.noL = true
        · simp only [hd, if_true] at q
          refine bor_ind (Pl := fun v p' H' => p' = p1 ∧ Rep J.g coN H' v d) (fun v p' H' a o xs ha ⟨z, rr⟩ => ⟨z, rr.thaw ha hd⟩) (i :: is) e0 r s fun Hf Q' rf sf xf back => ⟨vwOf envf, p, rf.vrep, sf, ?_⟩
          rw [e1]
          intro H1 v x1 s1 r1
          exact back v p1 H1 x1 s1 ⟨rfl, Rep.flat r1 hd⟩ fun H2 x2 s2 ⟨_, r2⟩ => q H2 v x2 s2 r2.up
        · simp only [hd, if_false, Bool.false_eq_true] at q
/-! ### statements, own lists seen -/
section
variable {base : Heap} {k : Nat} {e : Expr} {pos : Pos} {m n : MS}
def xRet (is : List Nat) (me : ME) : MS := onX is me fun d env p => .ok (.ret d, env) p
theorem vx_ret {is : List Nat} {me : ME} (F : Fr0 X J base k) (h : VE X J e me) (pl : ∀ H, (J.co H).le coN := by intro _; exact .refl) : VS X J (.Return (some e) pos) (xRet is me) :=
  ps_imp (ps_ret (pe_bor h is)) fun Dn σ H q => onX_logic q fun env d p1 H1 v r s rv q => q H1 v r.ext s (plain1 pl rv)
def xExpr (is : List Nat) (me : ME) : MS := onX is me fun _ env p => .ok (.nx, env) p
theorem vx_expr {is : List Nat} {me : ME} (h : VE X J e me) (hs : swapsWith e none pos.line X.env = pure false := by rfl) : VS X J (.Expr e pos) (xExpr is me) :=
  ps_imp (ps_expr (pe_bor h is) hs) fun Dn σ H q => onX_logic q fun env d p1 H1 v r s rv q => q σ H1 r s .refl
def xSet (is : List Nat) (i : Nat) (me : ME) : MS := onX is me fun d env p => .ok (.nx, setE env i (.p d)) p
theorem vx_set {is : List Nat} {i : Nat} {x : Str} {me : ME} {pos' : Pos} (hN : X.N.Nodup) (he : VE X J e me) (hi : X.N[i]? = some x := by rfl) (hx : Loc X.env.scope x := by first | exact Or.inl rfl | exact Or.inr rfl) (hs : swapsWith e (some (.Name x pos')) pos.line X.env = pure false := by rfl)
    (hfn : X.fn x = true ∨ X.env.scope.names.lookup x = some .local := by first | exact .inl rfl | exact .inr rfl) : VS X J (.Assign [.Name x pos'] e pos) (xSet is i me) :=
  ps_imp (ps_set hN hi hx (pe_bor he is) hs hfn) fun Dn σ H q => onX_logic q fun env d p1 H1 v r s rv q => q _ _ (r.set rv) s .refl
def xTup (is js : List Nat) (me : ME) : MS := onX is me fun d env p => match d with
  | .tup ds => match putAll js ds env with
    | some env' => .ok (.nx, env') p
    | none => .bad
  | _ => .bad
theorem vx_tup {is : List Nat} {es : List Expr} {js : List Nat} {u : TGs} {me : ME} {j : Nat} {tpos : Pos} (hc : X.calm = true) (hK : J.g.K = X.K) (ht : TNames X es js u) (he : VE X J e me) (hn : (assignEach es X.env).length = js.length := by rfl) (hst : (assignEach es X.env).findIdx? (·.1) = none := by rfl)
    (hs : swapsWithSole [.Tuple es j tpos] e pos.line X.env = pure false := by rfl) (hw : swappedStores [.Tuple es j tpos] e X.env = pure none := by rfl) (h1 : (assignEach [.Tuple es j tpos] X.env).map (·.2) = [assign (.Tuple es j tpos) X.env] := by rfl) :
    VS X J (.Assign [.Tuple es j tpos] e pos) (xTup is js me) := by
  refine ps_imp (ps_asg (pe_bor he is) (pg_tup hc (tn_pgs ht) hn hst) hs hw h1) fun Dn σ H q => onX_logic q fun env d p1 H1 v r s rv q => ?_
  cases d with
  | tup ds =>
    cases rv with
    | tup sq rl =>
      simp only at q
      cases e1 : putAll js ds env with
      | none => rw [e1] at q; exact q.elim
      | some env' =>
        rw [e1] at q
        exact ⟨_, _, rfl, hK ▸ sq, by rw [rl.length, putAll_len e1], tn_run ht rl r e1 fun σ' er => q σ' H1 er s .refl⟩
  | _ => exact q.elim
def xIf (is : List Nat) (c : MB) (m n : MS) : MS := fun env p => match frzE is env with
  | none => .bad
  | some envf => match c (vwOf envf) p with
    | .ok true p1 => m env p1
    | .ok false p1 => n env p1
    | .err x v p1 => .err x v p1
    | .bad => .bad
theorem xif_logic {is : List Nat} {mc : MB} {Dn : Ends} {σ : St} {H : Hp} {Q : Bool → Hp → Prop} (h : tS X J (xIf is mc m n) Dn σ H)
    (hq : ∀ b H1, (b = true → tS X J m Dn σ H1) → (b = false → tS X J n Dn σ H1) → Q b H1) : borT X.H_0 is (tB J mc) σ H Q := by
  obtain ⟨env, p, r, s, q⟩ := h
  unfold xIf at q
  cases e0 : frzE is env with
  | none => rw [e0] at q; exact q.elim
  | some envf =>
    rw [e0] at q
    simp only at q
    cases e1 : mc (vwOf envf) p with
    | bad => rw [e1] at q; exact q.elim
    | err x dv p1 =>
      rw [e1] at q
      refine bor_ind (Pl := fun _ _ _ => True) (fun _ _ _ _ _ _ _ _ => trivial) is e0 r s fun Hf Q' rf sf xf back => ⟨vwOf envf, p, rf.vrep, sf, ?_⟩
      rw [e1]
      exact err_st rf (PSt.at_ q xf)
    | ok b p1 =>
      rw [e1] at q
      refine bor_ind (Pl := fun v p' _ => p' = p1 ∧ v = b) (fun v p' H' a o xs ha z => z) is e0 r s fun Hf Q' rf sf xf back => ⟨vwOf envf, p, rf.vrep, sf, ?_⟩
      rw [e1]
      intro H1 x1 s1
      refine back b p1 H1 x1 s1 ⟨rfl, rfl⟩ fun H2 x2 s2 _ => hq b H2 (fun z => ?_) (fun z => ?_)
      · subst z
        exact ⟨env, p1, r.ext1 x2, s2, PSt.at_ q x2.hard⟩
      · subst z
        exact ⟨env, p1, r.ext1 x2, s2, PSt.at_ q x2.hard⟩
theorem vx_if {is : List Nat} {c : Expr} {a b : List Stmt} {mc : MB} (hc : VT X J c mc) (ha : VSs X J a m) (hb : VSs X J b n) : VS X J (.If c a b pos) (xIf is mc m n) := by
  refine ps_imp (ps_if (pt_bor hc is) ha hb) fun Dn σ H q => xif_logic q fun b H1 h1 h2 => ?_
  cases b with
  | true => rw [if_pos rfl]; exact h1 rfl
  | false => rw [if_neg Bool.false_ne_true]; exact h2 rfl
/-! ### own lists turned -/
theorem ERep.turn {σ : St} {H : Hp} {env : En} {i : Nat} {a : Addr} {xs ys : List V} {ds ds' : List D} (r : ERep X J σ H env) (hi : env[i]? = some (some (.l ds))) (hs : σ[i]? = some (some (.ref a))) (ha : H a = some (.lst xs)) (rl : J.RL σ H ys ds') (ow : Own X J.g a) : ERep X J σ (upd H a (.lst ys)) (setE env i (.l ds')) := by
  have e1 : Ext1 H (upd H a (.lst ys)) := ext1_lst ha
  refine ⟨by unfold setE; rw [List.length_set, r.len], fun j sl h => ?_, fun a' b c hab hA hB => ?_, fun b u hb k n => ?_⟩
  · unfold setE at h
    by_cases hj : i = j
    · subst hj
      rw [List.getElem?_set_self (List.getElem?_eq_some_iff.mp hi).1] at h
      cases h
      exact ⟨a, ys, hs, upd_same, J.extL1 e1 rl, ow⟩
    · rw [List.getElem?_set_ne hj] at h
      have q := r.slot j sl h
      cases sl with
      | p d' =>
        obtain ⟨v', h1, h2⟩ := q
        exact ⟨v', h1, J.ext1 e1 h2⟩
      | l ds' =>
        obtain ⟨b, ys, h1, h2, h3, h4⟩ := q
        refine ⟨b, ys, h1, ?_, J.extL1 e1 h3, h4⟩
        rw [upd_ne]
        · exact h2
        · intro e
          subst e
          exact r.dist i j b hj ⟨ds, hi⟩ ⟨ds', h⟩ hs h1
  · have old : ∀ j, isOwn (setE env i (.l ds')) j → isOwn env j := fun j ⟨ds', h⟩ => by
      unfold setE at h
      by_cases hj : i = j
      · subst hj
        exact ⟨ds, hi⟩
      · rw [List.getElem?_set_ne hj] at h
        exact ⟨ds', h⟩
    exact r.dist a' b c hab (old a' hA) (old b hB)
  · have hne : b ≠ a := fun e => by
      subst e
      obtain ⟨ps, e⟩ := ow.2 u hb
      exact n ps e
    rw [upd_ne hne]
    exact r.ext b u hb k n
/-- slot i is an own list -/
def withL (i : Nat) (f : List D → MS) : MS := fun env p => match env[i]? with
  | some (some (.l ds)) => f ds env p
  | _ => .bad
theorem withL_logic {i : Nat} {f : List D → MS} {Dn : Ends} {σ : St} {H : Hp} (h : tS X J (withL i f) Dn σ H) : ∃ ds env p a xs, env[i]? = some (some (.l ds)) ∧ ERep X J σ H env ∧ StR J.g H p ∧ PSt X J Dn σ H (f ds env p) ∧ σ[i]? = some (some (.ref a)) ∧ H a = some (.lst xs) := by
  obtain ⟨env, p, r, s, q⟩ := h
  unfold withL at q
  split at q
  · rename_i ds hi
    obtain ⟨a, xs, h1, h2, _⟩ := r.slot i _ hi
    exact ⟨ds, env, p, a, xs, hi, r, s, q, h1, h2⟩
  · exact q.elim
/-- the list in slot i is turned by what comes -/
def xOwn (is : List Nat) (i : Nat) (f : List D → D → Option (List D)) (me : ME) : MS := withL i fun _ => onX is me fun d env p => match env[i]? with
  | some (some (.l ds)) => match f ds d with
    | some ds' => .ok (.nx, setE env i (.l ds')) p
    | none => .bad
  | _ => .bad
theorem xown_logic {is : List Nat} {i : Nat} {f : List D → D → Option (List D)} {me : ME} {Dn : Ends} {σ : St} {H : Hp} {Q : V → V → Hp → Prop} (h : tS X J (xOwn is i f me) Dn σ H)
    (hq : ∀ a xs ds ds' d v H1, σ[i]? = some (some (.ref a)) → H1 a = some (.lst xs) → J.RL σ H1 xs ds → J.R σ H1 v d → f ds d = some ds' → (∀ ys, J.RL σ H1 ys ds' → Dn.nx σ (upd H1 a (.lst ys))) → Q (.ref a) v H1) :
    ∃ a xs, σ[i]? = some (some (.ref a)) ∧ H a = some (.lst xs) ∧ borT X.H_0 is (tV J me) σ H (Q (.ref a)) := by
  obtain ⟨ds, env, p, a, xs, hi, r, s, q, h1, h2⟩ := withL_logic h
  refine ⟨a, xs, h1, h2, onX_logic ⟨env, p, r, s, q⟩ fun env1 d p1 H1 v r1 s1 rv q1 => ?_⟩
  split at q1
  · rename_i ds1 hi1
    obtain ⟨a', xs1, e1, e2, e3, e4⟩ := r1.slot i _ hi1
    rw [h1] at e1
    cases e1
    cases e5 : f ds1 d with
    | none => rw [e5] at q1; exact q1.elim
    | some ds' =>
      rw [e5] at q1
      exact hq a xs1 ds1 ds' d v H1 h1 e2 e3 rv e5 fun ys ry => q1 _ _ (r1.turn hi1 h1 e2 ry e4) (s1.updL e2 e4.1) (ext1_lst e2)
  · exact q1.elim
def fApp (ds : List D) (d : D) : Option (List D) := if ds.length < sizeLine then some (ds ++ [d]) else none
def xApp (is : List Nat) (i : Nat) (me : ME) : MS := xOwn is i fApp me
theorem vx_app {is : List Nat} {i : Nat} {x : Str} {me : ME} {p1 p2 p3 : Pos} (h : VE X J e me) (hN : X.N[i]? = some x := by rfl) (hv : Vis X.env.scope x := by first | exact Or.inl rfl | exact Or.inr (Or.inl rfl) | exact Or.inr (Or.inr rfl)) (hd : (x == ("__debug__" : Str)) = false := by decide)
    (hcd : (x == ("__classdict__" : Str)) = false := by decide) (hs : swapsWith (.Call (.Attribute (.Name x p1) "append" p2) [e] [] p3) none pos.line X.env = pure false := by rfl)
    (hbase : attributeBase (.Name x p1) "append" X.env (eval (.Name x p1) X.env) = eval (.Name x p1) X.env := by rfl)
    (hfew : ((backTo p3 (starEach [e] X.env)).all (fun x => !x.1) && (backToKw p3 (keywordEach [] X.env)).all (fun x => x.1.isSome)
      && decide ([e].length + ([] : List Keyword).length + (if ([] : List Keyword).isEmpty then 0 else 1) < 30)) = true := by rfl)
    (hline : (p2.endLine == p3.line) = true := by rfl) (hst : starEach [e] X.env = (false, eval e X.env) :: starEach [] X.env := by rfl) (hpl : (backTo p3 (starEach [] X.env)).any (·.1) = false := by rfl) :
    VS X J (.Expr (.Call (.Attribute (.Name x p1) "append" p2) [e] [] p3) pos) (xApp is i me) := by
  refine ps_imp (ps_expr (pe_bm PySem.F.plainAttrs_list PySem.F.slot_list_append PySem.F.type_list_append mt_append (pe_var hN hv hd hcd) (pa_cons (pe_bor h is) pa_nil hst) hbase hfew hline hst hpl) hs) fun Dn σ H q => ?_
  obtain ⟨a, xs, h1, h2, q⟩ := xown_logic (Q := fun x v H1 => rAppend x [v] H1 fun _ H2 => Dn.nx σ H2) q fun a xs ds ds' d v H1 h1 h2 rl rv e k => by
    unfold fApp at e
    split at e
    · rename_i hz
      cases e
      exact ⟨_, _, _, rfl, rfl, h2, by rw [rl.length]; exact hz, k _ (rl.append (.cons rv .nil))⟩
    · cases e
  exact ⟨.ref a, h1, .inl ⟨rfl, xs, .inl (.inl h2)⟩, q⟩
/-- xs.extend(ys): ys a list that never changes -/
def rExtendF : V → List V → Hp → VK → Prop := fun x vs H Q => ∃ l b xs zs, x = .ref l ∧ vs = [.ref b] ∧ H l = some (.lst xs) ∧ FzL H b zs ∧ xs.length + zs.length ≤ sizeLine ∧ Q .non (upd H l (.lst (xs ++ zs)))
theorem mt_extendF : MtM X "list.extend" rExtendF := by
  intro pins s σ H x vs v us Q I rx rv h
  obtain ⟨l, b, xs, zs, rfl, rfl, hH, hB, hz, q⟩ := h
  cases rx
  obtain ⟨u, rfl, ru⟩ := rv.one
  cases ru
  obtain ⟨z, its, n, r, hl, e⟩ := I.lstM hH
  obtain ⟨z2, its2, n2, r2, e2⟩ := inv_fz I hB
  have hl2 := r2.length
  have hsz : its.toArray.size + its2.toArray.size ≤ sizeLine := by rw [List.size_toArray, List.size_toArray]; omega
  have hlong : ¬ (!its.toArray.isEmpty && Builtin.List.listTooLong (its.toArray.size + its2.toArray.size)) = true := by
    rw [notLongL hsz, Bool.and_false]
    exact Bool.false_ne_true
  refine call_meets F.slot_list_extend ⟨_, e, rfl⟩ F.entry_list_extend (F.args_list_extend_2 _ _)
    (AutoSeq1.list_extend_list_list_0 l its.toArray n b its2.toArray n2 hlong (by rw [List.size_toArray]; omega) (by omega)) ⟨e, e2, ?_⟩
  refine ⟨.non, _, I.lset (its' := its ++ its2) hH e (by simp) (r.append r2) ?_, rfl, q⟩
  rw [List.length_append]
  omega
def fExt (ds : List D) (d : D) : Option (List D) := match d with
  | .lst zs => if ds.length + zs.length ≤ sizeLine then some (ds ++ zs) else none
  | _ => none
def xExt (is : List Nat) (i : Nat) (me : ME) : MS := xOwn is i fExt me
theorem vx_ext {is : List Nat} {i : Nat} {x : Str} {me : ME} {p1 p2 p3 : Pos} (h : VE X J e me) (hN : X.N[i]? = some x := by rfl) (hv : Vis X.env.scope x := by first | exact Or.inl rfl | exact Or.inr (Or.inl rfl) | exact Or.inr (Or.inr rfl)) (hd : (x == ("__debug__" : Str)) = false := by decide)
    (hcd : (x == ("__classdict__" : Str)) = false := by decide) (hs : swapsWith (.Call (.Attribute (.Name x p1) "extend" p2) [e] [] p3) none pos.line X.env = pure false := by rfl)
    (hbase : attributeBase (.Name x p1) "extend" X.env (eval (.Name x p1) X.env) = eval (.Name x p1) X.env := by rfl)
    (hfew : ((backTo p3 (starEach [e] X.env)).all (fun x => !x.1) && (backToKw p3 (keywordEach [] X.env)).all (fun x => x.1.isSome)
      && decide ([e].length + ([] : List Keyword).length + (if ([] : List Keyword).isEmpty then 0 else 1) < 30)) = true := by rfl)
    (hline : (p2.endLine == p3.line) = true := by rfl) (hst : starEach [e] X.env = (false, eval e X.env) :: starEach [] X.env := by rfl) (hpl : (backTo p3 (starEach [] X.env)).any (·.1) = false := by rfl) :
    VS X J (.Expr (.Call (.Attribute (.Name x p1) "extend" p2) [e] [] p3) pos) (xExt is i me) := by
  refine ps_imp (ps_expr (pe_bm PySem.F.plainAttrs_list PySem.F.slot_list_extend PySem.F.type_list_extend mt_extendF (pe_var hN hv hd hcd) (pa_cons (pe_bor h is) pa_nil hst) hbase hfew hline hst hpl) hs) fun Dn σ H q => ?_
  obtain ⟨a, xs, h1, h2, q⟩ := xown_logic (Q := fun x v H1 => rExtendF x [v] H1 fun _ H2 => Dn.nx σ H2) q fun a xs ds ds' d v H1 h1 h2 rl rv e k => by
    unfold fExt at e
    split at e
    · cases rv with
      | lst fz rz =>
        split at e
        · rename_i hz
          cases e
          exact ⟨_, _, _, _, rfl, rfl, h2, fz, by rw [rl.length, rz.length]; exact hz, k _ (rl.append rz)⟩
        · cases e
    · cases e
  exact ⟨.ref a, h1, .inl ⟨rfl, xs, .inl (.inl h2)⟩, q⟩
/-- xs[i] = e -/
def xSetIx (is : List Nat) (i : Nat) (me : ME) (is2 : List Nat) (mi : ME) : MS := onX is me fun d => withL i fun _ => onX is2 mi fun di env p => match env[i]?, di with
  | some (some (.l ds)), .int k => match ixN ds.length k with
    | some j => .ok (.nx, setE env i (.l (ds.set j d))) p
    | none => .bad
  | _, _ => .bad
theorem vx_setIx {is is2 : List Nat} {i : Nat} {x : Str} {me mi : ME} {ie : Expr} {p1 p2 : Pos} (h : VE X J e me) (hi : VE X J ie mi) (hN : X.N[i]? = some x := by rfl) (hv : Vis X.env.scope x := by first | exact Or.inl rfl | exact Or.inr (Or.inl rfl) | exact Or.inr (Or.inr rfl)) (hd : (x == ("__debug__" : Str)) = false := by decide)
    (hcd : (x == ("__classdict__" : Str)) = false := by decide)
    (ha : ∀ v, assign (.Subscript (.Name x p1) ie p2) X.env v = (do
      let ov ← holding [v] (eval (.Name x p1) X.env)
      let iv ← holding [v, ov] (eval ie X.env)
      standAt p2
      holding [v, ov, iv] (setItem ov iv v)
      release [v, ov, iv] []) := by intro _; rfl)
    (hs : swapsWithSole [.Subscript (.Name x p1) ie p2] e pos.line X.env = pure false := by rfl) (hw : swappedStores [.Subscript (.Name x p1) ie p2] e X.env = pure none := by rfl)
    (h1 : (assignEach [.Subscript (.Name x p1) ie p2] X.env).map (·.2) = [assign (.Subscript (.Name x p1) ie p2) X.env] := by rfl) :
    VS X J (.Assign [.Subscript (.Name x p1) ie p2] e pos) (xSetIx is i me is2 mi) := by
  refine ps_imp (ps_asg (pe_bor h is) (pg_sub (pe_var hN hv hd hcd) (pe_bor hi is2) set_list ha) hs hw h1) fun Dn σ H q => onX_logic q fun env d p1 H1 v r s rv q => ?_
  obtain ⟨ds, env', p', a, xs, e1, r', s', q', h2, h3⟩ := withL_logic ⟨env, p1, r, s, q⟩
  refine ⟨.ref a, h2, ?_⟩
  refine onX_logicE (Q := fun iv H2 => rSetL (.ref a) iv v H2 fun H3 => Dn.nx σ H3) ⟨env', p', r', s', q'⟩ fun env2 di p2 H2 iv x2 r2 s2 ri q2 => ?_
  split at q2
  · rename_i ds2 k hi2
    obtain ⟨a', xs2, e2, e3, e4, e5⟩ := r2.slot i _ hi2
    rw [h2] at e2
    cases e2
    cases ri
    cases e6 : ixN ds2.length k with
    | none => rw [e6] at q2; exact q2.elim
    | some j =>
      rw [e6] at q2
      exact ⟨_, _, _, j, rfl, rfl, e3, by rw [e4.length]; exact e6, q2 _ _ (r2.turn hi2 h2 e3 (e4.set (J.ext x2 rv) j) e5) (s2.updL e3 e5.1) (ext1_lst e3)⟩
  · exact q2.elim
/-! ### new lists, own lists seen -/
def onXN (is : List Nat) (m : MA) (k : List D → En → P3 → Res (Fl × En)) : MS := match is with
  | [] => onN m k
  | i :: is => fun env p => match frzE (i :: is) env with
    | none => .bad
    | some envf => match m (vwOf envf) p with
      | .ok d p1 => if D.noLs d then k d env p1 else .bad
      | .err x v p1 => .err x v p1
      | .bad => .bad
theorem ERep.own2 {σ : St} {H : Hp} {env : En} {i : Nat} {a : Addr} {xs : List V} {ds : List D} (r : ERep X J σ H env) (ha : H a = some (.lst xs)) (rl : J.RL σ H xs ds) (ow : Own X J.g a) (fresh : ∀ j, isOwn env j → σ[j]? ≠ some (some (.ref a))) : ERep X J (σ.set i (some (.ref a))) H (setE env i (.l ds)) := by
  refine ⟨by unfold setE; rw [List.length_set, List.length_set, r.len], fun j sl h => ?_, fun a' b c hab hA hB => ?_, r.ext⟩
  · unfold setE at h
    by_cases hj : i = j
    · subst hj
      by_cases hl : i < env.length
      · rw [List.getElem?_set_self hl] at h
        cases h
        exact ⟨a, xs, by rw [List.getElem?_set_self (by rw [← r.len]; exact hl)], ha, rl, ow⟩
      · rw [List.getElem?_eq_none (by rw [List.length_set]; exact Nat.le_of_not_lt hl)] at h; cases h
    · rw [List.getElem?_set_ne hj] at h
      have q := r.slot j sl h
      cases sl with
      | p d' =>
        obtain ⟨v', h1, h2⟩ := q
        exact ⟨v', by rw [List.getElem?_set_ne hj]; exact h1, h2⟩
      | l ds =>
        obtain ⟨a, xs, h1, h2, h3, h4⟩ := q
        exact ⟨a, xs, by rw [List.getElem?_set_ne hj]; exact h1, h2, h3, h4⟩
  · have old : ∀ j, j ≠ i → isOwn (setE env i (.l ds)) j → isOwn env j := fun j hj ⟨ds', h⟩ => by
      unfold setE at h
      rw [List.getElem?_set_ne (Ne.symm hj)] at h
      exact ⟨ds', h⟩
    have at_i : ∀ j, isOwn (setE env i (.l ds)) j → j < env.length := fun j ⟨ds', h⟩ => by
      have := (List.getElem?_eq_some_iff.mp h).1
      unfold setE at this
      rw [List.length_set] at this
      exact this
    by_cases h1 : a' = i
    · subst h1
      have hb : b ≠ a' := fun e => hab e.symm
      rw [List.getElem?_set_self (by rw [← r.len]; exact at_i a' hA), List.getElem?_set_ne (Ne.symm hb)]
      intro e1 e2
      cases e1
      exact fresh b (old b hb hB) e2
    · by_cases h2 : b = i
      · subst h2
        rw [List.getElem?_set_ne (Ne.symm h1), List.getElem?_set_self (by rw [← r.len]; exact at_i b hB)]
        intro e1 e2
        cases e2
        exact fresh a' (old a' h1 hA) e1
      · rw [List.getElem?_set_ne (Ne.symm h1), List.getElem?_set_ne (Ne.symm h2)]
        exact r.dist a' b c hab (old a' h1 hA) (old b h2 hB)
/-- a new list as it stands -/
structure NewL (X : Cx) (J : Jc) (σ : St) (env : En) (ds : List D) (v : V) (H : Hp) : Prop where
  at_ : ∃ a xs, v = .ref a ∧ H a = some (.lst xs) ∧ J.RL σ H xs ds ∧ Own X J.g a ∧ ∀ j, isOwn env j → σ[j]? ≠ some (some (.ref a))
theorem newL_of {σ : St} {H : Hp} {env : En} {p : P3} {a : Addr} {xs : List V} {ds : List D} (r : ERep X J σ H env) (s : StR J.g H p) (ha : H a = none) (rl : J.RL σ H xs ds) : NewL X J σ env ds (.ref a) (upd H a (.lst xs)) := by
  refine ⟨a, xs, rfl, upd_same, J.extL (Grow.upd ha).ext rl, ⟨pot_ne s ha, fun o ho => ?_⟩, fun j ⟨ds', h⟩ e => ?_⟩
  · refine Classical.byContradiction fun z => ?_
    have w := r.ext a o ho (fun e => absurd e (pot_ne s ha)) fun ps e => z ⟨ps, e⟩
    rw [ha] at w
    cases w
  · obtain ⟨b, ys, h1, h2, _⟩ := r.slot j _ h
    rw [e] at h1
    cases h1
    rw [ha] at h2
    cases h2
theorem onXN_logic {is : List Nat} {ms : MA} {k : List D → En → P3 → Res (Fl × En)} {Dn : Ends} {σ : St} {H : Hp} {Q : VK} (h : tS X J (onXN is ms k) Dn σ H)
    (hq : ∀ env ds p1 H1 v, ERep X J σ H1 env → StR J.g H1 p1 → NewL X J σ env ds v H1 → PSt X J Dn σ H1 (k ds env p1) → Q v H1) : borT X.H_0 is (tN J ms) σ H Q := by
  obtain ⟨env, p, r, s, q⟩ := h
  cases is with
  | nil =>
    unfold onXN onN at q
    simp only at q
    refine ⟨vwOf env, p, r.vrep, s, ?_⟩
    cases e1 : ms (vwOf env) p with
    | bad => rw [e1] at q; exact q
    | err x dv p1 => rw [e1] at q; exact err_st r q
    | ok ds p1 =>
      rw [e1] at q
      intro H1 a xs x1 s1 hn r1
      have gr : Ext J.g H1 (upd H1 a (.lst xs)) := (Grow.upd hn).ext
      exact hq env ds p1 _ _ ((r.ext1 x1).ext1 gr) (s1.grow (Grow.upd hn)) (newL_of (r.ext1 x1) s1 hn r1) (PSt.at_ q (x1.trans gr).hard)
  | cons i is =>
    unfold onXN at q
    simp only at q
    cases e0 : frzE (i :: is) env with
    | none => rw [e0] at q; exact q.elim
    | some envf =>
      rw [e0] at q
      simp only at q
      cases e1 : ms (vwOf envf) p with
      | bad => rw [e1] at q; exact q.elim
      | err x dv p1 =>
        rw [e1] at q
        refine bor_ind (Pl := fun _ _ _ => True) (fun _ _ _ _ _ _ _ _ => trivial) (i :: is) e0 r s fun Hf Q' rf sf xf back => ⟨vwOf envf, p, rf.vrep, sf, ?_⟩
        rw [e1]
        exact err_st rf (PSt.at_ q xf)
      | ok ds p1 =>
        rw [e1] at q
        by_cases hd : D.noLs ds = true
        · simp only [hd, if_true] at q
          have frs : ∀ {envf : En} {is : List Nat} {env : En}, frzE is env = some envf → ∀ j, isOwn env j → isOwn envf j ∨ ∃ ds, envf[j]? = some (some (.p (.lst ds))) := by
            intro envf is
            induction is with
            | nil => intro env he j hj; cases he; exact .inl hj
            | cons i is ih =>
              intro env he j hj
              unfold frzE at he
              split at he
              · rename_i ds0 hi
                by_cases hij : i = j
                · subst hij
                  have keep : ∀ {is : List Nat} {env envf : En} {ds : List D}, frzE is env = some envf → env[i]? = some (some (.p (.lst ds))) → envf[i]? = some (some (.p (.lst ds))) := by
                    intro is
                    induction is with
                    | nil => intro env envf ds he h; cases he; exact h
                    | cons k is ih2 =>
                      intro env envf ds he h
                      unfold frzE at he
                      split at he
                      · rename_i ds1 hk
                        refine ih2 he ?_
                        unfold setE
                        rw [List.getElem?_set_ne]
                        · exact h
                        · intro e; subst e; rw [hk] at h; cases h
                      · cases he
                  refine .inr ⟨ds0, keep he ?_⟩
                  unfold setE
                  rw [List.getElem?_set_self (List.getElem?_eq_some_iff.mp hi).1]
                · refine ih he j ?_
                  obtain ⟨ds', h⟩ := hj
                  exact ⟨ds', by unfold setE; rw [List.getElem?_set_ne hij]; exact h⟩
              · cases he
          refine bor_ind (Pl := fun v p' H' => p' = p1 ∧ ∃ a xs, v = .ref a ∧ H' a = some (.lst xs) ∧ RepL J.g coN H' xs ds ∧ Own X J.g a ∧ ∀ j, isOwn env j → σ[j]? ≠ some (some (.ref a)))
            (fun v p' H' a o xs ha ⟨z, b, ys, h1, h2, h3, h4⟩ => ⟨z, b, ys, h1, by rw [upd_ne (fun z => by subst z; rw [ha] at h2; cases h2)]; exact h2, h3.thaw ha hd, h4⟩) (i :: is) e0 r s fun Hf Q' rf sf xf back => ⟨vwOf envf, p, rf.vrep, sf, ?_⟩
          rw [e1]
          intro H1 a xs x1 s1 hn r1
          have gr : Ext J.g H1 (upd H1 a (.lst xs)) := (Grow.upd hn).ext
          obtain ⟨a', xs', ev, ha', rl', ow', fr'⟩ := (newL_of (rf.ext1 x1) s1 hn r1).at_
          cases ev
          refine back (.ref a) p1 _ (x1.trans gr) (s1.grow (Grow.upd hn)) ⟨rfl, a, xs', rfl, ha', RepL.flat rl' hd, ow', fun j hj e => ?_⟩ fun H2 x2 s2 ⟨_, b, ys, ev, h2, h3, h4, h5⟩ => ?_
          · rcases frs e0 j hj with k | ⟨ds', k⟩
            · exact fr' j k e
            · obtain ⟨v, h1, h2⟩ := (rf.ext1 x1).slot j _ k
              rw [e] at h1
              cases h1
              cases h2 with
              | lst fz _ =>
                obtain ⟨o, fz⟩ := fz
                rw [hn] at fz
                cases fz
          · cases ev
            exact hq env ds p1 H2 _ (r.ext1 x2) s2 ⟨a, ys, rfl, h2, h3.ext .refl coN_le, h4, h5⟩ (PSt.at_ q x2.hard)
        · simp only [hd, if_false, Bool.false_eq_true] at q
          exact q.elim
def xNew (is : List Nat) (i : Nat) (ms : MA) : MS := onXN is ms fun ds env p => .ok (.nx, setE env i (.l ds)) p
theorem xnew_logic {is : List Nat} {i : Nat} {ms : MA} {Dn : Ends} {σ : St} {H : Hp} (h : tS X J (xNew is i ms) Dn σ H) : tAsg (borT X.H_0 is (tN J ms)) (gName i) Dn σ H := by
  refine onXN_logic h fun env ds p1 H1 v r s ⟨a, xs, ev, h1, h2, h3, h4⟩ q => ?_
  subst ev
  exact q _ _ (r.own2 h1 h2 h3 h4) s .refl
theorem vx_new {is : List Nat} {i : Nat} {x : Str} {ms : MA} {pos' : Pos} (hN : X.N.Nodup) (he : VN X J e ms) (hi : X.N[i]? = some x := by rfl) (hx : Loc X.env.scope x := by first | exact Or.inl rfl | exact Or.inr rfl) (hs : swapsWith e (some (.Name x pos')) pos.line X.env = pure false := by rfl)
    (hfn : X.fn x = true ∨ X.env.scope.names.lookup x = some .local := by first | exact .inl rfl | exact .inr rfl) : VS X J (.Assign [.Name x pos'] e pos) (xNew is i ms) :=
  ps_imp (ps_set hN hi hx (pe_bor he is) hs hfn) fun Dn σ H q => xnew_logic q
/-! ### a, b = e1, e2 with new lists -/
abbrev El := (List Nat × ME) ⊕ MA
def evs : List El → En → P3 → Res (List Sl)
  | [], _, p => .ok [] p
  | .inl (is, m) :: es, env, p => (evV is m env p).bind fun d p1 => (evs es env p1).bind fun sl p2 => .ok (.p d :: sl) p2
  | .inr m :: es, env, p => (m (vwOf env) p).bind fun ds p1 => (evs es env p1).bind fun sl p2 => .ok (.l ds :: sl) p2
/-- the slots of an env turned about -/
theorem ERep.re {σ σ' : St} {H : Hp} {env env' : En} (f : Nat → Nat) (r : ERep X J σ H env) (hl : env'.length = σ'.length) (h : ∀ j sl, env'[j]? = some (some sl) → env[f j]? = some (some sl) ∧ σ'[j]? = σ[f j]?)
    (inj : ∀ i j, i ≠ j → i < env'.length → j < env'.length → f i ≠ f j) : ERep X J σ' H env' := by
  refine ⟨hl, fun j sl hj => ?_, fun a b c hab hA hB => ?_, r.ext⟩
  · obtain ⟨h1, h2⟩ := h j sl hj
    have q := r.slot (f j) sl h1
    unfold SlRep at q ⊢
    rw [h2]
    exact q
  · obtain ⟨ds, hA⟩ := hA
    obtain ⟨es, hB⟩ := hB
    obtain ⟨h1, h2⟩ := h a _ hA
    obtain ⟨h3, h4⟩ := h b _ hB
    rw [h2, h4]
    exact r.dist _ _ c (inj a b hab (List.getElem?_eq_some_iff.mp hA).1 (List.getElem?_eq_some_iff.mp hB).1) ⟨ds, h1⟩ ⟨es, h3⟩
theorem ERep.left {σ : St} {H : Hp} {env : En} {w : St} {sl : En} (r : ERep X J (σ ++ w) H (env ++ sl)) (hl : env.length = σ.length) : ERep X J σ H env := by
  refine r.re id hl (fun j s hj => ?_) fun i j h _ _ => h
  have := (List.getElem?_eq_some_iff.mp hj).1
  exact ⟨by rw [id, List.getElem?_append_left this]; exact hj, by rw [id, List.getElem?_append_left (by omega)]⟩
theorem ERep.pushP {σ : St} {H : Hp} {env : En} {v : V} {d : D} (r : ERep X J σ H env) (rv : J.R σ H v d) : ERep X J (σ ++ [some v]) H (env ++ [some (.p d)]) := by
  have r0 : ERep X J (σ ++ [none]) H (env ++ [none]) := by
    refine ⟨by rw [List.length_append, List.length_append, r.len]; rfl, fun j sl h => ?_, fun a b c hab hA hB => ?_, r.ext⟩
    · have hj : j < env.length := by
        refine Classical.byContradiction fun z => ?_
        rw [List.getElem?_append_right (by omega)] at h
        cases e : j - env.length with
        | zero => rw [e] at h; cases h
        | succ m => rw [e] at h; cases h
      rw [List.getElem?_append_left hj] at h
      have q := r.slot j sl h
      unfold SlRep at q ⊢
      rw [List.getElem?_append_left (by rw [← r.len]; exact hj)]
      exact q
    · have at_ : ∀ j, isOwn (env ++ [none]) j → j < env.length ∧ isOwn env j := fun j ⟨ds, h⟩ => by
        have hj : j < env.length := by
          refine Classical.byContradiction fun z => ?_
          rw [List.getElem?_append_right (by omega)] at h
          cases e : j - env.length with
          | zero => rw [e] at h; cases h
          | succ m => rw [e] at h; cases h
        rw [List.getElem?_append_left hj] at h
        exact ⟨hj, ds, h⟩
      obtain ⟨a1, a2⟩ := at_ a hA
      obtain ⟨b1, b2⟩ := at_ b hB
      rw [List.getElem?_append_left (by rw [← r.len]; exact a1), List.getElem?_append_left (by rw [← r.len]; exact b1)]
      exact r.dist a b c hab a2 b2
  have q := r0.set (i := env.length) rv
  have e1 : (σ ++ [none]).set env.length (some v) = σ ++ [some v] := by
    rw [r.len, List.set_append_right _ _ (Nat.le_refl _)]
    simp
  have e2 : (env ++ [none]).set env.length (some (.p d)) = env ++ [some (.p d)] := by
    rw [List.set_append_right _ _ (Nat.le_refl _)]
    simp
  rw [e1, e2] at q
  exact q
theorem ERep.pushL {σ : St} {H : Hp} {env : En} {a : Addr} {xs : List V} {ds : List D} (r : ERep X J σ H env) (ha : H a = some (.lst xs)) (rl : J.RL σ H xs ds) (ow : Own X J.g a) (fresh : ∀ j, isOwn env j → σ[j]? ≠ some (some (.ref a))) : ERep X J (σ ++ [some (.ref a)]) H (env ++ [some (.l ds)]) := by
  have r0 := r.pushP (v := .non) (d := .non) .non
  have q := r0.own2 (i := env.length) ha rl ow fun j ⟨ds', h⟩ => by
    by_cases hj : j < env.length
    · rw [List.getElem?_append_left hj] at h
      rw [List.getElem?_append_left (by rw [← r.len]; exact hj)]
      exact fresh j ⟨ds', h⟩
    · rw [List.getElem?_append_right (by omega)] at h
      cases e : j - env.length with
      | zero => rw [e] at h; cases h
      | succ m => rw [e] at h; cases h
  have e1 : (σ ++ [some V.non]).set env.length (some (.ref a)) = σ ++ [some (.ref a)] := by
    rw [r.len, List.set_append_right _ _ (Nat.le_refl _)]
    simp
  have e2 : setE (env ++ [some (Sl.p D.non)]) env.length (.l ds) = env ++ [some (.l ds)] := by
    unfold setE
    rw [List.set_append_right _ _ (Nat.le_refl _)]
    simp
  rw [e1, e2] at q
  exact q
/-- the elements of a display one after the other -/
inductive PEls (X : Cx) (J : Jc) : List Expr → List El → TA → Prop where
  | nil : PEls X J [] [] tNil
  | cons {e : Expr} {es : List Expr} {l : El} {ls : List El} {te : TE} {ta : TA} : PE X e te → (∀ σ H Q, (match l with | .inl (is, m) => borT X.H_0 is (tV J m) σ H Q | .inr m => tN J m σ H Q) → te σ H Q) → PEls X J es ls ta → PA X (e :: es) (tCons te ta) → PEls X J (e :: es) (l :: ls) (tCons te ta)
theorem PEls.pa {es : List Expr} {ls : List El} {ta : TA} (h : PEls X J es ls ta) : PA X es ta := by
  cases h with
  | nil => exact pa_nil
  | cons _ _ _ h => exact h
theorem pels_p {es : List Expr} {ls : List El} {ta : TA} {me : ME} {is : List Nat} (h : VE X J e me) (t : PEls X J es ls ta) (hst : starEach (e :: es) X.env = (false, eval e X.env) :: starEach es X.env := by rfl) : PEls X J (e :: es) (.inl (is, me) :: ls) (tCons (borT X.H_0 is (tV J me)) ta) :=
  .cons (pe_bor h is) (fun _ _ _ q => q) t (pa_cons (pe_bor h is) t.pa hst)
theorem pels_l {es : List Expr} {ls : List El} {ta : TA} {ms : MA} (h : VN X J e ms) (t : PEls X J es ls ta) (hst : starEach (e :: es) X.env = (false, eval e X.env) :: starEach es X.env := by rfl) : PEls X J (e :: es) (.inr ms :: ls) (tCons (tN J ms) ta) :=
  .cons h (fun _ _ _ q => q) t (pa_cons h t.pa hst)
theorem pels_run {σ : St} {env : En} (hl : env.length = σ.length) {es : List Expr} {ls : List El} {ta : TA} (h : PEls X J es ls ta) : ∀ {w : List V} {sl0 : List Sl} {H : Hp} {p : P3} {Q : List V → Hp → Prop},
    ERep X J (σ ++ w.map some) H (env ++ sl0.map some) → StR J.g H p →
    (match evs ls env p with
    | .ok sls p' => ∀ vs H', Ext J.g H H' → ERep X J (σ ++ (w ++ vs).map some) H' (env ++ (sl0 ++ sls).map some) → StR J.g H' p' → vs.length = sls.length → Q vs H'
    | .err x dv p' => ∀ H', Ext J.g X.H_0 H' → ErrP J σ H' x dv p'
    | .bad => False) → ta σ H Q := by
  induction h with
  | nil =>
    intro w sl0 H p Q r s q
    exact q [] H .refl (by simpa using r) s rfl
  | @cons e es l ls te ta he hi ht hp ih =>
    intro w sl0 H p Q r s q
    have r1 := r.left hl
    refine hi _ _ _ ?_
    cases l with
    | inl im =>
      obtain ⟨is, m⟩ := im
      refine evV_logic r1 s ?_
      simp only [evs] at q
      cases e1 : evV is m env p with
      | bad => rw [e1] at q; exact q.elim
      | err x dv p1 => rw [e1] at q; exact fun H' e' => q H' e'
      | ok d p1 =>
        rw [e1] at q
        intro H1 v x1 s1 rv
        have r2 := (r.ext1 x1).pushP (v := v) (d := d) rv
        rw [List.append_assoc, List.append_assoc, show w.map some ++ [some v] = (w ++ [v]).map some by simp, show sl0.map some ++ [some (Sl.p d)] = (sl0 ++ [Sl.p d]).map some by simp] at r2
        refine ih r2 s1 ?_
        simp only [Res.bind] at q
        cases e2 : evs ls env p1 with
        | bad => rw [e2] at q; exact q.elim
        | err x dv p2 => rw [e2] at q; exact fun H' => q H'
        | ok sls p2 =>
          rw [e2] at q
          simp only at q ⊢
          intro vs H2 x2 r3 s2 hz
          refine q (v :: vs) H2 (x1.trans x2) ?_ s2 (congrArg (· + 1) hz)
          rw [List.append_assoc, List.append_assoc] at r3
          exact r3
    | inr m =>
      refine ⟨vwOf env, p, r1.vrep, s, ?_⟩
      simp only [evs] at q
      cases e1 : m (vwOf env) p with
      | bad => rw [e1] at q; exact q.elim
      | err x dv p1 => rw [e1] at q; exact fun H' C dd y e => q H r1.ext H' C dd y e
      | ok d p1 =>
        rw [e1] at q
        intro H1 a xs x1 s1 hn rl
        have gr : Ext J.g H1 (upd H1 a (.lst xs)) := (Grow.upd hn).ext
        obtain ⟨a', xs', ev, ha', rl', ow', fr'⟩ := (newL_of (r.ext1 x1) s1 hn rl).at_
        cases ev
        have r2 := ((r.ext1 x1).ext1 gr).pushL ha' rl' ow' fr'
        rw [List.append_assoc, List.append_assoc, show w.map some ++ [some (V.ref a)] = (w ++ [V.ref a]).map some by simp, show sl0.map some ++ [some (Sl.l d)] = (sl0 ++ [Sl.l d]).map some by simp] at r2
        refine ih r2 (s1.grow (Grow.upd hn)) ?_
        simp only [Res.bind] at q
        cases e2 : evs ls env p1 with
        | bad => rw [e2] at q; exact q.elim
        | err x dv p2 => rw [e2] at q; exact fun H' => q H'
        | ok sls p2 =>
          rw [e2] at q
          simp only at q ⊢
          intro vs H2 x2 r3 s2 hz
          refine q (.ref a :: vs) H2 ((x1.trans gr).trans x2) ?_ s2 (congrArg (· + 1) hz)
          rw [List.append_assoc, List.append_assoc] at r3
          exact r3
def setAll : List Nat → List Sl → En → En
  | i :: is, s :: ss, env => setAll is ss (setE env i s)
  | _, _, env => env
def sPar (is : List Nat) (ls : List El) : MS := fun env p => match evs ls env p with
  | .ok sls p' => .ok (.nx, setAll is sls env) p'
  | .err x v p' => .err x v p'
  | .bad => .bad
end
end
end VL

namespace VL
open PySem PySem.Spec PyProof.Rows L2 LamX
/-! ### what is walked: zip -/
/-- a list (false), a tuple (true) -/
def SqK (K : PySem.W.Frag) : Bool → Hp → Addr → List V → Prop
  | false => SqL K
  | true => SqT K
def HSq : Bool → Heap → Addr → Array Value → Prop
  | false => fun h a its => h.IsList a its
  | true => fun h a its => h.IsTuple a its
def HIt : Bool → Heap → Addr → Addr → Nat → Prop
  | false => fun h i a n => h.IsListIter i a n
  | true => fun h i a n => h.IsTupleIter i a n
def oIt : Bool → Addr → Obj
  | false => fun a => { cls := .type "list_iterator", data := .fields #[.ref a, .int 0 0] }
  | true => fun a => { cls := .type "tuple_iterator", data := .fields #[.ref a, .int 0 0] }
theorem hit_keep {k : Bool} {h h' : Heap} {i a : Addr} {n : Nat} (s : HIt k h i a n) (e : ∀ o, h.get? i = some o → h'.get? i = some o) : HIt k h' i a n := by
  cases k with
  | false => exact (show h.IsListIter i a n from s).at e
  | true => exact (show h.IsTupleIter i a n from s).at e
theorem hit_obj {k : Bool} {h : Heap} {i a : Addr} {n : Nat} (s : HIt k h i a n) : ∃ o, h.get? i = some o ∧ ∀ v, o.data ≠ .cell v := by
  cases k with
  | false =>
    obtain ⟨o, e, _, d⟩ := (show h.IsListIter i a n from s)
    exact ⟨o, e, fun v z => by rw [d] at z; cases z⟩
  | true =>
    obtain ⟨o, e, _, d⟩ := (show h.IsTupleIter i a n from s)
    exact ⟨o, e, fun v z => by rw [d] at z; cases z⟩
theorem oIt_it {k : Bool} {h : Heap} {i a : Addr} (e : h.get? i = some (oIt k a)) : HIt k h i a 0 := by
  cases k with
  | false => exact ⟨_, e, rfl, rfl⟩
  | true => exact ⟨_, e, rfl, rfl⟩
theorem draws_k {P : Program} {w : World} {A : Around} (hh : A.handled = none) (k : Bool) (it a : Addr) (hne : a ≠ it) (items : Array Value) : Draws P w A it [it, a] items.size (fun i v => items[i]? = some v) (fun i h => HIt k h it a i ∧ HSq k h a items) := by
  cases k with
  | false => exact Draws.list hh it a hne items
  | true => exact Draws.tuple hh it a hne items
theorem begins_k (k : Bool) (a : Addr) (items : Array Value) : Begins (.ref a) (oIt k a) fun h => HSq k h a items := by
  cases k with
  | false => exact begins_list a items
  | true => exact begins_tuple a items
theorem sqk_at {X : Cx} {pins : List (Addr × Obj)} {σ : St} {H : Hp} {s : Shared} {k : Bool} {a : Addr} {xs : List V} (I : Inv X pins σ H s) (h : SqK X.K k H a xs) : ∃ its : List Value, Vals xs its ∧ HSq k s.heap a its.toArray ∧ a < s.heap.objs.size := by
  cases k with
  | false =>
    obtain ⟨its, rv, p, _⟩ := I.list h
    exact ⟨its, rv, p.isList, p.lt⟩
  | true =>
    obtain ⟨its, rv, p, _⟩ := I.tuple h
    obtain ⟨o, e, _⟩ := id p
    exact ⟨its, rv, p, Heap.lt_size e⟩
theorem turn_ofT {P : Program} {w : World} {K : PySem.W.Frag} {elts : List Expr} {kk : Nat} {tpos : Pos} {z : Addr} {fp : List Addr} {n : Nat} {yl : Nat → List V} {tn : Nat → Heap → Prop} {Fx : Hp → Prop} (mem : z ∈ fp)
    (obj : ∀ i h, tn i h → ∀ b ∈ fp, ∃ o, h.get? b = some o ∧ ∀ v, o.data ≠ .cell v) (keep : ∀ i h h', tn i h → (∀ b ∈ fp, ∀ o, h.get? b = some o → h'.get? b = some o) → tn i h')
    (self : ∀ (A : Around) (i : Nat) (s : Shared) (Q : Value → Shared → Prop) (E : Value → Shared → Prop), tn i s.heap → Q (.ref z) s → wpAny (model P w) A (pyIter (.ref z)) Q E s)
    (hyl : ∀ i, (yl i).length ≤ 3)
    (W : ∀ (X : Cx) pins σ H s i, X.prog = P → X.w = w → X.K = K → X.calm = true → Inv X pins σ H s → Fx H → tn i s.heap → ∃ fpW wr Pt St Mid, WalksT P w X.A z fpW wr n Pt St Mid ∧ (∀ b ∈ wr, b ∈ fp) ∧ St i s.heap ∧ (∀ i h, St i h → tn i h) ∧ ∀ i vals, i < n → Pt i vals → ∃ us, vals = us.toArray ∧ Vals (yl i) us) :
    Turn P w K (.Tuple elts kk tpos) ⟨fun i H => i < n ∧ Fx H, fun i H v H' => ∃ T, v = .ref T ∧ H T = none ∧ H' = upd H T (.tup (yl i)), fun i H => i = n ∧ Fx H⟩ fp z tn where
  mem := mem
  obj := obj
  keep := keep
  self := self
  item := by
    intro X hP hw hK hc i pins s σ H E I hf st hg
    obtain ⟨hi, hF⟩ := hg
    obtain ⟨fpW, wr, Pt, Sx, Mid, ww, sub, st1, back, hpt⟩ := W X pins σ H s i hP hw hK hc I hF st
    subst hP hw hK
    refine ww.item i s _ E hi st1 fun T vals h' tk hp hT ht hm hk => ⟨.ref T, rfl, ?_⟩
    obtain ⟨us, rfl, rv⟩ := hpt i vals hi hp
    have new : ObjOk X.prog X.w (upd H T (.tup (yl i))) h' T (.tup (yl i)) := ⟨Nat.le_trans (hyl i) (by decide), us, rv, ht⟩
    have nT : H T = none := I.hok.fresh hT
    have I1 : Inv X pins σ (upd H T (.tup (yl i))) { s with heap := h', toks := tk } := I.turnedNew (ch := wr) hk (fun b hb => hf b (sub b hb)) hT new
    refine ww.go elts kk tpos i T { s with heap := h', toks := tk } _ E hm fun h'' st2 hk2 => ?_
    have ap := ww.apart i T _ hm
    have hf1 : ∀ b ∈ wr, FpOk X pins (upd H T (.tup (yl i))) b := fun b hb => by
      obtain ⟨f0, f1, f2, f3, f4, f5⟩ := hf b (sub b hb)
      have hbT : b ≠ T := fun e => by
        subst e
        exact ap hb
      exact ⟨by rw [upd_ne hbT]; exact f0, f1, f2, f3, f4, f5⟩
    have I2 := I1.turnedL (t' := tk) (ch := wr) hk2 hf1
    refine ⟨.ref T, _, I2, rfl, ⟨T, rfl, nT, rfl⟩, back _ _ st2, fun c hc => ?_⟩
    obtain ⟨o, ho, _⟩ := obj i _ st c hc
    rw [upd_ne (Nat.ne_of_lt (Nat.lt_of_lt_of_le (Heap.lt_size ho) hT))]
    exact (hf c hc).1
  done := by
    intro X hP hw hK hc i pins s σ H E I hf st hg
    obtain ⟨hi, hF⟩ := hg
    subst hi
    obtain ⟨fpW, wr, Pt, Sx, Mid, ww, sub, st1, back, hpt⟩ := W X pins σ H s i hP hw hK hc I hF st
    subst hP hw hK
    exact ww.done s _ E st1 fun h' tk hk => ⟨rfl, I.turnedL (t' := tk) (ch := wr) hk fun b hb => hf b (sub b hb)⟩
def yz2 (xs ys : List V) (i : Nat) : List V := [xs.getD i .non, ys.getD i .non]
def yz3 (xs ys zs : List V) (i : Nat) : List V := [xs.getD i .non, ys.getD i .non, zs.getD i .non]
theorem vals_at {xs : List V} {its : List Value} {i : Nat} {u : Value} (r : Vals xs its) (h : its.toArray[i]? = some u) : RelV (xs.getD i .non) u := by
  have h' : its[i]? = some u := by simpa using h
  have hi : i < xs.length := by
    rw [r.length]
    exact (List.getElem?_eq_some_iff.mp h').1
  obtain ⟨w, h1, h2⟩ := r.get (List.getElem?_eq_getElem hi)
  rw [h'] at h1
  cases h1
  rw [List.getD_eq_getElem?_getD, List.getElem?_eq_getElem hi]
  exact h2
def Fx2 (K : PySem.W.Frag) (k1 k2 : Bool) (a1 a2 : Addr) (xs ys : List V) : Hp → Prop := fun H => SqK K k1 H a1 xs ∧ SqK K k2 H a2 ys
theorem turn_z2 {P : Program} {w : World} {K : PySem.W.Frag} {elts : List Expr} {kk : Nat} {tpos : Pos} {N a1 a2 : Addr} {k1 k2 : Bool} {xs ys : List V} (h1 : a1 < N) (h2 : a2 < N) :
    Turn P w K (.Tuple elts kk tpos) ⟨fun i H => i < min xs.length ys.length ∧ Fx2 K k1 k2 a1 a2 xs ys H, fun i H v H' => ∃ T, v = .ref T ∧ H T = none ∧ H' = upd H T (.tup (yz2 xs ys i)), fun i H => i = min xs.length ys.length ∧ Fx2 K k1 k2 a1 a2 xs ys H⟩
      [N + 4, N + 2, N + 3, N, N + 1] (N + 4) (fun i h => IsZip h (N + 4) (N + 2) (N + 3) .none ∧ IsTupOf2 h (N + 2) (.ref N) (.ref (N + 1)) ∧ (∃ a1 a2, IsTupOf2 h (N + 3) a1 a2) ∧ HIt k1 h N a1 i ∧ HIt k2 h (N + 1) a2 i) := by
  refine turn_ofT (by simp) (fun i h ⟨hz, hTI, ⟨x, y, hTO⟩, s1, s2⟩ b hb => ?_) (fun i h h' ⟨hz, hTI, ⟨x, y, hTO⟩, s1, s2⟩ hk => ?_) (fun A i s Q E st h => wpAny_pyIter_zip st.1 h) (fun i => by show 2 ≤ 3; decide) fun X pins σ H s i hP hw hK hc I ⟨f1, f2⟩ st => ?_
  · have e' : b = N + 4 ∨ b = N + 2 ∨ b = N + 3 ∨ b = N ∨ b = N + 1 := by simpa using hb
    rcases e' with q | q | q | q | q
    · rw [q]; exact ⟨_, hz, fun v q => nomatch q⟩
    · rw [q]; exact ⟨_, hTI, fun v q => nomatch q⟩
    · rw [q]; exact ⟨_, hTO, fun v q => nomatch q⟩
    · rw [q]; exact hit_obj s1
    · rw [q]; exact hit_obj s2
  · exact ⟨hk _ (by simp) _ hz, hk _ (by simp) _ hTI, ⟨x, y, hk _ (by simp) _ hTO⟩, hit_keep s1 (hk _ (by simp)), hit_keep s2 (hk _ (by simp))⟩
  · subst hP hw hK
    obtain ⟨its1, r1, q1, l1⟩ := sqk_at I f1
    obtain ⟨its2, r2, q2, l2⟩ := sqk_at I f2
    have hh : X.A.in1.handled = none := I.ok.hd hc
    have D1 := draws_k (P := X.prog) (w := X.w) (A := X.A.in1) hh k1 N a1 (Nat.ne_of_lt h1) its1.toArray
    have D2 := draws_k (P := X.prog) (w := X.w) (A := X.A.in1) hh k2 (N + 1) a2 (Nat.ne_of_lt (Nat.lt_succ_of_lt h2)) its2.toArray
    have W := WalksT.zipD2 (zip_sep2 (fp1 := [a1]) (fp2 := [a2]) (by simpa using h1) (by simpa using h2)) D1 D2
    obtain ⟨hz, hTI, hTO, s1, s2⟩ := st
    rw [List.size_toArray, List.size_toArray, ← r1.length, ← r2.length] at W
    refine ⟨_, _, _, _, _, W, fun b hb => by simp only [List.mem_cons, List.not_mem_nil, or_false] at hb; rcases hb with e | e | e | e <;> subst e <;> simp, ⟨hz, hTI, hTO, ⟨s1, q1⟩, ⟨s2, q2⟩⟩, fun i h ⟨a, b, c, d, e⟩ => ⟨a, b, c, d.1, e.1⟩, fun i vals hi ⟨x1, x2, p1, p2, e⟩ => ⟨[x1, x2], e, .cons (vals_at r1 p1) (.cons (vals_at r2 p2) .nil)⟩⟩
def Fx3 (K : PySem.W.Frag) (k1 k2 k3 : Bool) (a1 a2 a3 : Addr) (xs ys zs : List V) : Hp → Prop := fun H => SqK K k1 H a1 xs ∧ SqK K k2 H a2 ys ∧ SqK K k3 H a3 zs
theorem turn_z3 {P : Program} {w : World} {K : PySem.W.Frag} {elts : List Expr} {kk : Nat} {tpos : Pos} {N a1 a2 a3 : Addr} {k1 k2 k3 : Bool} {xs ys zs : List V} (h1 : a1 < N) (h2 : a2 < N) (h3 : a3 < N) :
    Turn P w K (.Tuple elts kk tpos) ⟨fun i H => i < min (min xs.length ys.length) zs.length ∧ Fx3 K k1 k2 k3 a1 a2 a3 xs ys zs H, fun i H v H' => ∃ T, v = .ref T ∧ H T = none ∧ H' = upd H T (.tup (yz3 xs ys zs i)), fun i H => i = min (min xs.length ys.length) zs.length ∧ Fx3 K k1 k2 k3 a1 a2 a3 xs ys zs H⟩
      [N + 5, N + 3, N + 4, N, N + 1, N + 2] (N + 5) (fun i h => IsZip h (N + 5) (N + 3) (N + 4) .none ∧ IsTupOf3 h (N + 3) (.ref N) (.ref (N + 1)) (.ref (N + 2)) ∧ (∃ a1 a2 a3, IsTupOf3 h (N + 4) a1 a2 a3) ∧ HIt k1 h N a1 i ∧ HIt k2 h (N + 1) a2 i ∧ HIt k3 h (N + 2) a3 i) := by
  refine turn_ofT (by simp) (fun i h ⟨hz, hTI, ⟨x, y, u, hTO⟩, s1, s2, s3⟩ b hb => ?_) (fun i h h' ⟨hz, hTI, ⟨x, y, u, hTO⟩, s1, s2, s3⟩ hk => ?_) (fun A i s Q E st h => wpAny_pyIter_zip st.1 h) (fun i => by show 3 ≤ 3; decide) fun X pins σ H s i hP hw hK hc I ⟨f1, f2, f3⟩ st => ?_
  · have e' : b = N + 5 ∨ b = N + 3 ∨ b = N + 4 ∨ b = N ∨ b = N + 1 ∨ b = N + 2 := by simpa using hb
    rcases e' with q | q | q | q | q | q
    · rw [q]; exact ⟨_, hz, fun v q => nomatch q⟩
    · rw [q]; exact ⟨_, hTI, fun v q => nomatch q⟩
    · rw [q]; exact ⟨_, hTO, fun v q => nomatch q⟩
    · rw [q]; exact hit_obj s1
    · rw [q]; exact hit_obj s2
    · rw [q]; exact hit_obj s3
  · exact ⟨hk _ (by simp) _ hz, hk _ (by simp) _ hTI, ⟨x, y, u, hk _ (by simp) _ hTO⟩, hit_keep s1 (hk _ (by simp)), hit_keep s2 (hk _ (by simp)), hit_keep s3 (hk _ (by simp))⟩
  · subst hP hw hK
    obtain ⟨its1, r1, q1, l1⟩ := sqk_at I f1
    obtain ⟨its2, r2, q2, l2⟩ := sqk_at I f2
    obtain ⟨its3, r3, q3, l3⟩ := sqk_at I f3
    have hh : X.A.in1.handled = none := I.ok.hd hc
    have D1 := draws_k (P := X.prog) (w := X.w) (A := X.A.in1) hh k1 N a1 (Nat.ne_of_lt h1) its1.toArray
    have D2 := draws_k (P := X.prog) (w := X.w) (A := X.A.in1) hh k2 (N + 1) a2 (Nat.ne_of_lt (Nat.lt_succ_of_lt h2)) its2.toArray
    have D3 := draws_k (P := X.prog) (w := X.w) (A := X.A.in1) hh k3 (N + 2) a3 (Nat.ne_of_lt (Nat.lt_of_lt_of_le h3 (Nat.le_add_right _ _))) its3.toArray
    have W := WalksT.zipD3 (zip_sep3 (fp1 := [a1]) (fp2 := [a2]) (fp3 := [a3]) (by simpa using h1) (by simpa using h2) (by simpa using h3)) D1 D2 D3
    obtain ⟨hz, hTI, hTO, s1, s2, s3⟩ := st
    rw [List.size_toArray, List.size_toArray, List.size_toArray, ← r1.length, ← r2.length, ← r3.length] at W
    refine ⟨_, _, _, _, _, W, fun b hb => by simp only [List.mem_cons, List.not_mem_nil, or_false] at hb; rcases hb with e | e | e | e | e <;> subst e <;> simp, ⟨hz, hTI, hTO, ⟨s1, q1⟩, ⟨s2, q2⟩, ⟨s3, q3⟩⟩, fun i h ⟨a, b, c, d, e, f⟩ => ⟨a, b, c, d.1, e.1, f.1⟩, fun i vals hi ⟨x1, x2, x3, p1, p2, p3, e⟩ => ⟨[x1, x2, x3], e, .cons (vals_at r1 p1) (.cons (vals_at r2 p2) (.cons (vals_at r3 p3) .nil))⟩⟩
/-! the walked sequence, at the view -/
def D.items : D → Option (List D)
  | .lst ds => some ds
  | .tup ds => some ds
  | .scr ns => some (ns.map D.int)
  | _ => none
section
variable {X : Cx} {J : Jc} {pos : Pos} {ms : MA}
theorem rep_items {K : PySem.W.Frag} (hK : J.g.K = K) {σ : St} {H : Hp} {v : V} {d : D} {ds : List D} (r : J.R σ H v d) (e : d.items = some ds) : ∃ a k xs, v = .ref a ∧ (∀ H', Ext1 H H' → SqK K k H' a xs) ∧ J.RL σ H xs ds := by
  cases d with
  | lst ds' =>
    cases e
    cases r with
    | lst fz r => exact ⟨_, false, _, rfl, fun H' x => (FzL.ext x fz).sq, r⟩
  | tup ds' =>
    cases e
    cases r with
    | tup sq r => exact ⟨_, true, _, rfl, fun H' x => by rw [← hK]; exact sqT_ext x sq, r⟩
  | scr ns =>
    cases e
    cases r with
    | scr h =>
      rcases h with ⟨o, h⟩ | h
      · exact ⟨_, false, _, rfl, fun H' x => (FzL.ext x ⟨o, h⟩).sq, scrL _ _ _ ns⟩
      · exact ⟨_, false, _, rfl, fun H' x => by rw [← hK]; exact h H', scrL _ _ _ ns⟩
  | _ => cases e
theorem getD_rep {σ : St} {H : Hp} {xs : List V} {ds : List D} {i : Nat} {d : D} (r : J.RL σ H xs ds) (h : ds[i]? = some d) : J.R σ H (xs.getD i .non) d := by
  obtain ⟨v, h1, h2⟩ := r.get h
  rw [List.getD_eq_getElem?_getD, h1]
  exact h2
def zip2 : List D → List D → List D
  | x :: xs, y :: ys => .tup [x, y] :: zip2 xs ys
  | _, _ => []
def zip3 : List D → List D → List D → List D
  | x :: xs, y :: ys, z :: zs => .tup [x, y, z] :: zip3 xs ys zs
  | _, _, _ => []
theorem zip2_len : ∀ xs ys : List D, (zip2 xs ys).length = min xs.length ys.length
  | [], ys => by simp [zip2]
  | _ :: _, [] => by simp [zip2]
  | x :: xs, y :: ys => by simp [zip2, zip2_len xs ys]
theorem zip3_len : ∀ xs ys zs : List D, (zip3 xs ys zs).length = min (min xs.length ys.length) zs.length
  | [], ys, zs => by simp [zip3]
  | _ :: _, [], zs => by simp [zip3]
  | _ :: _, _ :: _, [] => by simp [zip3]
  | x :: xs, y :: ys, z :: zs => by simp [zip3, zip3_len xs ys zs]
theorem zip2_get : ∀ {xs ys : List D} {i : Nat} {d : D}, (zip2 xs ys)[i]? = some d → ∃ x y, d = .tup [x, y] ∧ xs[i]? = some x ∧ ys[i]? = some y
  | [], ys, i, d, h => by simp [zip2] at h
  | _ :: _, [], i, d, h => by simp [zip2] at h
  | x :: xs, y :: ys, 0, d, h => by simp [zip2] at h; exact ⟨x, y, h.symm, rfl, rfl⟩
  | x :: xs, y :: ys, i + 1, d, h => by
    simp only [zip2, List.getElem?_cons_succ] at h
    obtain ⟨a, b, h1, h2, h3⟩ := zip2_get (xs := xs) (ys := ys) (i := i) h
    exact ⟨a, b, h1, by simpa using h2, by simpa using h3⟩
theorem zip3_get : ∀ {xs ys zs : List D} {i : Nat} {d : D}, (zip3 xs ys zs)[i]? = some d → ∃ x y z, d = .tup [x, y, z] ∧ xs[i]? = some x ∧ ys[i]? = some y ∧ zs[i]? = some z
  | [], ys, zs, i, d, h => by simp [zip3] at h
  | _ :: _, [], zs, i, d, h => by simp [zip3] at h
  | _ :: _, _ :: _, [], i, d, h => by simp [zip3] at h
  | x :: xs, y :: ys, z :: zs, 0, d, h => by simp [zip3] at h; exact ⟨x, y, z, h.symm, rfl, rfl, rfl⟩
  | x :: xs, y :: ys, z :: zs, i + 1, d, h => by
    simp only [zip3, List.getElem?_cons_succ] at h
    obtain ⟨a, b, c, h1, h2, h3, h4⟩ := zip3_get (xs := xs) (ys := ys) (zs := zs) (i := i) h
    exact ⟨a, b, c, h1, by simpa using h2, by simpa using h3, by simpa using h4⟩
def szOk (ds : List D) (p : P3) : Res (List D) := if ds.length ≤ sizeLine then .ok ds p else .bad
def mZip2 (ms : MA) : MA := fun vw p => (ms vw p).bind fun ds p1 => match ds with
  | [a, b] => match a.items, b.items with
    | some xs, some ys => szOk (zip2 xs ys) p1
    | _, _ => .bad
  | _ => .bad
def mZip3 (ms : MA) : MA := fun vw p => (ms vw p).bind fun ds p1 => match ds with
  | [a, b, c] => match a.items, b.items, c.items with
    | some xs, some ys, some zs => szOk (zip3 xs ys zs) p1
    | _, _, _ => .bad
  | _ => .bad
theorem vi_zip2 {e e2 : Expr} {p pos tpos : Pos} {elts : List Expr} {kk : Nat} (hK : J.g.K = X.K) (hm : X.mg "zip" = none) (ha : VA X J [e, e2] ms) (hg : Gl X "zip" := by rfl)
    (hs : starEach [e, e2] X.env = (false, eval e X.env) :: starEach [e2] X.env := by rfl) (hpl : (backTo pos (starEach [e2] X.env)).any (·.1) = false := by rfl) :
    VI X J (.Tuple elts kk tpos) (.Call (.Name "zip" p) [e, e2] [] pos) (mZip2 ms) := by
  refine ⟨fun pins s σ H R I ⟨vw, p0, rr, st, q⟩ => ?_⟩
  refine Call_ (ld_blt I hg hm PyProof.Rows.boot_zip (PyProof.Rows.callWith_type1 (thn (ha.run pos pins s σ H (fun vs H1 => ∃ a b xs ys p1, Ext J.g H H1 ∧ StR J.g H1 p1 ∧ J.RL σ H1 vs [a, b] ∧ a.items = some xs ∧ b.items = some ys ∧ PI3 J σ H R (szOk (zip2 xs ys) p1)) I ⟨vw, p0, rr, st, ?_⟩) fun us s1 ⟨vs, H1, I1, r1, a, b, xs, ys, p1, x1, st1, rl, ea, eb, q1⟩ => ?_) hs hpl))
  · unfold mZip2 at q
    cases e1 : ms vw p0 with
    | bad => rw [e1] at q; exact q.elim
    | err x dv p1 => rw [e1] at q; exact q
    | ok ds p1 =>
      rw [e1] at q
      intro H1 vs x1 s1 rl
      simp only [Res.bind] at q
      split at q
      · split at q
        · rename_i h1 h2
          exact ⟨_, _, _, _, p1, x1, s1, rl, h1, h2, q⟩
        · exact q.elim
      · exact q.elim
  · cases rl with
    | cons ra rl =>
      cases rl with
      | cons rb rl =>
        cases rl
        obtain ⟨a1, k1, vs1, rfl, f1, rl1⟩ := rep_items hK ra ea
        obtain ⟨a2, k2, vs2, rfl, f2, rl2⟩ := rep_items hK rb eb
        cases r1 with
        | cons r rr =>
          cases rr with
          | cons r' rr =>
            cases rr
            cases r
            cases r'
            obtain ⟨its1, v1, g1, l1⟩ := sqk_at I1 (f1 H1 .refl)
            obtain ⟨its2, v2, g2, l2⟩ := sqk_at I1 (f2 H1 .refl)
            refine zip_begins2 (begins_k k1 a1 its1.toArray) (begins_k k2 a2 its2.toArray) g1 g2 fun h' hz hTI hTO h1 h2 hsz hk => wpAny_pyIter_zip hz ?_
            have I2 : Inv X pins σ H1 { s1 with heap := h' } := I1.kept (t' := s1.toks) hk
            unfold szOk at q1
            split at q1
            · rename_i hzz
              refine ⟨s1.heap.objs.size + 4, _, _, _, H1, rfl, I2, turn_z2 (N := s1.heap.objs.size) (a1 := a1) (a2 := a2) (k1 := k1) (k2 := k2) (xs := vs1) (ys := vs2) l1 l2, ⟨hz, hTI, ⟨_, _, hTO⟩, oIt_it h1, oIt_it h2⟩, fun c hc => ?_, q1 H1 _ x1 st1 ⟨fun i H e hi => ?_, fun H e => ?_, fun i H x H' d e hd ⟨T, e1, e2, e3⟩ => ?_⟩ hzz⟩
              · have hle : s1.heap.objs.size ≤ c := by
                  simp only [List.mem_cons, List.not_mem_nil, or_false] at hc
                  rcases hc with e | e | e | e | e <;> subst e <;> first | exact Nat.le_refl _ | exact Nat.le_add_right _ _
                exact I1.fpOk hle (I1.hok.fresh hle)
              · rw [zip2_len, ← rl1.length, ← rl2.length] at hi
                exact ⟨hi, f1 H e, f2 H e⟩
              · exact ⟨by rw [zip2_len, rl1.length, rl2.length], f1 H e, f2 H e⟩
              · subst e1 e3
                obtain ⟨x', y', rfl, hx, hy⟩ := zip2_get hd
                have gr : Grow H (upd H T (.tup (yz2 vs1 vs2 i))) := Grow.upd e2
                exact ⟨gr, .tup (SqT.of upd_same) (.cons (J.ext1 (e.trans (Grow.ext (g := J.g) gr).hard) (σ := σ) (getD_rep rl1 hx)) (.cons (J.ext1 (e.trans (Grow.ext (g := J.g) gr).hard) (σ := σ) (getD_rep rl2 hy)) .nil))⟩
            · exact q1.elim
theorem vi_zip3 {e e2 e3 : Expr} {p pos tpos : Pos} {elts : List Expr} {kk : Nat} (hK : J.g.K = X.K) (hm : X.mg "zip" = none) (ha : VA X J [e, e2, e3] ms) (hg : Gl X "zip" := by rfl)
    (hs : starEach [e, e2, e3] X.env = (false, eval e X.env) :: starEach [e2, e3] X.env := by rfl) (hpl : (backTo pos (starEach [e2, e3] X.env)).any (·.1) = false := by rfl) :
    VI X J (.Tuple elts kk tpos) (.Call (.Name "zip" p) [e, e2, e3] [] pos) (mZip3 ms) := by
  refine ⟨fun pins s σ H R I ⟨vw, p0, rr, st, q⟩ => ?_⟩
  refine Call_ (ld_blt I hg hm PyProof.Rows.boot_zip (PyProof.Rows.callWith_type1 (thn (ha.run pos pins s σ H (fun vs H1 => ∃ a b c xs ys zs p1, Ext J.g H H1 ∧ StR J.g H1 p1 ∧ J.RL σ H1 vs [a, b, c] ∧ a.items = some xs ∧ b.items = some ys ∧ c.items = some zs ∧ PI3 J σ H R (szOk (zip3 xs ys zs) p1)) I ⟨vw, p0, rr, st, ?_⟩) fun us s1 ⟨vs, H1, I1, r1, a, b, c, xs, ys, zs, p1, x1, st1, rl, ea, eb, ec, q1⟩ => ?_) hs hpl))
  · unfold mZip3 at q
    cases e1 : ms vw p0 with
    | bad => rw [e1] at q; exact q.elim
    | err x dv p1 => rw [e1] at q; exact q
    | ok ds p1 =>
      rw [e1] at q
      intro H1 vs x1 s1 rl
      simp only [Res.bind] at q
      split at q
      · split at q
        · rename_i h1 h2 h3
          exact ⟨_, _, _, _, _, _, p1, x1, s1, rl, h1, h2, h3, q⟩
        · exact q.elim
      · exact q.elim
  · cases rl with
    | cons ra rl =>
      cases rl with
      | cons rb rl =>
        cases rl with
        | cons rc rl =>
          cases rl
          obtain ⟨a1, k1, vs1, rfl, f1, rl1⟩ := rep_items hK ra ea
          obtain ⟨a2, k2, vs2, rfl, f2, rl2⟩ := rep_items hK rb eb
          obtain ⟨a3, k3, vs3, rfl, f3, rl3⟩ := rep_items hK rc ec
          cases r1 with
          | cons r rr =>
            cases rr with
            | cons r' rr =>
              cases rr with
              | cons r'' rr =>
                cases rr
                cases r
                cases r'
                cases r''
                obtain ⟨its1, v1, g1, l1⟩ := sqk_at I1 (f1 H1 .refl)
                obtain ⟨its2, v2, g2, l2⟩ := sqk_at I1 (f2 H1 .refl)
                obtain ⟨its3, v3, g3, l3⟩ := sqk_at I1 (f3 H1 .refl)
                refine zip_begins3 (begins_k k1 a1 its1.toArray) (begins_k k2 a2 its2.toArray) (begins_k k3 a3 its3.toArray) g1 g2 g3 fun h' hz hTI hTO h1 h2 h3 hsz hk => wpAny_pyIter_zip hz ?_
                have I2 : Inv X pins σ H1 { s1 with heap := h' } := I1.kept (t' := s1.toks) hk
                unfold szOk at q1
                split at q1
                · rename_i hzz
                  refine ⟨s1.heap.objs.size + 5, _, _, _, H1, rfl, I2, turn_z3 (N := s1.heap.objs.size) (a1 := a1) (a2 := a2) (a3 := a3) (k1 := k1) (k2 := k2) (k3 := k3) (xs := vs1) (ys := vs2) (zs := vs3) l1 l2 l3, ⟨hz, hTI, ⟨_, _, _, hTO⟩, oIt_it h1, oIt_it h2, oIt_it h3⟩, fun c hc => ?_, q1 H1 _ x1 st1 ⟨fun i H e hi => ?_, fun H e => ?_, fun i H x H' d e hd ⟨T, e1, e2, e3⟩ => ?_⟩ hzz⟩
                  · have hle : s1.heap.objs.size ≤ c := by
                      simp only [List.mem_cons, List.not_mem_nil, or_false] at hc
                      rcases hc with e | e | e | e | e | e <;> subst e <;> first | exact Nat.le_refl _ | exact Nat.le_add_right _ _
                    exact I1.fpOk hle (I1.hok.fresh hle)
                  · rw [zip3_len, ← rl1.length, ← rl2.length, ← rl3.length] at hi
                    exact ⟨hi, f1 H e, f2 H e, f3 H e⟩
                  · exact ⟨by rw [zip3_len, rl1.length, rl2.length, rl3.length], f1 H e, f2 H e, f3 H e⟩
                  · subst e1 e3
                    obtain ⟨x', y', z', rfl, hx, hy, hz'⟩ := zip3_get hd
                    have gr : Grow H (upd H T (.tup (yz3 vs1 vs2 vs3 i))) := Grow.upd e2
                    have w : ∀ {xs : List V} {ds : List D} {d : D}, J.RL σ H1 xs ds → ds[i]? = some d → J.R [] (upd H T (.tup (yz3 vs1 vs2 vs3 i))) (xs.getD i .non) d := fun r h => J.ext1 (e.trans (Grow.ext (g := J.g) gr).hard) (σ := σ) (getD_rep r h)
                    exact ⟨gr, .tup (SqT.of upd_same) (.cons (w rl1 hx) (.cons (w rl2 hy) (.cons (w rl3 hz') .nil)))⟩
                · exact q1.elim
end
end VL

namespace VL
open PySem PySem.Spec PyProof.Rows L2 LamX
section
variable {X : Cx} {J : Jc} {base : Heap} {k : Nat} {e : Expr} {pos : Pos}
theorem ERep.move {σ w : St} {H : Hp} {env sl : En} {o : Option V} {s : Option Sl} {i : Nat} (r : ERep X J (σ ++ o :: w) H (env ++ s :: sl)) (hl : env.length = σ.length) : ERep X J (σ.set i o ++ w) H (env.set i s ++ sl) := by
  have hw : sl.length = w.length := by
    have := r.len
    rw [List.length_append, List.length_append, List.length_cons, List.length_cons] at this
    omega
  refine r.re (fun k => if k < env.length then (if k = i then env.length else k) else k + 1) (by rw [List.length_append, List.length_append, List.length_set, List.length_set, hl, hw]) (fun k s' hk => ?_) fun a b hab ha hb => ?_
  · by_cases h1 : k < env.length
    · have h1' : k < σ.length := by rw [← hl]; exact h1
      rw [List.getElem?_append_left (by rw [List.length_set]; exact h1)] at hk
      simp only [h1, if_true]
      by_cases h2 : k = i
      · subst h2
        rw [List.getElem?_set_self h1] at hk
        simp only [if_true]
        refine ⟨?_, ?_⟩
        · rw [List.getElem?_append_right (Nat.le_refl _)]
          simpa using hk
        · rw [List.getElem?_append_left (by rw [List.length_set]; exact h1'), List.getElem?_set_self h1', List.getElem?_append_right (Nat.le_of_eq hl.symm), hl]
          simp
      · rw [List.getElem?_set_ne (Ne.symm h2)] at hk
        simp only [h2, if_false]
        refine ⟨?_, ?_⟩
        · rw [List.getElem?_append_left h1]; exact hk
        · rw [List.getElem?_append_left (by rw [List.length_set]; exact h1'), List.getElem?_set_ne (Ne.symm h2), List.getElem?_append_left h1']
    · simp only [h1, if_false]
      rw [List.getElem?_append_right (by rw [List.length_set]; omega), List.length_set] at hk
      have e1 : k + 1 - env.length = (k - env.length) + 1 := by omega
      have e2 : k + 1 - σ.length = (k - σ.length) + 1 := by omega
      refine ⟨?_, ?_⟩
      · rw [List.getElem?_append_right (by omega), e1, List.getElem?_cons_succ]; exact hk
      · rw [List.getElem?_append_right (by rw [List.length_set]; omega), List.length_set, List.getElem?_append_right (by omega), e2, List.getElem?_cons_succ]
  · split <;> split <;> (try split) <;> (try split) <;> omega
theorem ERep.moves : ∀ {is : List Nat} {vs : List V} {sls : List Sl} {σ : St} {H : Hp} {env : En}, ERep X J (σ ++ vs.map some) H (env ++ sls.map some) → env.length = σ.length → is.length = vs.length → is.length = sls.length → ERep X J ((is.zip vs).foldl (fun σ x => σ.set x.1 (some x.2)) σ) H (setAll is sls env)
  | [], [], [], σ, H, env, r, hl, _, _ => by simpa [setAll] using r
  | i :: is, v :: vs, s :: sls, σ, H, env, r, hl, h1, h2 => by
    have q := ERep.move (i := i) (show ERep X J (σ ++ some v :: vs.map some) H (env ++ some s :: sls.map some) from r) hl
    exact ERep.moves (is := is) q (by unfold setE; rw [List.length_set, List.length_set, hl]) (by simpa using h1) (by simpa using h2)
theorem evs_len : ∀ (ls : List El) (env : En) (p : P3) (sls : List Sl) (p1 : P3), evs ls env p = .ok sls p1 → sls.length = ls.length := by
  intro ls
  induction ls with
  | nil => intro env p sls p1 h; cases h; rfl
  | cons l ls ih =>
    intro env p sls p1 h
    have go : ∀ {α : Type} {r : Res α} {f : α → Sl}, (r.bind fun d p1 => (evs ls env p1).bind fun sl p2 => .ok (f d :: sl) p2) = .ok sls p1 → sls.length = (l :: ls).length := by
      intro α r f h
      cases r with
      | bad => cases h
      | err x dv p1 => cases h
      | ok d p2 =>
        simp only [Res.bind] at h
        cases e3 : evs ls env p2 with
        | bad => rw [e3] at h; cases h
        | err x dv p1 => rw [e3] at h; cases h
        | ok sl p3 => rw [e3] at h; cases h; exact congrArg (· + 1) (ih _ _ _ _ e3)
    cases l with
    | inl im => exact go h
    | inr m => exact go h
theorem par_logic {es : List Expr} {ls : List El} {ta : TA} {is : List Nat} {Dn : Ends} {σ : St} {H : Hp} {Q : List V → Hp → Prop} (ha : PEls X J es ls ta) (hls : is.length = ls.length) (h : tS X J (sPar is ls) Dn σ H)
    (hq : ∀ vs H1 sls env p, vs.length = is.length → is.length = sls.length → env.length = σ.length → StR J.g H1 p → ERep X J (σ ++ vs.map some) H1 (env ++ sls.map some) → (∀ σ' H', ERep X J σ' H' (setAll is sls env) → StR J.g H' p → Ext1 H1 H' → Dn.nx σ' H') → Q vs H1) : ta σ H Q := by
  obtain ⟨env, p, r, s, q⟩ := h
  refine pels_run (w := []) (sl0 := []) (p := p) r.len ha (by simpa using r) s ?_
  unfold sPar at q
  cases e1 : evs ls env p with
  | bad => rw [e1] at q; exact q
  | err z dv p1 => rw [e1] at q; exact fun H' e H2 C dd y e2 => q σ H2 C dd y (e.trans e2)
  | ok sls p1 =>
    rw [e1] at q
    intro vs H' x1 r1 s1 hz
    have hsl := evs_len _ _ _ _ _ e1
    exact hq vs H' sls env p1 (by omega) (by omega) r.len s1 (by simpa using r1) fun σ' H'' r' s' x' => q σ' H'' r' s' (x1.hard.trans x')
theorem vs_par2 {i j : Nat} {x y : Str} {a b : Expr} {la lb : El} {ta : TA} {px py pt : Pos} {kt k2 pt2} (hc : X.calm = true) (hN : X.N.Nodup) (ha : PEls X J [a, b] [la, lb] ta) (hij : i ≠ j) (hi : X.N[i]? = some x := by rfl) (hj : X.N[j]? = some y := by rfl)
    (hx : X.env.scope.names.lookup x = some .local := by rfl) (hy : X.env.scope.names.lookup y = some .local := by rfl)
    (hw : swappedStores [.Tuple [.Name x px, .Name y py] kt pt] (.Tuple [a, b] k2 pt2) X.env = pure (some [x, y]) := by rfl)
    (hs : swapsWithSole [.Tuple [.Name x px, .Name y py] kt pt] (.Tuple [a, b] k2 pt2) pos.line X.env = pure false := by rfl) :
    VS X J (.Assign [.Tuple [.Name x px, .Name y py] kt pt] (.Tuple [a, b] k2 pt2) pos) (sPar [i, j] [la, lb]) := by
  refine ps_imp (ps_par hc hN hi hj hij hx hy ha.pa hw hs) fun Dn σ H h => par_logic ha rfl h fun vs H1 sls env p h1 h2 h3 s r q => ?_
  match vs, h1 with
  | [v1, v2], _ => exact ⟨v1, v2, rfl, q _ H1 (r.moves h3 rfl h2) s .refl⟩
theorem vs_par3 {i j l : Nat} {x y z : Str} {a b c : Expr} {la lb lc : El} {ta : TA} {px py pz pt : Pos} {kt k2 pt2} (hc : X.calm = true) (hN : X.N.Nodup) (ha : PEls X J [a, b, c] [la, lb, lc] ta) (hij : i ≠ j) (hil : i ≠ l) (hjl : j ≠ l) (hi : X.N[i]? = some x := by rfl) (hj : X.N[j]? = some y := by rfl) (hl : X.N[l]? = some z := by rfl)
    (hx : X.env.scope.names.lookup x = some .local := by rfl) (hy : X.env.scope.names.lookup y = some .local := by rfl) (hz : X.env.scope.names.lookup z = some .local := by rfl)
    (hw : swappedStores [.Tuple [.Name x px, .Name y py, .Name z pz] kt pt] (.Tuple [a, b, c] k2 pt2) X.env = pure (some [x, y, z]) := by rfl)
    (hs : swapsWithSole [.Tuple [.Name x px, .Name y py, .Name z pz] kt pt] (.Tuple [a, b, c] k2 pt2) pos.line X.env = pure false := by rfl) :
    VS X J (.Assign [.Tuple [.Name x px, .Name y py, .Name z pz] kt pt] (.Tuple [a, b, c] k2 pt2) pos) (sPar [i, j, l] [la, lb, lc]) := by
  refine ps_imp (ps_par3 hc hN hi hj hl hij hil hjl hx hy hz ha.pa hw hs) fun Dn σ H h => par_logic ha rfl h fun vs H1 sls env p h1 h2 h3 s r q => ?_
  match vs, h1 with
  | [v1, v2, v3], _ => exact ⟨v1, v2, v3, rfl, q _ H1 (r.moves h3 rfl h2) s .refl⟩
/-- a, b, .. = (e1, e2, ..), the tuple made, then taken apart -/
theorem tn_sets {es : List Expr} {is : List Nat} {u : TGs} (h : TNames X es is u) : ∀ {vs : List V} {σ : St} {H : Hp} {Q : St → Hp → Prop}, is.length = vs.length → Q ((is.zip vs).foldl (fun σ x => σ.set x.1 (some x.2)) σ) H → u vs σ H Q := by
  induction h with
  | nil =>
    intro vs σ H Q hl q
    cases vs with
    | nil => exact ⟨rfl, q⟩
    | cons v vs => cases hl
  | @cons i es is t e u _ ht _ _ ih =>
    intro vs σ H Q hl q
    subst ht
    cases vs with
    | nil => cases hl
    | cons v vs => exact ⟨v, vs, rfl, ih (by simpa using hl) q⟩
theorem vs_tupEl {es vls : List Expr} {js : List Nat} {u : TGs} {ls : List El} {ta : TA} {j k2 : Nat} {tpos p2 : Pos} (hc : X.calm = true) (ht : TNames X es js u) (ha : PEls X J vls ls ta) (hls : js.length = ls.length) (h3 : js.length ≤ 8) (hn : (assignEach es X.env).length = js.length := by rfl) (hst : (assignEach es X.env).findIdx? (·.1) = none := by rfl)
    (hs : swapsWithSole [.Tuple es j tpos] (.Tuple vls k2 p2) pos.line X.env = pure false := by rfl) (hw : swappedStores [.Tuple es j tpos] (.Tuple vls k2 p2) X.env = pure none := by rfl) (h1 : (assignEach [.Tuple es j tpos] X.env).map (·.2) = [assign (.Tuple es j tpos) X.env] := by rfl) :
    VS X J (.Assign [.Tuple es j tpos] (.Tuple vls k2 p2) pos) (sPar js ls) := by
  refine ps_imp (ps_asg (pe_tup ha.pa) (pg_tup hc (tn_pgs ht) hn hst) hs hw h1) fun Dn σ H h => par_logic ha hls h fun vs H1 sls env p h4 h5 h6 s r q => ?_
  refine ⟨by rw [h4]; exact Nat.le_trans h3 (by decide), fun a hn' => ⟨a, vs, rfl, SqT.of upd_same, by rw [h4], tn_sets ht h4.symm ?_⟩⟩
  have gr : Grow H1 (upd H1 a (.tup vs)) := Grow.upd hn'
  exact q _ _ (((r.moves h6 h4.symm h5)).ext1 gr.ext) (s.grow gr) (Grow.ext (g := J.g) gr).hard
end

/-! ### own exceptions raised -/
def spI (K : PySem.W.Frag) : Sp := fun vs H Q _ => ∃ (a C : Addr) (v : V), vs = [.ref a, v] ∧ OexC K C ∧ PySem.W.findIn K (.ref C) "value" = some none ∧ H a = some (exo a C none) ∧ ∀ dx, H dx = none → dx ≠ a → Q .non (upd (upd H dx (exd dx [("value", v)])) a (exo a C (some dx)))
abbrev scI : Scope := { kind := .function, names := [(Str.ofString "self", .local), (Str.ofString "value", .local), (Str.ofString "ValueError", .globalImplicit)], isGenerator := false, isCoroutine := false, more := [] }
/-- the class's __init__, walked -/
theorem init_ok {P : Program} {w : World} {K : PySem.W.Frag} {mg : Str → Option Value} {base : Heap} {qual : Str} {st : Stmt} {f : Addr} {fd : FuncData} {k : Nat} {p1 p2 p3 p4 p5 p6 p7 p8 p9 p10 : Pos} (F : L2.Fun K "__init__" qual st f fd) (hsc : defScope st = scI)
    (hb : defBody st = [.Expr (.Call (.Attribute (.Name "ValueError" p1) "__init__" p2) [.Name "self" p3, .Name "value" p4] [] p5) p6, .Assign [.Attribute (.Name "self" p7) "value" p8] (.Name "value" p9) p10])
    (hc : ∀ env : Env, ∃ pl : Sem Bool, eval (.Call (.Attribute (.Name "ValueError" p1) "__init__" p2) [.Name "self" p3, .Name "value" p4] [] p5) env = (do
      let ov ← eval (.Name "ValueError" p1) env
      standAt p2.atName
      let (f, first) ← holding [ov] (getMethod ov "__init__" pl)
      callWith p5 f first (backTo p5 (starEach [.Name "self" p3, .Name "value" p4] env)) (backToKw p5 (keywordEach [] env))))
    (hm : mg "ValueError" = none) (vV : PySem.W.findCls K (.type "ValueError") (.type "type") "__init__" = some (.val (.builtin "ValueError.__init__"))) : FnOk P w K mg base L2.CX0 (k + 1) f fd ["self", "value"] (spI K) := by
  have S : FnScope ["self", "value"] ["self", "value"] (defScope st) := by
    rw [hsc]
    exact ⟨rfl, rfl, rfl, by decide +kernel, rfl, by decide +kernel, by decide +kernel⟩
  refine F.ok S (fun vs H Q E ⟨a, C, v, e, _⟩ => by subst e; rfl) fun cdv A outer s H vs Q E hr ⟨a, C, v, e, T, hno, ha, q⟩ => ?_
  subst e
  rw [hb, hsc]
  obtain ⟨pl, hc⟩ := hc (cxOf L2.CX0 P w K mg base ["self", "value"] qual scI f cdv A outer s H E).nox.env
  refine ⟨_, pss_cons (ps_expr (pe_veinit (pl := pl) rfl hm vV (pa_cons (pv 0) (pa_cons (pv 1) pa_nil)) hc) rfl) (pss_one (ps_ost (pv 0) (pv 1) rfl)), ?_⟩
  refine ⟨_, rfl, _, rfl, a, C, [v], rfl, by simp, T, ha, ?_⟩
  exact ⟨_, rfl, _, rfl, a, C, rfl, T, hno, .inl ⟨ha, q⟩⟩
/-- what is known of an own exception class -/
structure ErrC (P : Program) (w : World) (base : Heap) (g : Gx) (x : Str) : Prop where
  ex : ∃ (C fI : Addr) (fd : FuncData), OexC g.K C ∧ PySem.W.findIn g.K (.ref C) "__init__" = some (some (.ref fI)) ∧ PySem.W.typeIn g.K (.ref fI) = some (.type "function") ∧ PySem.W.findIn g.K (.ref C) "value" = some none ∧ g.mg x = some (.ref C) ∧ Binds g.K fd ["self", "value"] [] ∧ FnOk P w g.K g.mg base L2.CX0 1 fI fd ["self", "value"] (spI g.K)
section
variable {X : Cx} {J : Jc} {base : Heap} {k : Nat} {e : Expr} {pos : Pos}
def xRaise (is : List Nat) (x : Str) (me : ME) : MS := onX is me fun d _ p => .err x d p
theorem vx_raise {is : List Nat} {x : Str} {me : ME} {p pos' : Pos} (F : Fr0 X J base k) (hk : 2 ≤ k) (C : ErrC X.prog X.w X.base J.g x) (h : VE X J e me) (hg : Gl X x := by rfl) (hdb : (x == ("__debug__" : Str)) = false := by decide) (hst : starEach [e] X.env = (false, eval e X.env) :: starEach [] X.env := by rfl) (hpl : (backTo pos (starEach [] X.env)).any (·.1) = false := by rfl) :
    VS X J (.Raise (some (.Call (.Name x p) [e] [] pos)) none pos') (xRaise is x me) := by
  obtain ⟨C, fI, fd, T, iC, tI, hno, hx, hb, F1⟩ := C.ex
  rw [F.K, F.mg] at F1
  rw [F.K] at T iC tI hno hb
  have hx' : X.mg x = some (.ref C) := F.mg ▸ hx
  refine ps_imp (ps_raise F.calm F.tk (pmk_oex T iC tI F1 (F.room.mono hk) hb .nil pass0 hg hx' (pa_cons (pe_bor h is) pa_nil hst) hdb hst hpl)) fun Dn σ H q => ?_
  refine onX_logic q fun env d p1 H1 v r s rv q => ?_
  refine ⟨by simp, fun a ha => ⟨a, C, v, by simp, T, hno, upd_same, fun dx hdx hne => ⟨rfl, dx, [("value", v)], upd_same, ?_, ?_, ?_⟩⟩⟩
  · rw [upd_ne hne, upd_same]
  · rw [upd_ne hne] at hdx; exact hdx
  · have hd1 : H1 dx = none := by rw [upd_ne hne] at hdx; exact hdx
    have gr : Grow H1 (upd (L2.del (upd (upd (upd H1 a (exo a C none)) dx (exd dx [("value", v)])) a (exo a C (some dx))) a) dx (.xd [("value", v)])) := fun b o hb => by
      have h1 : b ≠ a := ne_of_none hb ha
      have h2 : b ≠ dx := ne_of_none hb hd1
      rw [upd_ne h2, del_ne h1, upd_ne h1, upd_ne h2, upd_ne h1]
      exact hb
    exact q σ _ C dx v (r.ext.trans gr.ext) (s.grow gr) hx upd_same (J.ext gr.ext rv)
end
end VL

namespace VL
open PySem PySem.Spec PyProof.Rows L2 LamX
section
variable {X : Cx} {J : Jc} {base : Heap} {k : Nat} {e a b : Expr} {ma mb m : ME} {pos : Pos}
/-! ### powers of greater numbers -/
def CPowW (i j : Int) : Prop := 0 ≤ j ∧ (Builtin.Int.intBits i : Int) * j ≤ 2 ^ 27
theorem op_powW : OpR X (binaryOp .Pow) (rI CPowW fun i j => .int (i ^ j.toNat)) := opI fun _ _ _ _ _ _ _ hc q => pow_int hc.1 hc.2 q
def D.powW : D → D → Option D
  | .int a, .int b => if 0 ≤ b ∧ ((b ≤ 1000000 ∧ a.natAbs < 2 ^ 64) ∨ (Builtin.Int.intBits a : Int) * b ≤ 2 ^ 27) then some (.int (a ^ b.toNat)) else none
  | _, _ => none
theorem ve_powW (ha : VE X J a ma) (hb : VE X J b mb) : VE X J (.BinOp a .Pow b pos) (m2 D.powW ma mb) := by
  refine ve_two (pe_op (op_pow.or op_powW) ha hb) fun σ H Q x y dx dy d rx ry e q => ?_
  unfold D.powW at e
  split at e
  · cases rx; cases ry
    split at e
    · rename_i hc
      cases e
      obtain ⟨h1, h2 | h2⟩ := hc
      · exact .inl ⟨_, _, rfl, rfl, ⟨h1, h2.1, h2.2⟩, q H _ (fun _ _ k => k) (.int _)⟩
      · exact .inr ⟨_, _, rfl, rfl, ⟨h1, h2⟩, q H _ (fun _ _ k => k) (.int _)⟩
    · cases e
  · cases e
/-! ### texts -/
def D.upper : D → Option D
  | .str x => if x.length ≤ 5592405 then some (.str (Txt.upper x)) else none
  | _ => none
theorem ve_upper {p1 : Pos} (ha : VE X J e m) (hbase : attributeBase e "upper" X.env (eval e X.env) = eval e X.env := by rfl) (hline : (p1.endLine == pos.line) = true := by rfl) : VE X J (.Call (.Attribute e "upper" p1) [] [] pos) (m1 D.upper m) := by
  refine ve_one (r := fun x H Q => tyV X.K "str" x H ∧ (∃ a, x = .str a ∧ ([] : List V) = [] ∧ a.length ≤ 5592405 ∧ Q (.str (Txt.upper a)) H)) (pe_bm0 PySem.F.plainAttrs_str PySem.F.slot_str_upper PySem.F.type_str_upper mt_upper ha hbase hline) fun σ H Q x dx d rx e q => ?_
  unfold D.upper at e
  split at e
  · cases rx
    split at e
    · rename_i hz
      cases e
      exact ⟨rfl, _, rfl, rfl, hz, q H _ (fun _ _ k => k) (.str _)⟩
    · cases e
  · cases e
def dStr : List D → Option D
  | [.int i] => if i.natAbs.log2 < 1920 then some (.str (toString i)) else none
  | [.str x] => some (.str x)
  | _ => none
theorem call_strD : CallR X (.type "str") (fun xs H Q => (∃ i, xs = [.int i] ∧ i.natAbs.log2 < 1920 ∧ Q (.str (toString i)) H) ∨ (∃ a, xs = [.str a] ∧ Q (.str a) H)) := call_str_int.or SkE.call_str_str
theorem on_str : OpN J dStr (fun xs H Q => (∃ i, xs = [.int i] ∧ i.natAbs.log2 < 1920 ∧ Q (.str (toString i)) H) ∨ (∃ a, xs = [.str a] ∧ Q (.str a) H)) := fun σ H Q xs ds d r e q => by
  unfold dStr at e
  split at e
  · cases r with
    | cons r1 r2 =>
      cases r2; cases r1
      split at e
      · rename_i hz
        cases e
        exact .inl ⟨_, rfl, hz, q H _ (fun _ _ k => k) (.str _)⟩
      · cases e
  · cases r with
    | cons r1 r2 =>
      cases r2; cases r1; cases e
      exact .inr ⟨_, rfl, q H _ (fun _ _ k => k) (.str _)⟩
  · cases e
/-! ### the pot -/
def pGet : P3 → Nat → Option Int
  | some (x, _, _), 0 => some x
  | some (_, y, _), 1 => some y
  | some (_, _, z), 2 => some z
  | _, _ => none
def pPut : P3 → Nat → Int → P3
  | some (_, y, z), 0, i => some (i, y, z)
  | some (x, _, z), 1, i => some (x, i, z)
  | some (x, y, _), 2, i => some (x, y, i)
  | p, _, _ => p
def mPotIx (m : ME) (k : Nat) : ME := fun vw p => (m vw p).bind fun d p1 => match d, pGet p1 k with
  | .pot, some i => .ok (.int i) p1
  | _, _ => .bad
theorem ve_potIx {k : Nat} {j : Nat} {p2 : Pos} (ha : VE X J e m) (hs : PlainIx (.Constant (.int (k : Int)) j p2)) : VE X J (.Subscript e (.Constant (.int (k : Int)) j p2) pos) (mPotIx m k) := by
  refine pe_imp (pe_ix ix_seq ha (pe_int (i := (k : Int))) hs) fun σ H Q ⟨vw, p, rr, s, q⟩ => ⟨vw, p, rr, s, ?_⟩
  unfold mPotIx at q
  cases e1 : m vw p with
  | bad => rw [e1] at q; exact q.elim
  | err x dv p1 => rw [e1] at q; exact q
  | ok d p1 =>
    rw [e1] at q
    simp only [Res.bind] at q
    intro H1 v x1 s1 r1
    split at q
    · rename_i i hg
      cases r1 with
      | pot hp =>
        have w := s1.pot
        unfold PotR at w
        rw [hp] at w
        cases p1 with
        | none => exact w.elim
        | some t =>
          obtain ⟨x, y, z⟩ := t
          refine .inl ⟨_, _, _, .int i, rfl, rfl, .inl (.inl w), ?_, q H1 _ x1 s1 (.int i)⟩
          match k, hg with
          | 0, hg => cases hg; rfl
          | 1, hg => cases hg; rfl
          | 2, hg => cases hg; rfl
    · exact q.elim
theorem ERep.potTurn {σ : St} {H : Hp} {env : En} {a : Addr} {xs ys : List V} (r : ERep X J σ H env) (ha : H a = some (.lst xs)) (hp : J.g.pa = some a) : ERep X J σ (upd H a (.lst ys)) env := by
  have e1 : Ext1 H (upd H a (.lst ys)) := ext1_lst ha
  refine ⟨r.len, fun j sl h => ?_, r.dist, fun b o hb k n => ?_⟩
  · have q := r.slot j sl h
    cases sl with
    | p d' =>
      obtain ⟨v', h1, h2⟩ := q
      exact ⟨v', h1, J.ext1 e1 h2⟩
    | l ds' =>
      obtain ⟨b, ys, h1, h2, h3, h4⟩ := q
      refine ⟨b, ys, h1, ?_, J.extL1 e1 h3, h4⟩
      rw [upd_ne]
      · exact h2
      · intro e
        subst e
        exact h4.1 hp
  · have w := r.ext b o hb k n
    rw [upd_ne]
    · exact w
    · intro e
      subst e
      rw [ha] at w
      cases w
      exact k hp xs rfl
def sPotSet (i k : Nat) (me : ME) : MS := onV me fun d env p => match env[i]?, d, pGet p k with
  | some (some (.p .pot)), .int v, some _ => .ok (.nx, env) (pPut p k v)
  | _, _, _ => .bad
theorem vs_potSet {i k j : Nat} {x : Str} {p1 p2 p3 : Pos} (h : VE X J e m) (hN : X.N[i]? = some x := by rfl) (hv : Vis X.env.scope x := by first | exact Or.inl rfl | exact Or.inr (Or.inl rfl) | exact Or.inr (Or.inr rfl)) (hd : (x == ("__debug__" : Str)) = false := by decide)
    (hcd : (x == ("__classdict__" : Str)) = false := by decide)
    (ha : ∀ v, assign (.Subscript (.Name x p1) (.Constant (.int (k : Int)) j p3) p2) X.env v = (do
      let ov ← holding [v] (eval (.Name x p1) X.env)
      let iv ← holding [v, ov] (eval (.Constant (.int (k : Int)) j p3) X.env)
      standAt p2
      holding [v, ov, iv] (setItem ov iv v)
      release [v, ov, iv] []) := by intro _; rfl)
    (hs : swapsWithSole [.Subscript (.Name x p1) (.Constant (.int (k : Int)) j p3) p2] e pos.line X.env = pure false := by rfl) (hw : swappedStores [.Subscript (.Name x p1) (.Constant (.int (k : Int)) j p3) p2] e X.env = pure none := by rfl)
    (h1 : (assignEach [.Subscript (.Name x p1) (.Constant (.int (k : Int)) j p3) p2] X.env).map (·.2) = [assign (.Subscript (.Name x p1) (.Constant (.int (k : Int)) j p3) p2) X.env] := by rfl) :
    VS X J (.Assign [.Subscript (.Name x p1) (.Constant (.int (k : Int)) j p3) p2] e pos) (sPotSet i k m) := by
  refine ps_imp (ps_asg h (pg_sub (pe_var hN hv hd hcd) pe_int set_list ha) hs hw h1) fun Dn σ H q => onV_logic q fun env d p1 H1 v r s rv q => ?_
  split at q
  · rename_i v' old hi hg
    obtain ⟨u, e1, e2⟩ := r.slot i _ hi
    cases e2 with
    | @pot a hp =>
      have w := s.pot
      unfold PotR at w
      rw [hp] at w
      cases rv
      cases p1 with
      | none => exact w.elim
      | some t =>
        obtain ⟨x, y, z⟩ := t
        have st : ∀ p', PotR J.g (upd H1 a (.lst [V.int x, V.int y, V.int z])) p' → True := fun _ _ => trivial
        have go : ∀ (j : Nat) (x' y' z' : Int), k = j → ixN 3 (j : Int) = some j → [V.int x, V.int y, V.int z].set j (.int v') = [V.int x', V.int y', V.int z'] → pPut (some (x, y, z)) k v' = some (x', y', z') →
            tVar i σ H1 fun o H2 => (fun σ H Q => Q (V.int (k : Int)) H) σ H2 fun ix H3 => rSetL o ix (.int v') H3 fun H4 => Dn.nx σ H4 := fun j x' y' z' ek hx e3 e4 => by
          refine ⟨.ref a, e1, a, _, _, j, rfl, rfl, w, by rw [ek]; exact hx, ?_⟩
          rw [e3]
          rw [e4] at q
          refine q _ _ (r.potTurn w hp) ⟨?_, fun P hP => ?_⟩ (ext1_lst w)
          · unfold PotR
            rw [hp]
            exact upd_same
          · obtain ⟨ps, h1, h2, h3⟩ := s.tab P hP
            refine ⟨ps, ?_, h2, fun pos cv hc => ?_⟩
            · rw [upd_ne]
              · exact h1
              · intro e; rw [e, w] at h1; cases h1
            · obtain ⟨c, e1, e2⟩ := h3 pos cv hc
              refine ⟨c, e1, ?_⟩
              rw [upd_ne]
              · exact e2
              · intro e; rw [e, w] at e2; unfold CodeO at e2; cases e2
        have hk : k = 0 ∨ k = 1 ∨ k = 2 := by
          match k, hg with
          | 0, _ => exact .inl rfl
          | 1, _ => exact .inr (.inl rfl)
          | 2, _ => exact .inr (.inr rfl)
        rcases hk with hk | hk | hk
        · exact go 0 v' y z hk rfl rfl (by rw [hk]; rfl)
        · exact go 1 x v' z hk rfl rfl (by rw [hk]; rfl)
        · exact go 2 x y v' hk rfl rfl (by rw [hk]; rfl)
  · exact q.elim
end
end VL

namespace VL
open PySem PySem.Spec PyProof.Rows L2 LamX
/-! ### a def that hands on a new list -/
def PFN (g : Gx) (H : Hp) (Q : VK) (E : XK) : Res (List D) → Prop
  | .ok ds p => ∀ (H' : Hp) (a : Addr) (xs : List V), Ext g H H' → StR g H' p → H' a = none → RepL g coN H' xs ds → Q (.ref a) (upd H' a (.lst xs))
  | .err x dv p => ∀ (H' : Hp) (C dd : Addr) (y : V), Ext g H H' → StR g H' p → g.mg x = some (.ref C) → H' dd = some (.xd [("value", y)]) → Rep g coN H' y dv → E (.ref C) (some dd) H'
  | .bad => False
structure FnN (P : Program) (w : World) (base : Heap) (g : Gx) (k : Nat) (f : Addr) (fd : FuncData) (ps : List Str) (mf : List D → P3 → Res (List D)) : Prop where
  len : ∀ ds p, ds.length ≠ ps.length → mf ds p = .bad
  run : ∀ (A : Around) (outer : List Env) (s : Shared) (H : Hp) (args : Args) (us : List Value) (vs : List V) (ds : List D) (p : P3) (Q : VK) (E : XK), Room k A → A.guards = some [] → Env0 P w g.K g.mg base A outer s H → BindsTo s fd args (ps.zip us) → Vals vs us →
    RepL g coN H vs ds → StR g H p → PFN g H Q E (mf ds p) → codeAny (model P w) A (.call (.ref f) args) (CR (L2.CX P w) outer P w H s Q E) s
structure CalN (P : Program) (w : World) (base : Heap) (g : Gx) (k : Nat) (x : Str) (ps : List Str) (mf : List D → P3 → Res (List D)) : Prop where
  ex : ∃ (f : Addr) (fd : FuncData), g.mg x = some (.ref f) ∧ PySem.W.keepIn g.K (.ref f) = true ∧ Binds g.K fd ps [] ∧ FnN P w base g k f fd ps mf
def outN (r : Res (Fl × En)) : Res (List D) := match r with
  | .ok (.rtl ds, _) p => .ok ds p
  | .ok _ _ => .bad
  | .err x v p => .err x v p
  | .bad => .bad
def callN (n np : Nat) (m : MS) : List D → P3 → Res (List D) := fun ds p => if ds.length = np then outN (m (env0 n ds) p) else .bad
section
variable {P : Program} {w : World} {base : Heap} {g : Gx} {k : Nat} {x qual : Str} {st : Stmt} {f : Addr} {fd : FuncData} {N ps : List Str} {m : MS}
/-- a def entered: its frame, its slots -/
theorem enter (F : L2.Fun g.K x qual st f fd) (S : FnScope N ps (L2.defScope st))
    (hbody : ∀ (cdv : Value) (A : Around) (outer : List Env) (s : Shared) (H : Hp) (E : XK), Fr0 (cxOf (L2.CX P w) P w g.K g.mg base N qual (L2.defScope st) f cdv A outer s H E) (jP g fun cls d _ H' => E cls d H') base k →
      VSs (cxOf (L2.CX P w) P w g.K g.mg base N qual (L2.defScope st) f cdv A outer s H E) (jP g fun cls d _ H' => E cls d H') (L2.defBody st) m)
    {A : Around} {outer : List Env} {s : Shared} {H : Hp} {args : Args} {us : List Value} {vs : List V} {ds : List D} {p : P3} {Q : VK} {E : XK} (hr : Room (k + 1) A) (gd : A.guards = some []) (e0 : Env0 P w g.K g.mg base A outer s H) (hb : BindsTo s fd args (ps.zip us)) (r : Vals vs us)
    (rd : RepL g coN H vs ds) (stp : StR g H p) (hl : ds.length = ps.length) (q : ∀ cdv, PSt (cxOf (L2.CX P w) P w g.K g.mg base N qual (L2.defScope st) f cdv A outer s H E) (jP g fun cls d _ H' => E cls d H') { nx := fun _ H' => Q .non H', rt := Q } (L2.start N vs) H (m (env0 N.length ds) p)) :
    codeAny (model P w) A (.call (.ref f) args) (CR (L2.CX P w) outer P w H s Q E) s := by
  obtain ⟨oc, od, kV, doc, pm, an, cdv, ct, osl, rfl, lk, hcd⟩ := F.ex
  have hpl : ps.length ≤ N.length := by have := congrArg List.length S.pre; rw [List.length_take] at this; omega
  have KX : g.K.In s.heap := e0.mod.kin.keeps fun b o e => (e0.bs b o e).1
  have lim : s.heap.NoLimit := e0.mod.nolimit.keeps fun b o e => (e0.bs b o e).1
  have hkind : ∀ y ∈ ps.zip us, (L2.defScope st).names.lookup y.1 = some .local ∨ ((L2.defScope st).names.lookup y.1 = some .cell ∧ ((cellsFrom (s.heap.objs.size + 1) (L2.defScope st).names []).lookup y.1).isSome = true) := fun ⟨n, v⟩ hy => by
    rcases S.par n (List.of_mem_zip hy).1 with z | z
    · exact .inl z
    · exact .inr ⟨z, PySem.W.cellsFrom_some _ _ _ (.inl z)⟩
  have hvl : vs.length = ps.length := by rw [rd.length, hl]
  refine codeAny_call_function hr.depth (KX _ _ lk) rfl S.co S.gen rfl (PySem.W.codeRec_of KX hcd) (hb _ _ _ _ ?_)
  refine wpAny_newFunctionEnv_cells S.kind hkind fun env he s1 xx => ?_
  subst he
  refine ⟨lim.keeps xx.toInCall.keep, codeAny_func ?_⟩
  have I : Inv (cxOf (L2.CX P w) P w g.K g.mg base N qual (L2.defScope st) f cdv A outer s H E) [] (L2.start N vs) H s1 := inv_start S hr.hd e0 hvl r xx
  have F0 : Fr0 (cxOf (L2.CX P w) P w g.K g.mg base N qual (L2.defScope st) f cdv A outer s H E) (jP g fun cls d _ H' => E cls d H') base k :=
    ⟨rfl, rfl, rfl, takes_of rfl rfl rfl rfl, hr.deeper _, gd, rfl⟩
  have er : ERep (cxOf (L2.CX P w) P w g.K g.mg base N qual (L2.defScope st) f cdv A outer s H E) (jP g fun cls d _ H' => E cls d H') (L2.start N vs) H (env0 N.length ds) := by
    refine ⟨?_, fun i sl h => ?_, fun i j a _ ⟨ds', h⟩ => ?_, .refl⟩
    · unfold env0 L2.start
      rw [List.length_append, List.length_append, List.length_map, List.length_map, List.length_replicate, List.length_replicate, rd.length]
    · unfold env0 at h
      by_cases hi : i < ds.length
      · rw [List.getElem?_append_left (by rw [List.length_map]; exact hi), List.getElem?_map, List.getElem?_eq_getElem hi] at h
        cases h
        obtain ⟨v, h1, h2⟩ := rd.get (List.getElem?_eq_getElem hi)
        exact ⟨v, start_get (by omega) h1, h2⟩
      · rw [List.getElem?_append_right (by rw [List.length_map]; omega), List.getElem?_replicate] at h
        split at h <;> cases h
    · unfold env0 at h
      by_cases hi : i < ds.length
      · rw [List.getElem?_append_left (by rw [List.length_map]; exact hi), List.getElem?_map, List.getElem?_eq_getElem hi] at h
        cases h
      · rw [List.getElem?_append_right (by rw [List.length_map]; omega), List.getElem?_replicate] at h
        split at h <;> cases h
  have hrun := (hbody cdv A outer s H E F0).run [] s1 (L2.start N vs) H { nx := fun _ H' => Q .non H', rt := Q } I ⟨_, p, er, stp, q cdv⟩
  refine wpAny_mono hrun (fun fl s' hs => ?_) fun e s' hs => hs
  have fin : ∀ {σ' : St} {H' : Hp} {v : V} {u : Value}, Inv (cxOf (L2.CX P w) P w g.K g.mg base N qual (L2.defScope st) f cdv A outer s H E) [] σ' H' s' → RelV v u → Q v H' → CE outer P w H s Q u s' :=
    fun {σ' H' v u} J rv z => ⟨v, H', J.os, J.bare, J.base, J.hok, rv, z⟩
  cases fl with
  | ret u => obtain ⟨v, σ', H', J, rv, z⟩ := hs; exact fin J rv z
  | next => obtain ⟨σ', H', J, z⟩ := hs; exact fin (v := V.non) (u := Value.none) J rfl z
  | brk => obtain ⟨_, _, _, z⟩ := hs; exact False.elim z
  | cont => obtain ⟨_, _, _, z⟩ := hs; exact False.elim z
theorem fnn_of (F : L2.Fun g.K x qual st f fd) (S : FnScope N ps (L2.defScope st))
    (hbody : ∀ (cdv : Value) (A : Around) (outer : List Env) (s : Shared) (H : Hp) (E : XK), Fr0 (cxOf (L2.CX P w) P w g.K g.mg base N qual (L2.defScope st) f cdv A outer s H E) (jP g fun cls d _ H' => E cls d H') base k →
      VSs (cxOf (L2.CX P w) P w g.K g.mg base N qual (L2.defScope st) f cdv A outer s H E) (jP g fun cls d _ H' => E cls d H') (L2.defBody st) m) : FnN P w base g (k + 1) f fd ps (callN N.length ps.length m) := by
  refine ⟨fun ds p h => if_neg h, fun A outer s H args us vs ds p Q E hr gd e0 hb r rd stp q => ?_⟩
  unfold callN at q
  by_cases hl : ds.length = ps.length
  · rw [if_pos hl] at q
    refine enter F S hbody hr gd e0 hb r rd stp hl fun cdv => ?_
    unfold outN at q
    cases e1 : m (env0 N.length ds) p with
    | bad => rw [e1] at q; exact q
    | err y dv p1 => rw [e1] at q; exact fun σ H' C dd y' e s c z r => q H' C dd y' e s c z r
    | ok fe p1 =>
      obtain ⟨fl, env1⟩ := fe
      rw [e1] at q
      cases fl with
      | rtl ds => exact fun H' a xs e s hn r => q H' a xs e s hn r
      | _ => exact q.elim
  · rw [if_neg hl] at q
    exact q.elim
end
section
variable {X : Cx} {J : Jc} {base : Heap} {k : Nat} {e : Expr} {es : List Expr} {sts : List Stmt} {m : MS} {ms : MA} {pos : Pos}
def sRetNew (ms : MA) : MS := onN ms fun ds env p => .ok (.rtl ds, env) p
theorem vs_retNew (F : Fr0 X J base k) (h : VN X J e ms) (pl : ∀ H, (J.co H).le coN := by intro _; exact .refl) : VS X J (.Return (some e) pos) (sRetNew ms) := by
  refine ps_imp (ps_ret h) fun Dn σ H ⟨env, p, r, s, q⟩ => ⟨vwOf env, p, r.vrep, s, ?_⟩
  unfold sRetNew onN at q
  cases e1 : ms (vwOf env) p with
  | bad => rw [e1] at q; exact q
  | err x dv p1 => rw [e1] at q; exact err_st r q
  | ok d p1 =>
    rw [e1] at q
    exact fun H1 a xs x1 s1 hn rl => q H1 a xs (r.ext.trans x1) s1 hn (plainL pl rl)
def mCallN (mf : List D → P3 → Res (List D)) (ms : MA) : MA := fun vw p => (ms vw p).bind mf
theorem vn_call {mf : List D → P3 → Res (List D)} {x : Str} {ps : List Str} {p : Pos} {j : Nat} (C : CalN X.prog X.w X.base J.g j x ps mf) (F : Fr0 X J X.base k) (hj : j ≤ k) (ha : VA X J (e :: es) ms) (pl : ∀ H, (J.co H).le coN := by intro _; exact .refl) (hg : Gl X x := by rfl) (hdb : (x == ("__debug__" : Str)) = false := by decide)
    (he : starEach (e :: es) X.env = (false, eval e X.env) :: starEach es X.env := by rfl) (hpl : (backTo pos (starEach es X.env)).any (·.1) = false := by rfl) : VN X J (.Call (.Name x p) (e :: es) [] pos) (mCallN mf ms) := by
  obtain ⟨f, fd, h1, h2, h3, h4⟩ := C.ex
  refine ⟨fun pins s σ H Q I ⟨vw, p, rr, st, q⟩ => ?_⟩
  refine wpAny_Call_Name_kw (ld_glob I hg (F.mg ▸ h1) ?_ hdb)
  have hk : PySem.W.keepIn X.K (.ref f) = true := F.K ▸ h2
  refine PySem.W.callWith_K (h₀ := X.base) I.ok.mod.kin hk (thn (ha.run pos pins s σ H (fun vs H1 => ∃ ds p1, J.RL σ H1 vs ds ∧ StR J.g H1 p1 ∧ PN J σ H1 Q (mf ds p1)) I ⟨vw, p, rr, st, ?_⟩) fun us s1 ⟨vs, H1, I1, rv, ds, p1, r1, s1', q1⟩ => ⟨I1.kIn, ?_⟩) he hpl
  · unfold mCallN at q
    cases e1 : ms vw p with
    | bad => rw [e1] at q; exact q.elim
    | err x dv p1 => rw [e1] at q; exact q
    | ok ds p1 =>
      rw [e1] at q
      simp only [Res.bind] at q
      intro H1 vs x1 s1 r1
      refine ⟨ds, p1, r1, s1, ?_⟩
      cases e2 : mf ds p1 with
      | bad => rw [e2] at q; exact q
      | err x dv p1 => rw [e2] at q; exact ErrP.ext q x1
      | ok d p2 => rw [e2] at q; exact fun H2 a xs x2 s2 hn r2 => q H2 a xs (x1.trans x2) s2 hn r2
  · have hl : us.length = ps.length := by
      rw [← rv.length, r1.length]
      refine Classical.byContradiction fun z => ?_
      rw [h4.len ds p1 z] at q1
      exact q1
    have hb' := h3 s1 us (F.K ▸ I1.kIn) (by rw [List.append_nil]; exact hl)
    rw [List.append_nil] at hb'
    have e0 : Env0 X.prog X.w J.g.K J.g.mg X.base X.A X.stack s1 H1 := by rw [F.K, F.mg]; exact I1.env0
    refine wpAny_call (codeAny_mono (h4.run X.A X.stack s1 H1 ⟨us, []⟩ us vs ds p1 Q (fun cls d H' => J.W cls d σ H') (F.room.mono hj) F.gd e0 hb' rv (plainL pl r1) s1' ?_) fun r s' hq => ?_)
    · cases e1 : mf ds p1 with
      | bad => rw [e1] at q1; exact q1
      | err x dv p1 => rw [e1] at q1; exact fun H' C dd y e s c z r => q1 H' C dd y e s c z (Rep.up r)
      | ok d p1 => rw [e1] at q1; exact fun H' a xs e s hn r => q1 H' a xs e s hn (r.ext .refl coN_le)
    · cases r with
      | error e => exact F.tk _ _ (XE.of_call (W := J.W) I1 (fun _ _ _ z => z) hq)
      | ok fl =>
        cases fl with
        | ret u => exact I1.after hq
        | next => exact False.elim hq
        | brk => exact False.elim hq
        | cont => exact False.elim hq
/-! ### the pot comes, the rest of the suite has it -/
def Gx.at_ (g : Gx) (a : Addr) : Gx := { g with pa := some a }
def Jc.at_ (J : Jc) (a : Addr) : Jc := { J with g := J.g.at_ a }
mutual
theorem Rep.at_ {g : Gx} {co : CO} {H : Hp} {a : Addr} (h0 : g.pa = none) : ∀ {v : V} {d : D}, Rep g co H v d → Rep (g.at_ a) co H v d
  | _, _, .non => .non
  | _, _, .bl b => .bl b
  | _, _, .int i => .int i
  | _, _, .str x => .str x
  | _, _, .tup s r => .tup s (RepL.at_ h0 r)
  | _, _, .lst s r => .lst s (RepL.at_ h0 r)
  | _, _, .glb h => .glb h
  | _, _, .exc h1 h2 h3 r => .exc h1 h2 h3 (Rep.at_ h0 r)
  | _, _, .clo h r => .clo h (RepL.at_ h0 r)
  | _, _, .own h => .own h
  | _, _, .pot h => by rw [h0] at h; cases h
  | _, _, .scr h => .scr h
  | _, _, .rng h => .rng h
theorem RepL.at_ {g : Gx} {co : CO} {H : Hp} {a : Addr} (h0 : g.pa = none) : ∀ {vs : List V} {ds : List D}, RepL g co H vs ds → RepL (g.at_ a) co H vs ds
  | _, _, .nil => .nil
  | _, _, .cons r t => .cons (Rep.at_ h0 r) (RepL.at_ h0 t)
end
/-- what is kept when the pot is gone -/
def keepS : Option Sl → Option Sl
  | some (.p (.scr ns)) => some (.p (.scr ns))
  | some (.p (.int i)) => some (.p (.int i))
  | some (.p (.bl i)) => some (.p (.bl i))
  | some (.p (.str i)) => some (.p (.str i))
  | _ => none
def sPot (i : Nat) (ms : MA) (rest : MS) : MS := fun env p => match p with
  | some _ => .bad
  | none => match ms (vwOf env) none with
    | .ok [.int x, .int y, .int z] none => match rest (setE env i (.p .pot)) (some (x, y, z)) with
      | .ok (.nx, env2) (some _) => .ok (.nx, env2.map keepS) none
      | .ok (.ret (.bl b), env2) (some _) => .ok (.ret (.bl b), []) none
      | _ => .bad
    | _ => .bad
theorem vss_pot {i : Nat} {x : Str} {pos' : Pos} (h0 : J.g.pa = none) (hN : X.N.Nodup) (he : VN X J e ms) (hrest : ∀ a, VSs X (J.at_ a) sts m) (hi : X.N[i]? = some x := by rfl) (hx : Loc X.env.scope x := by first | exact Or.inl rfl | exact Or.inr rfl) (hs : swapsWith e (some (.Name x pos')) pos.line X.env = pure false := by rfl)
    (hfn : X.fn x = true ∨ X.env.scope.names.lookup x = some .local := by first | exact .inl rfl | exact .inr rfl) : VSs X J (.Assign [.Name x pos'] e pos :: sts) (sPot i ms m) := by
  have hr : PSs X sts (fun Dn σ H => ∃ a, tS X (J.at_ a) m Dn σ H) := ⟨fun pins s σ H D I ⟨a, h⟩ => (hrest a).run pins s σ H D I h⟩
  refine pss_imp (pss_cons (ps_set hN hi hx he hs hfn) hr) fun Dn σ H ⟨env, p, r, s, q⟩ => ?_
  refine ⟨vwOf env, p, r.vrep, s, ?_⟩
  unfold sPot at q
  cases p with
  | some t => exact q.elim
  | none =>
    (try simp only at q)
    cases e1 : ms (vwOf env) none with
    | bad => rw [e1] at q; exact q.elim
    | err x dv p1 => rw [e1] at q; exact q.elim
    | ok ds p1 =>
      rw [e1] at q
      (try simp only at q)
      split at q
      · rename_i x0 y0 z0 e2
        cases e2
        intro H1 a xs x1 s1 hn rl
        have hxs : xs = [V.int x0, V.int y0, V.int z0] := by
          cases rl with
          | cons a1 rl =>
            cases rl with
            | cons a2 rl =>
              cases rl with
              | cons a3 rl =>
                cases rl; cases a1; cases a2; cases a3
                rfl
        subst hxs
        have gr : Grow H1 (upd H1 a (.lst [V.int x0, V.int y0, V.int z0])) := Grow.upd hn
        have r1 := (r.ext1 x1).ext1 gr.ext
        obtain ⟨a', xs', ev, ha', rl', ow', fr'⟩ := (newL_of (r.ext1 x1) s1 hn rl).at_
        cases ev
        have h0a : ∀ o, X.H_0 a = some o → ∃ ps, o = .tbl ps := ow'.2
        -- the frame with the pot
        have er : ERep X (J.at_ a) (σ.set i (some (.ref a))) (upd H1 a (.lst [V.int x0, V.int y0, V.int z0])) (setE env i (.p .pot)) := by
          have er0 : ERep X (J.at_ a) σ (upd H1 a (.lst [V.int x0, V.int y0, V.int z0])) env := by
            refine ⟨r1.len, fun j sl h => ?_, r1.dist, fun b o hb k n => r1.ext b o hb (fun z => by rw [h0] at z; cases z) n⟩
            have q := r1.slot j sl h
            cases sl with
            | p d' =>
              obtain ⟨v', h1, h2⟩ := q
              exact ⟨v', h1, Rep.at_ h0 h2⟩
            | l ds' =>
              obtain ⟨b, ys, h1, h2, h3, h4⟩ := q
              refine ⟨b, ys, h1, h2, RepL.at_ h0 h3, fun z => ?_, h4.2⟩
              cases z
              exact fr' j ⟨ds', h⟩ h1
          exact er0.set (v := .ref a) (d := .pot) (.pot rfl)
        refine ⟨a, setE env i (.p .pot), some (x0, y0, z0), er, ⟨(show upd H1 a (.lst [V.int x0, V.int y0, V.int z0]) a = some (.lst [V.int x0, V.int y0, V.int z0]) from upd_same), (s1.grow gr).tab⟩, ?_⟩
        have up : ∀ {H' : Hp}, Ext (J.at_ a).g X.H_0 H' → Ext J.g X.H_0 H' := fun {H'} e b o hb k n => e b o hb (fun z => by
          cases z
          obtain ⟨ps, e2⟩ := h0a o hb
          exact absurd e2 (n ps)) n
        have x2 : Ext1 H (upd H1 a (.lst [V.int x0, V.int y0, V.int z0])) := x1.hard.trans (Grow.ext (g := J.g) gr).hard
        cases e3 : m (setE env i (.p .pot)) (some (x0, y0, z0)) with
        | bad => rw [e3] at q; exact q.elim
        | err x dv p2 => rw [e3] at q; exact q.elim
        | ok fe p2 =>
          obtain ⟨fl, env2⟩ := fe
          rw [e3] at q
          cases p2 with
          | none => cases fl with
            | ret d => cases d <;> exact q.elim
            | _ => exact q.elim
          | some t =>
            have tabs : ∀ {H' : Hp}, StR (J.at_ a).g H' (some t) → StR J.g H' none := fun {H'} s => ⟨by unfold PotR; rw [h0]; trivial, s.tab⟩
            cases fl with
            | nx =>
              (try simp only at q)
              intro σ2 H2 r2 s2 x3
              refine q σ2 H2 ⟨by rw [List.length_map]; exact r2.len, fun j sl h => ?_, fun j j' c _ ⟨ds, h⟩ => ?_, up r2.ext⟩ (tabs s2) (x2.trans x3)
              · rw [List.getElem?_map] at h
                cases e4 : env2[j]? with
                | none => rw [e4] at h; cases h
                | some o =>
                  rw [e4] at h
                  have h' : keepS o = some sl := by simpa using h
                  cases o with
                  | none => cases h'
                  | some s0 =>
                    have q2 := r2.slot j s0 e4
                    cases s0 with
                    | l ds => cases h'
                    | p d =>
                      obtain ⟨v, h1, h2⟩ := q2
                      cases d with
                      | scr ns => cases h'; cases h2 with | scr z => exact ⟨_, h1, .scr z⟩
                      | int ns => cases h'; cases h2; exact ⟨_, h1, .int _⟩
                      | bl ns => cases h'; cases h2; exact ⟨_, h1, .bl _⟩
                      | str ns => cases h'; cases h2; exact ⟨_, h1, .str _⟩
                      | _ => cases h'
              · rw [List.getElem?_map] at h
                cases e4 : env2[j]? with
                | none => rw [e4] at h; cases h
                | some o =>
                  rw [e4] at h
                  have h' : keepS o = some (.l ds) := by simpa using h
                  cases o with
                  | none => cases h'
                  | some s0 =>
                    cases s0 with
                    | l ds => cases h'
                    | p d => cases d <;> cases h'
            | ret d =>
              cases d with
              | bl b =>
                (try simp only at q)
                intro H2 v x3 s2 r2
                cases r2
                exact q H2 _ (up x3) (tabs s2) (.bl b)
              | _ => exact q.elim
            | _ => exact q.elim
      · exact q.elim
end
end VL

namespace VL
open PySem PySem.Spec PyProof.Rows L2 LamX
/-! ### the law's own call -/
/-- what is tracked as the law is entered: the script (unless it is written), the tables -/
def hp0 (a : Addr) (frz : Bool) (o : Obj) (xs : List V) (ts : List Addr) : Hp := fun b => if b ∈ ts then some (.tbl #[]) else if b = a ∧ frz = true then some (.frz o (.lst xs)) else none
theorem hp0_t {a : Addr} {z : Bool} {o : Obj} {xs : List V} {ts : List Addr} {b : Addr} (h : b ∈ ts) : hp0 a z o xs ts b = some (.tbl #[]) := if_pos h
theorem hp0_n {a : Addr} {z : Bool} {o : Obj} {xs : List V} {ts : List Addr} {b : Addr} (h : b ∉ ts) (h2 : ¬ (b = a ∧ z = true)) : hp0 a z o xs ts b = none := (if_neg h).trans (if_neg h2)
theorem hp0_a {a : Addr} {o : Obj} {xs : List V} {ts : List Addr} (h : a ∉ ts) : hp0 a true o xs ts a = some (.frz o (.lst xs)) := (if_neg h).trans (if_pos ⟨rfl, rfl⟩)
theorem hp0_cases {a : Addr} {z : Bool} {o : Obj} {xs : List V} {ts : List Addr} (b : Addr) : (b ∈ ts ∧ hp0 a z o xs ts b = some (.tbl #[])) ∨ (b ∉ ts ∧ b = a ∧ z = true ∧ hp0 a z o xs ts b = some (.frz o (.lst xs))) ∨ (b ∉ ts ∧ ¬ (b = a ∧ z = true) ∧ hp0 a z o xs ts b = none) := by
  by_cases h : b ∈ ts
  · exact .inl ⟨h, hp0_t h⟩
  · by_cases h2 : b = a ∧ z = true
    · obtain ⟨e1, e2⟩ := h2
      subst e1 e2
      exact .inr (.inl ⟨h, rfl, rfl, hp0_a h⟩)
    · exact .inr (.inr ⟨h, h2, hp0_n h h2⟩)
theorem vl_call {P : Program} {w : World} {K : PySem.W.Frag} {mg mb : Str → Option Value} {k : Nat} {fa a : Addr} {cs : List (Addr × Addr)} {T : List (Addr × Str)} {x : Str} {s₁ : Shared} {vs : List Value} {ns : List Int}
    (KX : K.In s₁.heap) (hns : s₁.heap.Ns mainGlobals mg) (hb : s₁.heap.Ns builtinsNs mb) (hbb : ∀ x : Str, x ≠ "__name__" → mb x = bootBuiltins x) (hlim : s₁.heap.NoLimit) (hg : s₁.gens = #[])
    (hT : ∀ p ∈ cs, s₁.heap.get? p.2 = some { cls := .none, data := .fields #[] }) (nT : ∀ p ∈ cs, K.lookup p.2 = none) (C : ∀ p ∈ cs, PySem.W.CodeHd s₁.heap p.1 p.2) (hTT : ∀ p ∈ T, p.1 ∈ cs.map (·.2))
    (hbm : ∃ (bm : Addr) (ob : Obj), mg "__builtins__" = some (.ref bm) ∧ bm ≠ builtinsNs ∧ s₁.heap.get? bm = some ob ∧ ob.cls = .type "module" ∧ ob.dict = some builtinsNs ∧ ob.data = .plain)
    (ha : s₁.heap.get? a = some { cls := .type "list", data := .seq vs.toArray }) (hi : IntsAre vs ns) (hl : ns.length ≤ sizeLine) (hr : Room k callerA)
    (F : ∀ base : Heap, K.In base → base.Ns mainGlobals mg → (∀ p ∈ cs, TabB base mg p.1 p.2) → ∃ fd mf, FnP P w base ⟨K, mg, none, T⟩ k fa fd [x] mf ∧ (∀ (s : Shared) (u : Value), K.In s.heap → BindsTo s fd ⟨[u], []⟩ [(x, u)]) ∧ ∃ p, mf [.scr ns] none = .ok (.bl true) p) :
    codeAny (model P w) callerA (.call (.ref fa) ⟨[.ref a], []⟩) (fun r s' => r = .ok (.ret (.bool true)) ∧ OldK s₁.heap s'.heap ∧ s'.os = s₁.os ∧ AllBare s'.gens) s₁ := by
  have rv := vals_ints hi
  have tAt : ∀ b, b ∈ cs.map (·.2) → s₁.heap.get? b = some { cls := .none, data := .fields #[] } ∧ K.lookup b = none ∧ ∃ p ∈ cs, p.2 = b := fun b hb => by
    obtain ⟨p, hp, e⟩ := List.mem_map.mp hb
    subst e
    exact ⟨hT p hp, nT p hp, p, hp, rfl⟩
  have aT : a ∉ cs.map (·.2) := fun z => by
    have q := (tAt a z).1
    rw [ha] at q
    cases Option.some.inj q
  let zz : Bool := (K.lookup a).isNone
  let oa : Obj := { cls := .type "list", data := .seq vs.toArray }
  let H : Hp := hp0 a zz oa (ns.map V.int) (cs.map (·.2))
  have hlv : (ns.map V.int).length ≤ sizeLine := by rw [List.length_map]; exact hl
  have hok : HOk P w H s₁.heap := fun b u e => by
    rcases hp0_cases (a := a) (z := zz) (o := oa) (xs := ns.map V.int) (ts := cs.map (·.2)) b with ⟨h1, h2⟩ | ⟨h1, h2, h3, h4⟩ | ⟨h1, h2, h3⟩
    · rw [show H b = _ from h2] at e
      cases e
      exact (tAt b h1).1
    · rw [show H b = _ from h4] at e
      cases e
      subst h2
      exact ⟨ha, hlv, vs, _, rv, ha⟩
    · rw [show H b = _ from h3] at e
      cases e
  -- what is not tracked
  have free : ∀ {b : Addr} {o : Obj}, s₁.heap.get? b = some o → (∀ vs n, o.data ≠ .seq vs n) → (∀ vs, o.data ≠ .fields vs ∨ o.cls ≠ .none) → H b = none := fun {b o} e n1 n2 => by
    rcases hp0_cases (a := a) (z := zz) (o := oa) (xs := ns.map V.int) (ts := cs.map (·.2)) b with ⟨h1, _⟩ | ⟨_, h2, _⟩ | ⟨_, _, h3⟩
    · have q := (tAt b h1).1
      rw [e] at q
      cases q
      rcases n2 #[] with z | z <;> exact absurd rfl z
    · subst h2
      rw [e] at ha
      cases ha
      exact absurd rfl (n1 _ _)
    · exact h3
  have dictFree : ∀ {b : Addr} {o : Obj} {es : Array DictEntry} {ep : Nat}, s₁.heap.get? b = some o → o.data = .dict es ep → H b = none := fun {b o es ep} e d =>
    free e (fun vs n z => by rw [d] at z; cases z) fun vs => .inl fun z => by rw [d] at z; cases z
  have nsK : ∀ {b : Addr} {m : Str → Option Value}, s₁.heap.Ns b m → (hidT s₁.heap H).Ns b m := fun ⟨o, es, ep, e, d, r⟩ => ⟨o, es, ep, hidT_get e (dictFree e d), d, r⟩
  have KB : K.In (hidT s₁.heap H) := fun b o e => by
    refine hidT_get (KX b o e) ?_
    rcases hp0_cases (a := a) (z := zz) (o := oa) (xs := ns.map V.int) (ts := cs.map (·.2)) b with ⟨h1, _⟩ | ⟨_, h2, h4, _⟩ | ⟨_, _, h3⟩
    · rw [(tAt b h1).2.1] at e; cases e
    · subst h2
      have : (K.lookup b).isNone = true := h4
      rw [e] at this
      cases this
    · exact h3
  have M : L2.Mod K mg (hidT s₁.heap H) := ⟨KB, nsK hns, ⟨mb, nsK hb, hbb⟩, let ⟨mc, h1, h2⟩ := hlim; ⟨mc, nsK h1, h2⟩⟩
  have TB : ∀ p ∈ cs, TabB (hidT s₁.heap H) mg p.1 p.2 := fun p hp => by
    obtain ⟨o, us, file, tf, flags, tg, inF, text, tt, e1, r1, r2, r⟩ := C p hp
    have nG : ∀ {b m}, s₁.heap.Ns b m → b ≠ p.2 := fun ⟨o, es, ep, e, d, _⟩ z => by
      subst z
      rw [hT p hp] at e
      cases e
      cases d
    refine ⟨⟨o, us, file, tf, flags, tg, inF, text, tt, hidT_get e1 (free e1 (fun vs n z => by rw [r2] at z; cases z) fun vs => .inr (by rw [r1]; intro z; cases z)), r1, r2, r⟩, ?_, nG hns⟩
    obtain ⟨bm, ob, b1, b2, b3, b4, b5, b6⟩ := hbm
    have fb : H bm = none := free b3 (fun vs n z => by rw [b6] at z; cases z) fun vs => .inl fun z => by rw [b6] at z; cases z
    refine ⟨bm, ob, b1, b2, fun z => ?_, fun z => ?_, hidT_get b3 fb, b4, b5, b6⟩
    · obtain ⟨o, es, ep, e, d, _⟩ := hns
      rw [z, e] at b3
      cases b3
      rw [d] at b6
      cases b6
    · rw [z, hT p hp] at b3
      cases b3
      cases b6
  have e0 : Env0 P w K mg (hidT s₁.heap H) callerA [] s₁ H := ⟨rfl, M, fun b o e => of_hidT e, Nat.le_of_eq (hidT_size _ _), trivial, fun b hb => absurd (show b ∈ ([] : List Addr) from hb) (by simp), hok, .of_eq hg⟩
  obtain ⟨fd, mf, FP, hbind, p1, hmf⟩ := F _ KB (nsK hns) TB
  have rs : Rep (⟨K, mg, none, T⟩ : Gx) coN H (.ref a) (.scr ns) := by
    refine .scr ?_
    cases hk : K.lookup a with
    | none =>
      have : zz = true := by show (K.lookup a).isNone = true; rw [hk]; rfl
      exact .inl ⟨oa, by show hp0 a zz oa _ _ a = _; rw [this]; exact hp0_a aT⟩
    | some o =>
      refine .inr fun H' => .inr ⟨o, vs.toArray, 0, hk, ?_⟩
      have e := KX a o hk
      rw [ha] at e
      cases e
      exact ⟨rfl, rfl, rfl, by rw [List.size_toArray, hi.length]; exact hl, by simpa using rv⟩
  have st : StR (⟨K, mg, none, T⟩ : Gx) H none := ⟨trivial, fun p hp => TabS.nil (hp0_t (hTT p hp))⟩
  have run := FP.run callerA [] s₁ H ⟨[.ref a], []⟩ [.ref a] [.ref a] [.scr ns] none (fun v _ => v = .bl true) (fun _ _ _ => False) hr rfl e0 (hbind s₁ (.ref a) KX) (.cons rfl .nil) (.cons rs .nil) st (by
    rw [hmf]
    intro H' v _ _ r
    cases r
    rfl)
  refine codeAny_mono run fun r s' h => ?_
  cases r with
  | error e =>
    obtain ⟨_, _, _, _, _, _, _, _, _, _, _, _, z⟩ := h
    exact z.elim
  | ok fl =>
    cases fl with
    | next => exact False.elim h
    | brk => exact False.elim h
    | cont => exact False.elim h
    | ret u =>
      obtain ⟨v, H', os, bare, un, hok', r', q⟩ := h
      subst q
      obtain rfl : u = Value.bool true := r'
      have key : ∀ b o, b ∉ cs.map (·.2) → s₁.heap.get? b = some o → s'.heap.get? b = some o := fun b o nb e => by
        rcases hp0_cases (a := a) (z := zz) (o := oa) (xs := ns.map V.int) (ts := cs.map (·.2)) b with ⟨h1, _⟩ | ⟨_, _, _, h4⟩ | ⟨_, _, h3⟩
        · exact absurd h1 nb
        · obtain ⟨e1, _⟩ := hok b _ h4
          obtain ⟨e2, _⟩ := hok' b _ (un.frzs b _ _ h4)
          rw [e] at e1
          cases e1
          exact e2
        · exact un.keep b o e h3 (fun z => nomatch (show b ∈ ([] : List Addr) from z)) (by simp)
      have grown : ∀ b, b ∈ cs.map (·.2) → ∃ more : Array Value, s'.heap.get? b = some { cls := .none, data := .fields more } := fun b hb => by
        obtain ⟨more, z⟩ := un.tbls b #[] (hp0_t hb)
        exact ⟨_, hok' b _ z⟩
      refine ⟨rfl, ⟨fun b o e => ?_, fun b o e => ?_⟩, os, bare⟩
      · by_cases hb : b ∈ cs.map (·.2)
        · obtain ⟨t1, t2, p, hp, ep⟩ := tAt b hb
          obtain ⟨more, hm⟩ := grown b hb
          rw [t1] at e
          cases e
          subst ep
          exact .inr (.inl ⟨((C p hp).tab (hT p hp)).isCodeTable, rfl, #[], more, rfl, by rw [Array.empty_append]; exact hm⟩)
        · exact .inl (key b o hb e)
      · by_cases hb : b ∈ cs.map (·.2)
        · obtain ⟨more, hm⟩ := grown b hb
          exact ⟨_, hm⟩
        · exact ⟨o, key b o hb e⟩
end VL

namespace VL
open PySem PySem.Spec PyProof.Rows L2 LamX
/-! ### the rules, with what holds in every frame bundled -/
structure Bt (mg : Str → Option Value) : Prop where
  len : mg "len" = none
  abs : mg "abs" = none
  min : mg "min" = none
  max : mg "max" = none
  int : mg "int" = none
  tuple : mg "tuple" = none
  list : mg "list" = none
  range : mg "range" = none
  zip : mg "zip" = none
  all : mg "all" = none
  any : mg "any" = none
  sum : mg "sum" = none
  repr : mg "repr" = none
  isi : mg "isinstance" = none
  str : mg "str" = none
  bool : mg "bool" = none
structure Fx (X : Cx) (J : Jc) (k : Nat) : Prop where
  F : Fr0 X J X.base k
  bt : Bt X.mg
  nd : X.N.Nodup
structure Fs (X : Cx) (J : Jc) (k : Nat) : Prop where
  x : Fx X J k
  own : PassesOwn (model X.prog X.w) X.A X.env X.xe
def IntG (g : Gx) (x : Str) (i : Int) : Prop := ∃ u, g.mg x = some u ∧ RelV (.int i) u
def StrG (g : Gx) (x : Str) (i : Str) : Prop := ∃ u, g.mg x = some u ∧ RelV (.str i) u
/-- a def that stands in the module -/
structure DefAt (g : Gx) (x : Str) (st : Stmt) : Prop where
  ex : ∃ (f : Addr) (fd : FuncData), g.mg x = some (.ref f) ∧ L2.Fun g.K x x st f fd
section
variable {P : Program} {w : World} {base : Heap} {g : Gx} {k : Nat} {x : Str} {st : Stmt} {N ps : List Str} {m : MS}
/-- how a def's arguments bind -/
abbrev HB (x : Str) (st : Stmt) (ps : List Str) : Prop := ∀ (kV doc pm : Value) (an : Option Addr) (cdv ct : Value) (us : List Value), us.length = ps.length → bindArgs (PySem.W.fnOf x x (L2.defArgs st) (L2.defBody st) (L2.defScope st) .none kV doc pm an cdv ct) ⟨us, []⟩ = pure (ps.zip us)
theorem fx_of {A : Around} {outer : List Env} {s : Shared} {H : Hp} {E : XK} {cdv : Value} {f : Addr} {qual : Str} (bt : Bt g.mg) (S : FnScope N ps (L2.defScope st)) (F : Fr0 (cxOf (L2.CX P w) P w g.K g.mg base N qual (L2.defScope st) f cdv A outer s H E) (jP g fun cls d _ H' => E cls d H') base k) :
    Fs (cxOf (L2.CX P w) P w g.K g.mg base N qual (L2.defScope st) f cdv A outer s H E) (jP g fun cls d _ H' => E cls d H') k := ⟨⟨F, bt, S.nd⟩, passes_of rfl⟩
theorem cal_of (D : DefAt g x st) (S : FnScope N ps (L2.defScope st)) (hb : HB x st ps) (bt : Bt g.mg)
    (hbody : ∀ (f : Addr) (cdv : Value) (A : Around) (outer : List Env) (s : Shared) (H : Hp) (E : XK), Fs (cxOf (L2.CX P w) P w g.K g.mg base N x (L2.defScope st) f cdv A outer s H E) (jP g fun cls d _ H' => E cls d H') k →
      VSs (cxOf (L2.CX P w) P w g.K g.mg base N x (L2.defScope st) f cdv A outer s H E) (jP g fun cls d _ H' => E cls d H') (L2.defBody st) m) : Cal P w base g (k + 1) x ps (callF N.length ps.length m) := by
  obtain ⟨f, fd, hm, F⟩ := D.ex
  exact ⟨f, fd, hm, F.kp, F.binds hb, fnp_of F S fun cdv A outer s H E F0 => hbody f cdv A outer s H E (fx_of bt S F0)⟩
theorem cal_bad (D : DefAt g x st) (hb : HB x st ps) : Cal P w base g k x ps (fun _ _ => .bad) := by
  obtain ⟨f, fd, hm, F⟩ := D.ex
  exact ⟨f, fd, hm, F.kp, F.binds hb, FnP.bad⟩
theorem caln_of (D : DefAt g x st) (S : FnScope N ps (L2.defScope st)) (hb : HB x st ps) (bt : Bt g.mg)
    (hbody : ∀ (f : Addr) (cdv : Value) (A : Around) (outer : List Env) (s : Shared) (H : Hp) (E : XK), Fs (cxOf (L2.CX P w) P w g.K g.mg base N x (L2.defScope st) f cdv A outer s H E) (jP g fun cls d _ H' => E cls d H') k →
      VSs (cxOf (L2.CX P w) P w g.K g.mg base N x (L2.defScope st) f cdv A outer s H E) (jP g fun cls d _ H' => E cls d H') (L2.defBody st) m) : CalN P w base g (k + 1) x ps (callN N.length ps.length m) := by
  obtain ⟨f, fd, hm, F⟩ := D.ex
  exact ⟨f, fd, hm, F.kp, F.binds hb, fnn_of F S fun cdv A outer s H E F0 => hbody f cdv A outer s H E (fx_of bt S F0)⟩
end
section
variable {X : Cx} {J : Jc} {k : Nat} {e a b c : Expr} {es rest : List Expr} {m ma mb mc : ME} {na nb : MB} {ms : MA} {pos p p2 : Pos}
theorem Fx.K (F : Fx X J k) : J.g.K = X.K := F.F.K
theorem Fx.u64 (F : Fx X J k) : X.A.units + 64 < cLine := by have := F.F.room.un; omega
theorem Fx.u65 (F : Fx X J k) : X.A.units + 65 < cLine := by have := F.F.room.un; omega
theorem Fx.u70 (F : Fx X J k) : X.A.units + 70 < cLine := by have := F.F.room.un; omega
theorem Fx.blk (F : Fx X J k) {s : Shared} {H : Hp} {scope : Scope} {ce : Env} {fp : List Addr} : Fx (X.blk s H scope ce fp) J.blk k :=
  ⟨F.F.blk, F.bt, F.nd⟩
theorem Fx.at_ {a : Addr} (F : Fx X J k) : Fx X (J.at_ a) k := ⟨⟨F.F.K, F.F.mg, F.F.bs, F.F.tk, F.F.room, F.F.gd, F.F.calm⟩, F.bt, F.nd⟩
theorem Fs.at_ {a : Addr} (F : Fs X J k) : Fs X (J.at_ a) k := ⟨F.x.at_, F.own⟩
/-! names -/
theorem x_gint {x : Str} {i : Int} {g : Gx} (F : Fx X J k) (h : IntG g x i) (eg : J.g = g := by rfl) (hg : Gl X x := by rfl) (hd : (x == ("__debug__" : Str)) = false := by decide) : VE X J (.Name x pos) (mC (.int i)) := by
  subst eg
  obtain ⟨u, h1, h2⟩ := h
  exact ve_glob hg (F.F.mg ▸ h1) h2 (fun _ _ => .int i) hd
theorem x_gstr {x : Str} {i : Str} {g : Gx} (F : Fx X J k) (h : StrG g x i) (eg : J.g = g := by rfl) (hg : Gl X x := by rfl) (hd : (x == ("__debug__" : Str)) = false := by decide) : VE X J (.Name x pos) (mC (.str i)) := by
  subst eg
  obtain ⟨u, h1, h2⟩ := h
  exact ve_glob hg (F.F.mg ▸ h1) h2 (fun _ _ => .str i) hd
/-! operations -/
theorem x_add (F : Fx X J k) (ha : VE X J a ma) (hb : VE X J b mb) : VE X J (.BinOp a .Add b pos) (m2 D.add ma mb) := ve_add F.K ha hb
theorem x_mul (F : Fx X J k) (ha : VE X J a ma) (hb : VE X J b mb) : VE X J (.BinOp a .Mult b pos) (m2 D.mul ma mb) := ve_mul F.K ha hb
abbrev fLt (i j : Int) : Bool := decide (i < j)
abbrev fLe (i j : Int) : Bool := decide (i ≤ j)
abbrev fGt (i j : Int) : Bool := decide (j < i)
abbrev fGe (i j : Int) : Bool := decide (j ≤ i)
/-- a comparison that is known: the operator, its rule -/
structure Op (X : Cx) (J : Jc) (op : CmpOp) (f : D → D → Option D) : Prop where
  ex : ∃ r, OpR X (compareOp op) r ∧ Op2 J f r
theorem o_lt : Op X J .Lt (D.cmp fLt) := ⟨_, op_lt, op2_cmp⟩
theorem o_le : Op X J .LtE (D.cmp fLe) := ⟨_, op_le, op2_cmp⟩
theorem o_gt : Op X J .Gt (D.cmp fGt) := ⟨_, op_gt, op2_cmp⟩
theorem o_ge : Op X J .GtE (D.cmp fGe) := ⟨_, op_ge, op2_cmp⟩
theorem o_eq (F : Fx X J k) : Op X J .Eq D.eq := ⟨_, op_eq.or (op_eqD F.u64), op2_eq F.K⟩
theorem o_ne (F : Fx X J k) : Op X J .NotEq D.ne := ⟨_, op_ne.or (op_neD F.u64), op2_ne F.K⟩
theorem o_in (F : Fx X J k) : Op X J .In D.isin := ⟨_, op_in3 F.u65, op2_in F.K⟩
theorem o_ni (F : Fx X J k) : Op X J .NotIn (fun x y => D.neg (D.isin x y)) := ⟨_, op_notIn3 F.u65, op2_notIn F.K⟩
theorem x_cmp {op : CmpOp} {f : D → D → Option D} (o : Op X J op f) (ha : VE X J a ma) (hb : VE X J b mb) (hm : behindInMarks op b = false := by first | rfl | exact nomark _) : VE X J (.Compare a [op] [b] pos) (m2 f ma mb) := by
  obtain ⟨r, h1, h2⟩ := o.ex
  exact ve_cmp h1 h2 ha hb hm
theorem t_cmp {op : CmpOp} {f : D → D → Option D} (o : Op X J op f) (ha : VE X J a ma) (hb : VE X J b mb) (hm : behindInMarks op b = false := by first | rfl | exact nomark _) : VT X J (.Compare a [op] [b] pos) (toB (m2 f ma mb)) := by
  obtain ⟨r, h1, h2⟩ := o.ex
  exact vt_cmp h1 h2 ha hb hm
theorem x_chain {op op' : CmpOp} {f f' : D → D → Option D} (o : Op X J op f) (o' : Op X J op' f') (ha : VE X J a ma) (hb : VE X J b mb) (hc : VE X J c mc) (hm : lastMarks [op, op'] [b, c] = false := by with_unfolding_all rfl) : VE X J (.Compare a [op, op'] [b, c] pos) (mChain f f' ma mb mc) := by
  obtain ⟨r, h1, h2⟩ := o.ex
  obtain ⟨r', h1', h2'⟩ := o'.ex
  exact ve_chain h1 h2 h1' h2' ha hb hc hm
theorem t_chain {op op' : CmpOp} {f f' : D → D → Option D} (o : Op X J op f) (o' : Op X J op' f') (ha : VE X J a ma) (hb : VE X J b mb) (hc : VE X J c mc) (hm : lastMarks [op, op'] [b, c] = false := by with_unfolding_all rfl) : VT X J (.Compare a [op, op'] [b, c] pos) (toB (mChain f f' ma mb mc)) := by
  obtain ⟨r, h1, h2⟩ := o.ex
  obtain ⟨r', h1', h2'⟩ := o'.ex
  exact vt_chain h1 h2 h1' h2' ha hb hc hm
theorem x_ix (F : Fx X J k) (ha : VE X J a ma) (hb : VE X J b mb) (hs : PlainIx b := by intro _ _; rfl) : VE X J (.Subscript a b pos) (m2 D.ix ma mb) := ve_ix F.K ha hb hs
theorem x_slice {lo hi : Option Expr} {ml mh : MO} (F : Fx X J k) (he : VE X J e m) (hl : VO X J lo ml) (hu : VO X J hi mh) : VE X J (.Subscript e (.Slice lo hi none p2) pos) (mSl m ml mh) := ve_slice F.K he hl hu
theorem x_rev {j : Nat} {p1 p2 p3 : Pos} (F : Fx X J k) (he : VE X J e m) : VE X J (.Subscript e (.Slice none none (some (.UnaryOp .USub (.Constant (.int 1) j p1) p2)) p3) pos) (m1 D.rev m) := ve_rev F.K he
theorem x_isi {x : Str} {T : String} (F : Fx X J k) (hmT : X.mg x = none) (hvT : bootBuiltins x = some (.type T)) (ha : VE X J e m) (hg : Gl X "isinstance" := by rfl) (hgT : Gl X x := by rfl) (hn : x ≠ "__name__" := by decide)
    (hdb : (x == ("__debug__" : Str)) = false := by decide) (he : starEach [e, .Name x p2] X.env = (false, eval e X.env) :: starEach [.Name x p2] X.env := by rfl) : VE X J (.Call (.Name "isinstance" p) [e, .Name x p2] [] pos) (mIsi T m) := ve_isi F.K ha F.bt.isi hmT hvT hg hgT hn hdb he
theorem va_seq (F : Fx X J k) (h : VE X J e m) (hs : VA X J es ms) (hst : starEach (.Starred e p :: es) X.env = (true, eval e X.env) :: starEach es X.env := by rfl) : VA X J (.Starred e p :: es) (mStar m ms) := va_star F.K h hs hst
/-! built-in calls -/
theorem x_len (F : Fx X J k) (ha : VA X J (e :: es) ms) (hg : Gl X "len" := by rfl) (he : starEach (e :: es) X.env = (false, eval e X.env) :: starEach es X.env := by rfl) (hpl : (backTo pos (starEach es X.env)).any (·.1) = false := by rfl) : VE X J (.Call (.Name "len" p) (e :: es) [] pos) (mN dLen ms) :=
  ve_callB (call_len) (on_len F.K) F.bt.len (by decide +kernel) ha hg (by decide) (by decide) he hpl
theorem x_abs (F : Fx X J k) (ha : VA X J (e :: es) ms) (hg : Gl X "abs" := by rfl) (he : starEach (e :: es) X.env = (false, eval e X.env) :: starEach es X.env := by rfl) (hpl : (backTo pos (starEach es X.env)).any (·.1) = false := by rfl) : VE X J (.Call (.Name "abs" p) (e :: es) [] pos) (mN dAbs ms) :=
  ve_callB (call_abs) (on_abs) F.bt.abs (by decide +kernel) ha hg (by decide) (by decide) he hpl
theorem x_max2 (F : Fx X J k) (ha : VA X J (e :: es) ms) (hg : Gl X "max" := by rfl) (he : starEach (e :: es) X.env = (false, eval e X.env) :: starEach es X.env := by rfl) (hpl : (backTo pos (starEach es X.env)).any (·.1) = false := by rfl) : VE X J (.Call (.Name "max" p) (e :: es) [] pos) (mN dMax2 ms) :=
  ve_callB (call_max2 F.F.calm) (on_max2) F.bt.max (by decide +kernel) ha hg (by decide) (by decide) he hpl
theorem x_min2 (F : Fx X J k) (ha : VA X J (e :: es) ms) (hg : Gl X "min" := by rfl) (he : starEach (e :: es) X.env = (false, eval e X.env) :: starEach es X.env := by rfl) (hpl : (backTo pos (starEach es X.env)).any (·.1) = false := by rfl) : VE X J (.Call (.Name "min" p) (e :: es) [] pos) (mN dMin2 ms) :=
  ve_callB (call_min2 F.F.calm) (on_min2) F.bt.min (by decide +kernel) ha hg (by decide) (by decide) he hpl
theorem x_max1 (F : Fx X J k) (ha : VA X J (e :: es) ms) (hg : Gl X "max" := by rfl) (he : starEach (e :: es) X.env = (false, eval e X.env) :: starEach es X.env := by rfl) (hpl : (backTo pos (starEach es X.env)).any (·.1) = false := by rfl) : VE X J (.Call (.Name "max" p) (e :: es) [] pos) (mN dMax1 ms) :=
  ve_callB (cr_max F.F.calm) (on_max F.K) F.bt.max (by decide +kernel) ha hg (by decide) (by decide) he hpl
theorem x_min1 (F : Fx X J k) (ha : VA X J (e :: es) ms) (hg : Gl X "min" := by rfl) (he : starEach (e :: es) X.env = (false, eval e X.env) :: starEach es X.env := by rfl) (hpl : (backTo pos (starEach es X.env)).any (·.1) = false := by rfl) : VE X J (.Call (.Name "min" p) (e :: es) [] pos) (mN dMin1 ms) :=
  ve_callB (cr_min F.F.calm) (on_min F.K) F.bt.min (by decide +kernel) ha hg (by decide) (by decide) he hpl
theorem x_sum (F : Fx X J k) (ha : VA X J (e :: es) ms) (hg : Gl X "sum" := by rfl) (he : starEach (e :: es) X.env = (false, eval e X.env) :: starEach es X.env := by rfl) (hpl : (backTo pos (starEach es X.env)).any (·.1) = false := by rfl) : VE X J (.Call (.Name "sum" p) (e :: es) [] pos) (mN dSum ms) :=
  ve_callB (cr_sum F.F.calm) (on_sum F.K) F.bt.sum (by decide +kernel) ha hg (by decide) (by decide) he hpl
theorem x_all (F : Fx X J k) (ha : VA X J (e :: es) ms) (hg : Gl X "all" := by rfl) (he : starEach (e :: es) X.env = (false, eval e X.env) :: starEach es X.env := by rfl) (hpl : (backTo pos (starEach es X.env)).any (·.1) = false := by rfl) : VE X J (.Call (.Name "all" p) (e :: es) [] pos) (mN dAll ms) :=
  ve_callB (cr_all F.F.calm) (on_all F.K) F.bt.all (by decide +kernel) ha hg (by decide) (by decide) he hpl
theorem x_any (F : Fx X J k) (ha : VA X J (e :: es) ms) (hg : Gl X "any" := by rfl) (he : starEach (e :: es) X.env = (false, eval e X.env) :: starEach es X.env := by rfl) (hpl : (backTo pos (starEach es X.env)).any (·.1) = false := by rfl) : VE X J (.Call (.Name "any" p) (e :: es) [] pos) (mN dAny ms) :=
  ve_callB (cr_any F.F.calm) (on_any F.K) F.bt.any (by decide +kernel) ha hg (by decide) (by decide) he hpl
theorem x_repr (F : Fx X J k) (ha : VA X J (e :: es) ms) (hg : Gl X "repr" := by rfl) (he : starEach (e :: es) X.env = (false, eval e X.env) :: starEach es X.env := by rfl) (hpl : (backTo pos (starEach es X.env)).any (·.1) = false := by rfl) : VE X J (.Call (.Name "repr" p) (e :: es) [] pos) (mN dRepr ms) :=
  ve_callB (call_reprD F.u70 F.F.gd) (on_repr F.K) F.bt.repr (by decide +kernel) ha hg (by decide) (by decide) he hpl
theorem x_int (F : Fx X J k) (ha : VA X J (e :: es) ms) (hg : Gl X "int" := by rfl) (he : starEach (e :: es) X.env = (false, eval e X.env) :: starEach es X.env := by rfl) (hpl : (backTo pos (starEach es X.env)).any (·.1) = false := by rfl) : VE X J (.Call (.Name "int" p) (e :: es) [] pos) (mN dInt ms) :=
  ve_callTy (call_int1) (on_int) F.bt.int (by decide +kernel) ha hg (by decide) (by decide) he hpl
theorem x_tuple (F : Fx X J k) (ha : VA X J (e :: es) ms) (hg : Gl X "tuple" := by rfl) (he : starEach (e :: es) X.env = (false, eval e X.env) :: starEach es X.env := by rfl) (hpl : (backTo pos (starEach es X.env)).any (·.1) = false := by rfl) : VE X J (.Call (.Name "tuple" p) (e :: es) [] pos) (mN dTuple ms) :=
  ve_callTy (call_tuple_of) (on_tuple F.K) F.bt.tuple (by decide +kernel) ha hg (by decide) (by decide) he hpl
theorem x_str (F : Fx X J k) (ha : VA X J (e :: es) ms) (hg : Gl X "str" := by rfl) (he : starEach (e :: es) X.env = (false, eval e X.env) :: starEach es X.env := by rfl) (hpl : (backTo pos (starEach es X.env)).any (·.1) = false := by rfl) : VE X J (.Call (.Name "str" p) (e :: es) [] pos) (mN dStr ms) :=
  ve_callTy (call_strD) (on_str) F.bt.str (by decide +kernel) ha hg (by decide) (by decide) he hpl
theorem n_list (F : Fx X J k) (ha : VA X J (e :: es) ms) (hg : Gl X "list" := by rfl) (he : starEach (e :: es) X.env = (false, eval e X.env) :: starEach es X.env := by rfl) (hpl : (backTo pos (starEach es X.env)).any (·.1) = false := by rfl) : VN X J (.Call (.Name "list" p) (e :: es) [] pos) (mNL dList ms) :=
  vn_callTy call_list_of (on_list F.K) F.bt.list (by decide +kernel) ha hg (by decide) (by decide) he hpl
/-! list(range(..)), tuple(range(..)) -/
end
end VL

namespace VL
open PySem PySem.Spec PyProof.Rows L2 LamX
section
variable {X : Cx} {J : Jc} {k : Nat} {e : Expr} {es : List Expr} {m : ME} {ms : MA} {pos p p2 : Pos}
theorem cr_range1 : CallR X (.type "range") (fun vs H Q => ∃ j, vs = [V.int j] ∧ ∀ p, H p = none → Q (.ref p) (upd H p (.rng 0 j))) := by
  intro pins s σ H vs us Q I r h
  obtain ⟨j, rfl, q⟩ := h
  obtain ⟨u1, rfl, t, rfl⟩ := vals1 r
  refine call_range_1 ⟨.ref s.heap.objs.size, upd H s.heap.objs.size (.rng 0 j), I.laid (t' := s.toks + 2) (fun b o e => Heap.get?_push_of_some _ e) (Nat.le_refl _) ?_, rfl, q _ (I.hok.fresh (Nat.le_refl _))⟩
  exact ⟨s.toks, t, s.toks + 1, Heap.get?_push_size _ rfl⟩
def dRange : List D → Option D
  | [.int j] => some (.rng 0 j)
  | [.int i, .int j] => some (.rng i j)
  | _ => none
theorem on_range : OpN J dRange (fun xs H Q => (∃ j, xs = [V.int j] ∧ ∀ p, H p = none → Q (.ref p) (upd H p (.rng 0 j))) ∨ (∃ i j, xs = [V.int i, V.int j] ∧ ∀ p, H p = none → Q (.ref p) (upd H p (.rng i j)))) := fun σ H Q xs ds d r e q => by
  unfold dRange at e
  split at e
  · cases e
    cases r with
    | cons r1 r2 =>
      cases r2; cases r1
      exact .inl ⟨_, rfl, fun p hp => q _ _ (Grow.upd hp) (.rng upd_same)⟩
  · cases e
    cases r with
    | cons r1 r2 =>
      cases r2 with
      | cons r2 r3 =>
        cases r3; cases r2; cases r1
        exact .inr ⟨_, _, rfl, fun p hp => q _ _ (Grow.upd hp) (.rng upd_same)⟩
  · cases e
theorem x_range (F : Fx X J k) (ha : VA X J (e :: es) ms) (hg : Gl X "range" := by rfl) (he : starEach (e :: es) X.env = (false, eval e X.env) :: starEach es X.env := by rfl) (hpl : (backTo pos (starEach es X.env)).any (·.1) = false := by rfl) : VE X J (.Call (.Name "range" p) (e :: es) [] pos) (mN dRange ms) :=
  ve_callTy (cr_range1.or cr_range2) on_range F.bt.range (by decide +kernel) ha hg (by decide) (by decide) he hpl
/-! list(r), tuple(r) of a range -/
theorem call_listRng (hc : X.calm = true) : CallR X (.type "list") (fun xs H Q => ∃ a lo hi, xs = [.ref a] ∧ H a = some (.rng lo hi) ∧ RgOk lo hi ∧ ∀ q, H q = none → Q (.ref q) (upd H q (.lst (rgV lo hi)))) := by
  intro pins s σ H vs us Q I r h
  obtain ⟨a, lo, hi, rfl, ha, ⟨b1, b2, b3, b4, b5⟩, q⟩ := h
  obtain ⟨u1, rfl, r1⟩ := vals1 r
  cases r1
  obtain ⟨t, u, v, ho⟩ := I.hok a _ ha
  refine call_list_range (n := (hi - lo).toNat) (I.ok.hd hc) (show IsRange s.heap a lo hi 1 t u v from ho) (small_one b1 b2 b3 b4) (rangeSize_nat lo hi) b5 fun h' tk acc c' hk e' hi' => ?_
  refine ⟨.ref s.heap.objs.size, upd H s.heap.objs.size (.lst (rgV lo hi)), I.laid hk (Nat.le_refl _) (show ObjOk X.prog X.w _ _ _ (.lst (rgV lo hi)) from ⟨?_, acc.toList, c', vals_rg hi', ?_⟩), rfl, q _ (I.hok.fresh (Nat.le_refl _))⟩
  · rw [rgV_length, sizeLine_eq]; omega
  · rw [Array.toArray_toList]; exact e'
theorem call_tupRng (hc : X.calm = true) : CallR X (.type "tuple") (fun xs H Q => ∃ a lo hi, xs = [.ref a] ∧ H a = some (.rng lo hi) ∧ RgOk lo hi ∧ ∀ q, H q = none → Q (.ref q) (upd H q (.tup (rgV lo hi)))) := by
  intro pins s σ H vs us Q I r h
  obtain ⟨a, lo, hi, rfl, ha, ⟨b1, b2, b3, b4, b5⟩, q⟩ := h
  obtain ⟨u1, rfl, r1⟩ := vals1 r
  cases r1
  obtain ⟨t, u, v, ho⟩ := I.hok a _ ha
  refine call_tuple_range (n := (hi - lo).toNat) (I.ok.hd hc) (show IsRange s.heap a lo hi 1 t u v from ho) (small_one b1 b2 b3 b4) (rangeSize_nat lo hi) b5 fun h' tk acc hk hi' => ?_
  have I2 : Inv X pins σ H { s with heap := h', toks := tk } := I.kept (t' := tk) hk
  exact ⟨.ref h'.objs.size, upd H h'.objs.size (.tup (rgV lo hi)), I2.laid (t' := tk) (fun c o e => Heap.get?_push_of_some _ e) (Nat.le_refl _) (show ObjOk X.prog X.w _ _ _ (.tup (rgV lo hi)) from ⟨by rw [rgV_length, sizeLine_eq]; omega, acc.toList, vals_rg hi', IsTup.new _ _⟩), rfl, q _ (I2.hok.fresh (Nat.le_refl _))⟩
theorem rg_rep (g : Gx) (co : CO) (H : Hp) (lo hi : Int) : RepL g co H (rgV lo hi) (irange lo hi) := by
  unfold rgV irange
  generalize List.range (hi - lo).toNat = l
  induction l with
  | nil => exact .nil
  | cons x l ih => exact .cons (.int _) ih
theorem rgOk_of {lo hi : Int} (h : rgOk lo hi = true) : RgOk lo hi := by
  obtain ⟨⟨h1, h2, h3, h4⟩, h5⟩ := rg_ok h
  rw [sizeLine_eq] at h5
  exact ⟨h1, h2, h3, h4, by unfold rgOk at h; simp only [Bool.and_eq_true, decide_eq_true_eq] at h; omega⟩
def dList2 : List D → Option (List D)
  | [.rng lo hi] => if rgOk lo hi then some (irange lo hi) else none
  | ds => dList ds
def dTuple2 : List D → Option D
  | [.rng lo hi] => if rgOk lo hi then some (.tup (irange lo hi)) else none
  | ds => dTuple ds
theorem n_list2 (F : Fx X J k) (ha : VA X J (e :: es) ms) (hg : Gl X "list" := by rfl) (he : starEach (e :: es) X.env = (false, eval e X.env) :: starEach es X.env := by rfl) (hpl : (backTo pos (starEach es X.env)).any (·.1) = false := by rfl) : VN X J (.Call (.Name "list" p) (e :: es) [] pos) (mNL dList2 ms) := by
  refine vn_callTy (call_list_of.or (call_listRng F.F.calm)) (fun σ H Q xs ds ys r e q => ?_) F.bt.list (by decide +kernel) ha hg (by decide) (by decide) he hpl
  unfold dList2 at e
  split at e
  · split at e
    · rename_i hc
      cases e
      cases r with
      | cons r1 r2 =>
        cases r2
        cases r1 with
        | rng h => exact .inr ⟨_, _, _, rfl, h, rgOk_of hc, fun l hl => q H l _ (fun _ _ k => k) hl (rg_rep _ _ _ _ _)⟩
    · cases e
  · exact .inl (on_list F.K σ H Q xs ds ys r e q)
theorem x_tuple2 (F : Fx X J k) (ha : VA X J (e :: es) ms) (hg : Gl X "tuple" := by rfl) (he : starEach (e :: es) X.env = (false, eval e X.env) :: starEach es X.env := by rfl) (hpl : (backTo pos (starEach es X.env)).any (·.1) = false := by rfl) : VE X J (.Call (.Name "tuple" p) (e :: es) [] pos) (mN dTuple2 ms) := by
  refine ve_callTy (call_tuple_of.or (call_tupRng F.F.calm)) (fun σ H Q xs ds d r e q => ?_) F.bt.tuple (by decide +kernel) ha hg (by decide) (by decide) he hpl
  unfold dTuple2 at e
  split at e
  · split at e
    · rename_i hc
      cases e
      cases r with
      | cons r1 r2 =>
        cases r2
        cases r1 with
        | rng h => exact .inr ⟨_, _, _, rfl, h, rgOk_of hc, fun l hl => tup_of hl (rg_rep _ _ _ _ _) q⟩
    · cases e
  · exact .inl (on_tuple F.K σ H Q xs ds d r e q)
/-! iteration -/
theorem i_seq {tg : Expr} (F : Fx X J k) (h : VE X J e m) : VI X J tg e (mIter m) := vi_seq F.K h
theorem i_zip2 {e2 : Expr} {tpos : Pos} {elts : List Expr} {kk : Nat} (F : Fx X J k) (ha : VA X J [e, e2] ms) (hg : Gl X "zip" := by rfl) (hs : starEach [e, e2] X.env = (false, eval e X.env) :: starEach [e2] X.env := by rfl) (hpl : (backTo pos (starEach [e2] X.env)).any (·.1) = false := by rfl) :
    VI X J (.Tuple elts kk tpos) (.Call (.Name "zip" p) [e, e2] [] pos) (mZip2 ms) := vi_zip2 F.K F.bt.zip ha hg hs hpl
theorem i_zip3 {e2 e3 : Expr} {tpos : Pos} {elts : List Expr} {kk : Nat} (F : Fx X J k) (ha : VA X J [e, e2, e3] ms) (hg : Gl X "zip" := by rfl) (hs : starEach [e, e2, e3] X.env = (false, eval e X.env) :: starEach [e2, e3] X.env := by rfl) (hpl : (backTo pos (starEach [e2, e3] X.env)).any (·.1) = false := by rfl) :
    VI X J (.Tuple elts kk tpos) (.Call (.Name "zip" p) [e, e2, e3] [] pos) (mZip3 ms) := vi_zip3 F.K F.bt.zip ha hg hs hpl
end
end VL

namespace VL
open PySem PySem.Spec PyProof.Rows L2 LamX
def gns : List Nat → TGs
  | [] => gNil
  | i :: is => gCons (gName i) (gns is)
section
variable {X : Cx} {J : Jc} {k : Nat} {e : Expr} {es : List Expr} {m : ME} {ms : MA} {pos p p2 : Pos}
theorem bd_gns0 {vs : List Nat} : ∀ (is : List Nat), (∀ i ∈ is, i ∈ vs) → ∀ {σ : St} {H : Hp} {vw vw1 : Vw} {xs : List V} {ds : List D} {Q : St → Hp → Prop}, VRep J σ H vw → J.RL σ H xs ds → putV is ds vw = some vw1 →
    (∀ σ2, wipe σ2 vs = wipe σ vs → VRep J σ2 H vw1 → Q σ2 H) → gns is xs σ H Q
  | [], _, σ, H, vw, vw1, xs, ds, Q, r, rx, e, q => by
    cases ds with
    | nil => cases rx; cases e; exact ⟨rfl, q σ rfl r⟩
    | cons d ds => cases e
  | i :: is, hi, σ, H, vw, vw1, xs, ds, Q, r, rx, e, q => by
    cases ds with
    | nil => cases e
    | cons d ds =>
      cases rx with
      | cons r1 r2 =>
        refine ⟨_, _, rfl, bd_gns0 is (fun j hj => hi j (List.mem_cons_of_mem _ hj)) (r.set r1) r2 e fun σ2 h2 r' => q σ2 ?_ r'⟩
        rw [h2, wipe_set (hi i List.mem_cons_self)]
theorem putV_len : ∀ {is : List Nat} {ds : List D} {vw vw1 : Vw}, putV is ds vw = some vw1 → ds.length = is.length
  | [], [], _, _, _ => rfl
  | i :: is, d :: ds, _, _, h => congrArg (· + 1) (putV_len (is := is) (ds := ds) h)
  | [], _ :: _, _, _, h => by cases h
  | _ :: _, [], _, _, h => by cases h
/-- a comprehension's target -/
structure TgB (X : Cx) (J : Jc) (scope : Scope) (vs : List Nat) (tg : Expr) (bind : D → Vw → Option Vw) : Prop where
  ex : ∃ g, Bd J X.K vs g bind ∧ ∀ (s : Shared) (H : Hp) (C : Addr) (cl : List (Str × Addr)) (fp : List Addr), PG (X.blk s H scope (compEnvC scope cl C X.env) fp) tg g
theorem tg_name {scope : Scope} {vs : List Nat} {i : Nat} {x : Str} (F : Fx X J k) (hi : X.N[i]? = some x := by rfl) (hx : ∀ (s : Shared) (H : Hp) (C : Addr) (cl : List (Str × Addr)) (fp : List Addr), Loc (X.blk s H scope (compEnvC scope cl C X.env) fp).env.scope x := by intros; first | exact Or.inl rfl | exact Or.inr rfl) (hv : i ∈ vs := by decide)
    (hfn : ∀ (s : Shared) (H : Hp) (C : Addr) (cl : List (Str × Addr)) (fp : List Addr), (X.blk s H scope (compEnvC scope cl C X.env) fp).fn x = true ∨ (X.blk s H scope (compEnvC scope cl C X.env) fp).env.scope.names.lookup x = some .local := by intros; first | exact .inl rfl | exact .inr rfl) : TgB X J scope vs (.Name x p) (bName i) :=
  ⟨gName i, bd_name hv, fun s H C cl fp => pg_name F.nd hi (hx s H C cl fp) (hfn s H C cl fp)⟩
/-- a comprehension's names in a tuple -/
inductive TgN (X : Cx) (scope : Scope) : List Expr → List Nat → Prop where
  | nil : TgN X scope [] []
  | cons {i : Nat} {es : List Expr} {is : List Nat} {x : Str} {p : Pos} : (∀ (s : Shared) (H : Hp) (C : Addr) (cl : List (Str × Addr)) (fp : List Addr), PG (X.blk s H scope (compEnvC scope cl C X.env) fp) (.Name x p) (gName i) ∧
      (assignEach (.Name x p :: es) (X.blk s H scope (compEnvC scope cl C X.env) fp).env).map (·.2) = assign (.Name x p) (X.blk s H scope (compEnvC scope cl C X.env) fp).env :: (assignEach es (X.blk s H scope (compEnvC scope cl C X.env) fp).env).map (·.2)) → TgN X scope es is → TgN X scope (.Name x p :: es) (i :: is)
theorem tgn_cons {scope : Scope} {i : Nat} {is : List Nat} {x : Str} (F : Fx X J k) (t : TgN X scope es is) (hi : X.N[i]? = some x := by rfl) (hx : ∀ (s : Shared) (H : Hp) (C : Addr) (cl : List (Str × Addr)) (fp : List Addr), Loc (X.blk s H scope (compEnvC scope cl C X.env) fp).env.scope x := by intros; first | exact Or.inl rfl | exact Or.inr rfl)
    (hfn : ∀ (s : Shared) (H : Hp) (C : Addr) (cl : List (Str × Addr)) (fp : List Addr), (X.blk s H scope (compEnvC scope cl C X.env) fp).fn x = true ∨ (X.blk s H scope (compEnvC scope cl C X.env) fp).env.scope.names.lookup x = some .local := by intros; first | exact .inl rfl | exact .inr rfl)
    (hs : ∀ (s : Shared) (H : Hp) (C : Addr) (cl : List (Str × Addr)) (fp : List Addr), (assignEach (.Name x p :: es) (X.blk s H scope (compEnvC scope cl C X.env) fp).env).map (·.2) = assign (.Name x p) (X.blk s H scope (compEnvC scope cl C X.env) fp).env :: (assignEach es (X.blk s H scope (compEnvC scope cl C X.env) fp).env).map (·.2) := by intros; rfl) : TgN X scope (.Name x p :: es) (i :: is) :=
  .cons (fun s H C cl fp => ⟨pg_name F.nd hi (hx s H C cl fp) (hfn s H C cl fp), hs s H C cl fp⟩) t
theorem tgn_pgs {scope : Scope} {is : List Nat} (h : TgN X scope es is) (s : Shared) (H : Hp) (C : Addr) (cl : List (Str × Addr)) (fp : List Addr) : PGs (X.blk s H scope (compEnvC scope cl C X.env) fp) es (gns is) := by
  induction h with
  | nil => exact pgs_nil
  | cons h _ ih =>
    obtain ⟨h1, h2⟩ := h s H C cl fp
    exact pgs_cons h1 ih h2
theorem tg_tup {scope : Scope} {vs is : List Nat} {j : Nat} (F : Fx X J k) (t : TgN X scope es is) (hi : ∀ i ∈ is, i ∈ vs := by decide)
    (hn : ∀ (s : Shared) (H : Hp) (C : Addr) (cl : List (Str × Addr)) (fp : List Addr), (assignEach es (X.blk s H scope (compEnvC scope cl C X.env) fp).env).length = is.length := by intros; rfl)
    (hst : ∀ (s : Shared) (H : Hp) (C : Addr) (cl : List (Str × Addr)) (fp : List Addr), (assignEach es (X.blk s H scope (compEnvC scope cl C X.env) fp).env).findIdx? (·.1) = none := by intros; rfl) : TgB X J scope vs (.Tuple es j p) (bTup is) := by
  refine ⟨gTup X.K is.length (gns is), fun σ H vw vw1 x d Q r rx e q => ?_, fun s H C cl fp => pg_tup F.F.calm (tgn_pgs t s H C cl fp) (hn s H C cl fp) (hst s H C cl fp)⟩
  unfold bTup at e
  cases d with
  | tup ds =>
    cases rx with
    | tup sq rl => exact ⟨_, _, rfl, F.K ▸ sq, by rw [rl.length, putV_len e], bd_gns0 is hi r rl e q⟩
  | _ => cases e
theorem n_lc {elt tg iter : Expr} {ifs : List Expr} {scope : Scope} {mi : MA} {mt : MB} {me : ME} {bind : D → Vw → Option Vw} (own : List (Str × Nat)) (F : Fx X J k) (hi : VI X J tg iter mi) (bd : TgB X J scope (own.map (·.2)) tg bind)
    (ht : ∀ (s : Shared) (H : Hp) (C : Addr) (cl : List (Str × Addr)) (fp : List Addr), Fx (X.blk s H scope (compEnvC scope cl C X.env) fp) J.blk k → PTs (X.blk s H scope (compEnvC scope cl C X.env) fp) ifs (tB J.blk mt))
    (he : ∀ (s : Shared) (H : Hp) (C : Addr) (cl : List (Str × Addr)) (fp : List Addr), Fx (X.blk s H scope (compEnvC scope cl C X.env) fp) J.blk k → VE (X.blk s H scope (compEnvC scope cl C X.env) fp) J.blk elt me) (ok : blkC X.N X.env.scope scope own = true := by kernel_rfl) (hs : ∀ x, foldedSetIterable iter X.env x = pure x := by intro _; rfl) :
    VN X J (.ListComp elt [⟨tg, iter, ifs, 0⟩] scope pos) (mLc (own.map (·.2)) bind mi mt me) := by
  obtain ⟨g, b1, b2⟩ := bd.ex
  exact vn_lc F.F.calm F.nd hi (blkOk_by ok) b1 b2 (fun s H C cl fp => ht s H C cl fp F.blk) (fun s H C cl fp => he s H C cl fp F.blk) hs
theorem pts_none : PTs X [] (tB J bTrue) := pts_tB
end
end VL

namespace VL
open PySem PySem.Spec PyProof.Rows L2 LamX
section
variable {X : Cx} {J : Jc} {k : Nat} {e : Expr} {es : List Expr} {m : ME} {ms : MA} {pos p p2 : Pos}
/-- x = [comprehension], the slot first -/
theorem s_newLc {i : Nat} {y : Str} {py : Pos} {elt tg iter : Expr} {ifs : List Expr} {scope : Scope} {spos : Pos} {mi : MA} {mt : MB} {me : ME} {bind : D → Vw → Option Vw} (own : List (Str × Nat)) (F : Fx X J k) (hi : VI X J tg iter mi) (bd : TgB X J scope (own.map (·.2)) tg bind)
    (ht : ∀ (s : Shared) (H : Hp) (C : Addr) (cl : List (Str × Addr)) (fp : List Addr), Fx (X.blk s H scope (compEnvC scope cl C X.env) fp) J.blk k → PTs (X.blk s H scope (compEnvC scope cl C X.env) fp) ifs (tB J.blk mt))
    (he : ∀ (s : Shared) (H : Hp) (C : Addr) (cl : List (Str × Addr)) (fp : List Addr), Fx (X.blk s H scope (compEnvC scope cl C X.env) fp) J.blk k → VE (X.blk s H scope (compEnvC scope cl C X.env) fp) J.blk elt me) (ok : blkC X.N X.env.scope scope own = true := by kernel_rfl)
    (hsw : swapsWith (.ListComp elt [⟨tg, iter, ifs, 0⟩] scope pos) (some (.Name y py)) spos.line X.env = pure true := by exact L2.sw_true rfl rfl rfl rfl)
    (hy : X.N[i]? = some y := by rfl) (hyl : X.env.scope.names.lookup y = some .local := by rfl) (hs : ∀ x, foldedSetIterable iter X.env x = pure x := by intro _; rfl) :
    VS X J (.Assign [.Name y py] (.ListComp elt [⟨tg, iter, ifs, 0⟩] scope pos) spos) (sNew i (mLc (own.map (·.2)) bind mi mt me)) := by
  obtain ⟨g, b1, b2⟩ := bd.ex
  exact vs_newLc F.F.calm F.nd hi (blkOk_by ok) b1 b2 (fun s H C cl fp => ht s H C cl fp F.blk) (fun s H C cl fp => he s H C cl fp F.blk) hsw hy hyl hs
end
end VL

namespace VL
open PySem PySem.Spec PyProof.Rows L2 LamX
/-! ### lambdas without parameters -/
structure Lam where
  qual : Str
  params : Arguments
  body : Expr
  scope : Scope
  caps : List Str
/-- the function object of a lambda, known for good -/
def lamObj (L : Lam) (cl : List (Str × Addr)) (pm : Value) (c' : Addr) (ctv : Value) : Obj := PySem.W.kla_obj "<lambda>" L.qual L.params L.body L.scope cl pm c' ctv
def LamO (o : Obj) (f : Addr) : HO := .frz o (.ext fun h => h.get? f = some o)
theorem lamO_ok {P : Program} {w : World} {H : Hp} {h : Heap} {o : Obj} {f : Addr} (e : h.get? f = some o) : ObjOk P w H h f (LamO o f) :=
  ⟨e, e, ⟨o, e⟩, fun _ _ h1 k => k o h1⟩
/-- f is that lambda, with the cells cl -/
def LamAt (L : Lam) (H : Hp) (f : Addr) (cl : List (Str × Addr)) : Prop := ∃ (pm : Value) (c' : Addr) (ctv : Value), H f = some (LamO (lamObj L cl pm c' ctv) f) ∧ H c' = some (CodeO c' L.qual)
theorem LamAt.ext {L : Lam} {H H' : Hp} {f : Addr} {cl : List (Str × Addr)} (e : Ext1 H H') (h : LamAt L H f cl) : LamAt L H' f cl := by
  obtain ⟨pm, c', ctv, h1, h2⟩ := h
  exact ⟨pm, c', ctv, e _ _ h1 trivial, e _ _ h2 ⟨c', L.qual, rfl⟩⟩
abbrev Lams := Nat → Option Lam
/-- the cells hold ws where the heap is h -/
structure CloK (h : Heap) (H0 : Hp) (fs : List Addr) (cl : List (Str × Addr)) (L : Lam) (ws : List V) : Prop where
  at_ : NdefX.CellsAt cl L.caps (ws.map some) h H0
  nf : ∀ y c, cl.lookup y = some c → c ∉ fs
/-- the closures that a frame gets: entered at h, H0, from the frames fs -/
def coS (lams : Lams) (h : Heap) (H0 : Hp) (fs : List Addr) (H : Hp) : CO := ⟨fun f i ws => ∃ L cl, lams i = some L ∧ LamAt L H f cl ∧ CloK h H0 fs cl L ws, fun _ _ => False⟩
/-- .. and those of its own -/
def coM (lams : Lams) (X : Cx) (H : Hp) : CO := ⟨(coS lams X.s_0.heap X.H_0 X.fs H).co, fun f i => ∃ L, lams i = some L ∧ L.qual = X.env.qual ++ "<lambda>" ∧ LamAt L H f (cloFrom X.env.cells L.scope.names [])⟩
theorem coS_ext {lams : Lams} {h : Heap} {H0 : Hp} {fs : List Addr} {H H' : Hp} (e : Ext1 H H') : (coS lams h H0 fs H).le (coS lams h H0 fs H') :=
  ⟨fun f i ws ⟨L, cl, h1, h2, h3⟩ => ⟨L, cl, h1, h2.ext e, h3⟩, fun _ _ h => h⟩
theorem coM_ext {lams : Lams} {X : Cx} {H H' : Hp} (e : Ext1 H H') : (coM lams X H).le (coM lams X H') :=
  ⟨fun f i ws ⟨L, cl, h1, h2, h3⟩ => ⟨L, cl, h1, h2.ext e, h3⟩, fun f i ⟨L, h1, h2, h3⟩ => ⟨L, h1, h2, h3.ext e⟩⟩
/-- the judgement's part of a frame with closures -/
def jV (g : Gx) (lams : Lams) (X : Cx) (W : WX) : Jc := ⟨g, coM lams X, W, fun _ _ e => coM_ext e⟩
/-! the promise of a lambda's body -/
structure LamP (P : Program) (w : World) (base : Heap) (g : Gx) (k : Nat) (L : Lam) (m : List D → P3 → Res D) : Prop where
  run : ∀ (A : Around) (outer : List Env) (s : Shared) (H : Hp) (f : Addr) (cl : List (Str × Addr)) (ws : List V) (ds : List D) (p : P3) (Q : VK) (E : XK), Room k A → A.guards = some [] → Env0 P w g.K g.mg base A outer s H → HOk P w H s.heap → LamAt L H f cl → NdefX.CellsAt cl L.caps (ws.map some) s.heap H →
    RepL g coN H ws ds → StR g H p → PF g H Q E (m ds p) → codeAny (model P w) A (.call (.ref f) ⟨[], []⟩) (CR (L2.CX P w) outer P w H s Q E) s
def lamF (L : Lam) (cl : List (Str × Addr)) (c' : Addr) : NdefX.NF := ⟨"<lambda>", L.qual, L.params, [], L.scope, cl, c'⟩
abbrev lamX (P : Program) (w : World) (g : Gx) (base : Heap) (L : Lam) (cl : List (Str × Addr)) (c' f : Addr) (A : Around) (outer : List Env) (s : Shared) (H : Hp) (E : XK) : Cx := NdefX.ncx (L2.CX P w) P w g.K g.mg base L.caps (lamF L cl c') f A outer s H E
theorem lam_ok {P : Program} {w : World} {base : Heap} {g : Gx} {k : Nat} {L : Lam} {m : ME} (bt : Bt g.mg) (S : NdefX.NScope L.caps [] L.caps L.scope)
    (hbind : ∀ (q : Str) (cl : List (Str × Addr)) (pm cv ctv : Value), bindArgs (PySem.W.kla_fn "<lambda>" q L.params L.body L.scope cl pm cv ctv) ⟨[], []⟩ = pure [])
    (hbody : ∀ (f c' : Addr) (cl : List (Str × Addr)) (A : Around) (outer : List Env) (s : Shared) (H : Hp) (E : XK), Fx (lamX P w g base L cl c' f A outer s H E) (jP g fun cls d _ H' => E cls d H') k → VE (lamX P w g base L cl c' f A outer s H E) (jP g fun cls d _ H' => E cls d H') L.body m) :
    LamP P w base g (k + 1) L (fun ds p => m (ds.map some) p) := by
  refine ⟨fun A outer s H f cl ws ds p Q E hr gd e0 hok ⟨pm, c', ctv, hf, hc⟩ C rd stp q => ?_⟩
  obtain ⟨of1, _⟩ := hok f _ hf
  obtain ⟨⟨oc, vs, t, hoc, hdc, hvc⟩, _, _⟩ := hok c' _ hc
  refine PySem.W.kla_callFunE hr.depth of1 rfl S.co S.gen rfl ⟨c', oc, vs, t, rfl, hoc, hdc, hvc⟩ ?_
  have lim : s.heap.NoLimit := e0.mod.nolimit.keeps fun b o e => (e0.bs b o e).1
  rw [show bindArgs _ ⟨[], []⟩ = pure [] from hbind L.qual cl pm (.ref c') ctv]
  refine wpAny_pure (wpAny_newFunctionEnv (fun y hy => S.nocell y hy) (fun y hy => absurd hy (by simp)) (fun h₁ hns hsb => ⟨lim.fresh _ hsb, ?_⟩) S.kind)
  show codeAny _ _ (.expr L.body (lamX P w g base L cl c' f A outer s H E).env) _ _
  have kp : ∀ b o, s.heap.get? b = some o → h₁.get? b = some o := fun b o e => hsb.extBut b o (Nat.ne_of_lt (Heap.lt_size e)) (Heap.get?_push_of_some _ e)
  have I : Inv (lamX P w g base L cl c' f A outer s H E) [] (NdefX.startF L.caps [] (ws.map some)) H { s with heap := h₁, toks := s.toks + ([] : List (Str × Value)).length } :=
    NdefX.inv_startN (us := []) S hr.hd e0 rfl .nil C hns kp
  have F0 : Fr0 (lamX P w g base L cl c' f A outer s H E) (jP g fun cls d _ H' => E cls d H') base k := ⟨rfl, rfl, rfl, takes_of rfl rfl rfl rfl, hr.deeper _, gd, rfl⟩
  have hl : (ws.map some).length = L.caps.length := C.len
  have vr : VRep (jP g fun cls d _ H' => E cls d H') (NdefX.startF L.caps [] (ws.map some)) H (ds.map some) := by
    refine ⟨?_, fun i d h => ?_⟩
    · unfold NdefX.startF
      rw [List.length_map] at hl ⊢
      simp only [List.map_nil, List.nil_append, List.length_append, List.length_map, List.length_replicate]
      rw [← rd.length]; omega
    · rw [List.getElem?_map] at h
      cases e : ds[i]? with
      | none => rw [e] at h; cases h
      | some d' =>
        rw [e] at h
        cases h
        obtain ⟨v, h1, h2⟩ := rd.get e
        refine ⟨v, ?_, h2⟩
        unfold NdefX.startF
        have hi := (List.getElem?_eq_some_iff.mp h1).1
        rw [List.map_nil, List.nil_append, List.getElem?_append_left (by rw [List.length_map]; exact hi), List.getElem?_map, h1]
        rfl
  refine PySem.W.kla_codeExpr (wpAny_mono ((hbody f c' cl A outer s H E ⟨F0, bt, S.nd⟩).run [] _ _ H Q I ⟨_, p, vr, stp, ?_⟩) (fun v s' hq => ?_) fun e s' hq => hq)
  · cases e1 : m (ds.map some) p with
    | bad => rw [e1] at q; exact q
    | err y dv p1 => rw [e1] at q; exact fun H' C dd y' e s c z r => q H' C dd y' e s c z r
    | ok d p1 => rw [e1] at q; exact fun H' v e s r => q H' v e s r
  · obtain ⟨w', H', J', rv, q⟩ := hq
    exact ⟨w', H', J'.os, J'.bare, J'.base, J'.hok, rv, q⟩
end VL

namespace VL
open PySem PySem.Spec PyProof.Rows L2 LamX
section
variable {X : Cx}
def tMkLam (T : List (Addr × Str)) (q : Str) (params : Arguments) (body : Expr) (scope : Scope) (cl : List (Str × Addr)) : TE := fun σ H Q => Tabs T H ∧ ∀ (f c' : Addr) (pm ctv : Value) (H1 : Hp), ExtN H H1 → Tabs T H1 →
  H1 f = some (LamO (PySem.W.kla_obj "<lambda>" q params body scope cl pm c' ctv) f) → H1 c' = some (CodeO c' q) → Q (.ref f) H1
theorem tabs_new {T : List (Addr × Str)} {H : Hp} {f : Addr} {o : HO} (t : Tabs T H) (n : H f = none) : Tabs T (upd H f o) := t.ext fun b u e => by rw [upd_ne (ne_of_none e n)]; exact e
/-- a lambda comes to be: its object is tracked -/
theorem pe_mkLam {T : List (Addr × Str)} {c P : Addr} {params : Arguments} {body : Expr} {scope : Scope} {pos : Pos} (TB : TabB X.base X.mg c P) (hcode : X.env.code = .ref c) (hm : (P, X.env.qual ++ "<lambda>") ∈ T) (hu : ∀ p ∈ T, p.1 = P → p.2 = X.env.qual ++ "<lambda>")
    (hdef : defaultsOf params X.env = ([], [])) (hfree : ∀ y ∈ scope.names, y.2 = .free → X.env.scope.names.lookup y.1 = some .cell ∨ X.env.scope.names.lookup y.1 = some .free) :
    PE X (.Lambda params body scope pos) (tMkLam T (X.env.qual ++ "<lambda>") params body scope (cloFrom X.env.cells scope.names [])) := by
  refine ⟨fun pins s σ H Q I ⟨hT, q⟩ => ?_⟩
  obtain ⟨ps, hP, ht, ha⟩ := hT _ hm
  have hcl := closure_ok (env := X.env) (fun y hy e => (hfree y hy e).elim (fun z => I.ok.has _ (.inl z)) fun z => I.ok.has _ (.inr z))
  have bP : s.heap.BuiltinsAt X.mg P := TB.bm.keeps I.bk
  have hP' : s.heap.get? P = some { cls := .none, data := .fields ps } := I.hok P _ hP
  -- the function's object laid over what there is
  have lay : ∀ {H1 : Hp} {h' : Heap} {tk : Nat} {c' : Addr} {ctv : Value}, Inv X pins σ H1 { s with heap := h', toks := tk } → ExtN H H1 → Tabs T H1 → H1 c' = some (CodeO c' (X.env.qual ++ "<lambda>")) →
      EP X pins σ Q (.ref h'.objs.size) { s with heap := h'.push (PySem.W.kla_obj "<lambda>" (X.env.qual ++ "<lambda>") params body scope (cloFrom X.env.cells scope.names []) ((X.mg "__name__").getD .none) c' ctv), toks := tk } := fun {H1 h' tk c' ctv} I1 e T1 hc => by
    have nf : H1 h'.objs.size = none := I1.hok.fresh (Nat.le_refl _)
    refine ⟨.ref h'.objs.size, _, I1.laid (t' := tk) (fun b o e => Heap.get?_push_of_some _ e) (Nat.le_refl _) (lamO_ok (Heap.get?_push_size _ rfl)), rfl, q _ c' _ ctv _ (fun b o hb n => ?_) (tabs_new T1 nf) upd_same ?_⟩
    · have hb1 := e b o hb n
      rw [upd_ne (ne_of_none hb1 nf)]
      exact hb1
    · rw [upd_ne (ne_of_none hc nf)]
      exact hc
  refine PySem.W.kla_eval hdef ?_
  cases hc : codeAmong pos ps.toList with
  | some cv =>
    obtain ⟨c', e, hco⟩ := ha pos cv hc
    subst e
    refine PySem.W.kla_makeFunctionHit (mg := X.mg) (c := c) (P := P) (ps := ps) hcl I.ok.glob (I.mod.glob.keeps I.bk) hcode (TB.code.keeps I.bk) hP' ht hc bP fun ctv h' tk hx hsz => ?_
    exact lay (I.kept (h' := h') (t' := tk) hx) (ExtN.refl H) hT hco
  | none =>
    refine PySem.W.kla_makeFunction (mg := X.mg) (c := c) (P := P) (ps := ps) hcl I.ok.glob (I.mod.glob.keeps I.bk) hcode (TB.code.keeps I.bk) hP' ht hc TB.gP bP fun c' ctv h' tk hx hge hlt hrec htb => ?_
    obtain ⟨c2, oc, vs, t, e2, hoc, hd, hv⟩ := hrec
    cases e2
    have nC : H c' = none := I.hok.fresh hge
    have nPC : P ≠ c' := ne_of_none hP nC
    have I1 := inv_table (q := X.env.qual ++ "<lambda>") (t' := tk) (more := #[rawInt pos.line, rawInt pos.col, .ref c']) (h' := h') I hP hx htb hge ⟨oc, vs, t, hoc, hd, hv⟩
    have hE : ExtN H (upd (upd H P (.tbl (ps ++ #[rawInt pos.line, rawInt pos.col, .ref c']))) c' (CodeO c' (X.env.qual ++ "<lambda>"))) := fun b o e n => by
      have h1 : b ≠ P := fun z => by
        subst z
        rw [hP] at e
        exact n ps (Option.some.inj e).symm
      rw [upd_ne (ne_of_none e nC), upd_ne h1]
      exact e
    refine lay I1 hE (fun p hp => ?_) upd_same
    by_cases hb : p.1 = P
    · rw [hu p hp hb, hb]
      refine ⟨ps ++ #[rawInt pos.line, rawInt pos.col, .ref c'], by rw [upd_ne nPC, upd_same], by simpa using PySem.TriplesOk_snoc _ _ _ _ ht, fun p' cv hcv => ?_⟩
      rcases among_app _ ht (by simpa using hcv) with z | z
      · obtain ⟨c0, e1, e2⟩ := ha p' cv z
        exact ⟨c0, e1, hE _ _ e2 codeO_ne⟩
      · exact ⟨c', z, upd_same⟩
    · obtain ⟨ps', a1, a2, a3⟩ := hT p hp
      refine ⟨ps', by rw [upd_ne (ne_of_none a1 nC), upd_ne hb]; exact a1, a2, fun p' cv hcv => ?_⟩
      obtain ⟨c0, e1, e2⟩ := a3 p' cv hcv
      exact ⟨c0, e1, hE _ _ e2 codeO_ne⟩
end
end VL

namespace VL
open PySem PySem.Spec PyProof.Rows L2 LamX
/-! ### no closures in a tree -/
mutual
def D.pl : D → Bool
  | .clo _ _ | .own _ => false
  | .tup ds | .lst ds => D.pls ds
  | .exc _ v => v.pl
  | _ => true
def D.pls : List D → Bool
  | [] => true
  | d :: ds => d.pl && D.pls ds
end
mutual
theorem Rep.pl {g : Gx} {co co' : CO} {H : Hp} : ∀ {v : V} {d : D}, Rep g co H v d → d.pl = true → Rep g co' H v d
  | _, _, .non, _ => .non
  | _, _, .bl b, _ => .bl b
  | _, _, .int i, _ => .int i
  | _, _, .str x, _ => .str x
  | _, _, .tup s r, e => .tup s (RepL.pl r (by simpa [D.pl] using e))
  | _, _, .lst s r, e => .lst s (RepL.pl r (by simpa [D.pl] using e))
  | _, _, .glb k, _ => .glb k
  | _, _, .exc h1 h2 h3 r, e => .exc h1 h2 h3 (Rep.pl r (by simpa [D.pl] using e))
  | _, _, .clo _ _, e => by simp [D.pl] at e
  | _, _, .own _, e => by simp [D.pl] at e
  | _, _, .pot k, _ => .pot k
  | _, _, .scr z, _ => .scr z
  | _, _, .rng z, _ => .rng z
theorem RepL.pl {g : Gx} {co co' : CO} {H : Hp} : ∀ {v : List V} {d : List D}, RepL g co H v d → D.pls d = true → RepL g co' H v d
  | _, _, .nil, _ => .nil
  | _, _, .cons r t, e => by
    simp only [D.pls, Bool.and_eq_true] at e
    exact .cons (Rep.pl r e.1) (RepL.pl t e.2)
end
/-! ### a def that gets closures -/
structure FnV (P : Program) (w : World) (base : Heap) (g : Gx) (lams : Lams) (k : Nat) (f : Addr) (fd : FuncData) (ps : List Str) (mf : List D → P3 → Res D) : Prop where
  len : ∀ ds p, ds.length ≠ ps.length → mf ds p = .bad
  run : ∀ (A : Around) (outer : List Env) (s : Shared) (H : Hp) (args : Args) (us : List Value) (vs : List V) (ds : List D) (p : P3) (Q : VK) (E : XK), Room k A → A.guards = some [] → Env0 P w g.K g.mg base A outer s H → BindsTo s fd args (ps.zip us) → Vals vs us →
    RepL g (coS lams s.heap H (frs outer) H) H vs ds → StR g H p → PF g H Q E (mf ds p) → codeAny (model P w) A (.call (.ref f) args) (CR (L2.CX P w) outer P w H s Q E) s
structure CalV (P : Program) (w : World) (base : Heap) (g : Gx) (lams : Lams) (k : Nat) (x : Str) (ps : List Str) (mf : List D → P3 → Res D) : Prop where
  ex : ∃ (f : Addr) (fd : FuncData), g.mg x = some (.ref f) ∧ PySem.W.keepIn g.K (.ref f) = true ∧ Binds g.K fd ps [] ∧ FnV P w base g lams k f fd ps mf
theorem coS_le {lams : Lams} {X : Cx} {H : Hp} : (coS lams X.s_0.heap X.H_0 X.fs H).le (coM lams X H) := ⟨fun _ _ _ h => h, fun _ _ h => False.elim h⟩
def outV (r : Res (Fl × En)) : Res D := match r with
  | .ok (.ret d, _) p => .ok d p
  | .ok (.nx, _) p => .ok .non p
  | .ok _ _ => .bad
  | .err x v p => if v.pl then .err x v p else .bad
  | .bad => .bad
def callV (n np : Nat) (m : MS) : List D → P3 → Res D := fun ds p => if ds.length = np then outV (m (env0 n ds) p) else .bad
section
variable {P : Program} {w : World} {base : Heap} {g : Gx} {lams : Lams} {k : Nat} {x qual : Str} {st : Stmt} {f : Addr} {fd : FuncData} {N ps : List Str} {m : MS}
abbrev vX (P : Program) (w : World) (g : Gx) (base : Heap) (N : List Str) (x : Str) (st : Stmt) (f : Addr) (cdv : Value) (A : Around) (outer : List Env) (s : Shared) (H : Hp) (E : XK) : Cx := cxOf (L2.CX P w) P w g.K g.mg base N x (L2.defScope st) f cdv A outer s H E
theorem fnv_of (F : L2.Fun g.K x x st f fd) (S : FnScope N ps (L2.defScope st)) (bt : Bt g.mg)
    (hbody : ∀ (f : Addr) (cdv : Value) (A : Around) (outer : List Env) (s : Shared) (H : Hp) (E : XK), fd.code = cdv → Fs (vX P w g base N x st f cdv A outer s H E) (jV g lams (vX P w g base N x st f cdv A outer s H E) fun cls d _ H' => E cls d H') k →
      VSs (vX P w g base N x st f cdv A outer s H E) (jV g lams (vX P w g base N x st f cdv A outer s H E) fun cls d _ H' => E cls d H') (L2.defBody st) m) : FnV P w base g lams (k + 1) f fd ps (callV N.length ps.length m) := by
  refine ⟨fun ds p h => if_neg h, fun A outer s H args us vs ds p Q E hr gd e0 hb r rd stp q => ?_⟩
  obtain ⟨oc, od, kV, doc, pm, an, cdv, ct, osl, rfl, lk, hcd⟩ := F.ex
  unfold callV at q
  by_cases hl : ds.length = ps.length
  · rw [if_pos hl] at q
    have hpl : ps.length ≤ N.length := by have := congrArg List.length S.pre; rw [List.length_take] at this; omega
    have KX : g.K.In s.heap := e0.mod.kin.keeps fun b o e => (e0.bs b o e).1
    have lim : s.heap.NoLimit := e0.mod.nolimit.keeps fun b o e => (e0.bs b o e).1
    have hkind : ∀ y ∈ ps.zip us, (L2.defScope st).names.lookup y.1 = some .local ∨ ((L2.defScope st).names.lookup y.1 = some .cell ∧ ((cellsFrom (s.heap.objs.size + 1) (L2.defScope st).names []).lookup y.1).isSome = true) := fun ⟨n, v⟩ hy => by
      rcases S.par n (List.of_mem_zip hy).1 with z | z
      · exact .inl z
      · exact .inr ⟨z, PySem.W.cellsFrom_some _ _ _ (.inl z)⟩
    have hvl : vs.length = ps.length := by rw [rd.length, hl]
    refine codeAny_call_function hr.depth (KX _ _ lk) rfl S.co S.gen rfl (PySem.W.codeRec_of KX hcd) (hb _ _ _ _ ?_)
    refine wpAny_newFunctionEnv_cells S.kind hkind fun env he s1 xx => ?_
    subst he
    refine ⟨lim.keeps xx.toInCall.keep, codeAny_func ?_⟩
    have I : Inv (vX P w g base N x st f cdv A outer s H E) [] (L2.start N vs) H s1 := inv_start S hr.hd e0 hvl r xx
    have F0 : Fs (vX P w g base N x st f cdv A outer s H E) (jV g lams (vX P w g base N x st f cdv A outer s H E) fun cls d _ H' => E cls d H') k :=
      ⟨⟨⟨rfl, rfl, rfl, takes_of rfl rfl rfl rfl, hr.deeper _, gd, rfl⟩, bt, S.nd⟩, passes_of rfl⟩
    have er : ERep (vX P w g base N x st f cdv A outer s H E) (jV g lams (vX P w g base N x st f cdv A outer s H E) fun cls d _ H' => E cls d H') (L2.start N vs) H (env0 N.length ds) := by
      refine ⟨?_, fun i sl h => ?_, fun i j a _ ⟨ds', h⟩ => ?_, .refl⟩
      · unfold env0 L2.start
        rw [List.length_append, List.length_append, List.length_map, List.length_map, List.length_replicate, List.length_replicate, rd.length]
      · unfold env0 at h
        by_cases hi : i < ds.length
        · rw [List.getElem?_append_left (by rw [List.length_map]; exact hi), List.getElem?_map, List.getElem?_eq_getElem hi] at h
          cases h
          obtain ⟨v, h1, h2⟩ := rd.get (List.getElem?_eq_getElem hi)
          exact ⟨v, start_get (by omega) h1, h2.ext .refl coS_le⟩
        · rw [List.getElem?_append_right (by rw [List.length_map]; omega), List.getElem?_replicate] at h
          split at h <;> cases h
      · unfold env0 at h
        by_cases hi : i < ds.length
        · rw [List.getElem?_append_left (by rw [List.length_map]; exact hi), List.getElem?_map, List.getElem?_eq_getElem hi] at h
          cases h
        · rw [List.getElem?_append_right (by rw [List.length_map]; omega), List.getElem?_replicate] at h
          split at h <;> cases h
    have hrun := (hbody f cdv A outer s H E rfl F0).run [] s1 (L2.start N vs) H { nx := fun _ H' => Q .non H', rt := Q } I ⟨_, p, er, stp, ?_⟩
    · refine wpAny_mono hrun (fun fl s' hs => ?_) fun e s' hs => hs
      have fin : ∀ {σ' : St} {H' : Hp} {v : V} {u : Value}, Inv (vX P w g base N x st f cdv A outer s H E) [] σ' H' s' → RelV v u → Q v H' → CE outer P w H s Q u s' :=
        fun {σ' H' v u} J rv z => ⟨v, H', J.os, J.bare, J.base, J.hok, rv, z⟩
      cases fl with
      | ret u => obtain ⟨v, σ', H', J, rv, z⟩ := hs; exact fin J rv z
      | next => obtain ⟨σ', H', J, z⟩ := hs; exact fin (v := V.non) (u := Value.none) J rfl z
      | brk => obtain ⟨_, _, _, z⟩ := hs; exact False.elim z
      | cont => obtain ⟨_, _, _, z⟩ := hs; exact False.elim z
    · unfold outV at q
      cases e1 : m (env0 N.length ds) p with
      | bad => rw [e1] at q; exact q
      | err y dv p1 =>
        rw [e1] at q
        simp only at q
        by_cases hp : dv.pl = true
        · rw [if_pos hp] at q
          exact fun σ H' C dd y' e s c z r => q H' C dd y' e s c z (Rep.pl r hp)
        · rw [if_neg hp] at q
          exact q.elim
      | ok fe p1 =>
        obtain ⟨fl, env1⟩ := fe
        rw [e1] at q
        cases fl with
        | nx => exact fun σ H' r s _ => q H' .non r.ext s .non
        | ret d => exact fun H' v e s r => q H' v e s r
        | bk => exact q.elim
        | ct => exact q.elim
        | rtl d => exact q.elim
  · rw [if_neg hl] at q
    exact q.elim
end
section
variable {X : Cx} {J : Jc} {base : Heap} {k : Nat} {e : Expr} {es : List Expr} {sts : List Stmt} {m : ME} {ms : MA} {pos : Pos} {lams : Lams}
/-! ### in a frame with closures -/
def sRetV (me : ME) : MS := onV me fun d env p => if d.pl then .ok (.ret d, env) p else .bad
theorem vs_retV (h : VE X J e m) : VS X J (.Return (some e) pos) (sRetV m) :=
  ps_imp (ps_ret h) fun Dn σ H q => onV_logic q fun env d p1 H1 v r s rv q => by
    by_cases hp : d.pl = true
    · rw [if_pos hp] at q
      exact q H1 v r.ext s (Rep.pl rv hp)
    · rw [if_neg hp] at q
      exact q.elim
/-- the arguments hold no closures -/
def mPl (ms : MA) : MA := fun vw p => (ms vw p).bind fun ds p1 => if D.pls ds then .ok ds p1 else .bad
def Jc.plain (J : Jc) : Jc := { J with co := fun _ => coN, coE := fun _ _ _ => .refl }
/-- a call of a def without closures -/
theorem ve_callP {mf : List D → P3 → Res D} {x : Str} {ps : List Str} {p : Pos} {j : Nat} (C : Cal X.prog X.w X.base J.g j x ps mf) (F : Fr0 X J X.base k) (hj : j ≤ k) (ha : VA X J (e :: es) ms) (hg : Gl X x := by rfl) (hdb : (x == ("__debug__" : Str)) = false := by decide)
    (he : starEach (e :: es) X.env = (false, eval e X.env) :: starEach es X.env := by rfl) (hpl : (backTo pos (starEach es X.env)).any (·.1) = false := by rfl) : VE X J (.Call (.Name x p) (e :: es) [] pos) (mCall mf (mPl ms)) := by
  obtain ⟨f, fd, h1, h2, h3, h4⟩ := C.ex
  refine ⟨fun pins s σ H Q I ⟨vw, p, rr, st, q⟩ => ?_⟩
  refine wpAny_Call_Name_kw (ld_glob I hg (F.mg ▸ h1) ?_ hdb)
  have hk : PySem.W.keepIn X.K (.ref f) = true := F.K ▸ h2
  refine PySem.W.callWith_K (h₀ := X.base) I.ok.mod.kin hk (thn (ha.run pos pins s σ H (fun vs H1 => ∃ ds p1, RepL J.g coN H1 vs ds ∧ StR J.g H1 p1 ∧ PV J σ H1 Q (mf ds p1)) I ⟨vw, p, rr, st, ?_⟩) fun us s1 ⟨vs, H1, I1, r, ds, p1, r1, s1', q1⟩ => ⟨I1.kIn, ?_⟩) he hpl
  · unfold mCall mPl at q
    cases e1 : ms vw p with
    | bad => rw [e1] at q; exact q.elim
    | err x dv p1 => rw [e1] at q; exact q
    | ok ds p1 =>
      rw [e1] at q
      simp only [Res.bind] at q
      by_cases hp : D.pls ds = true
      · simp only [hp, if_true] at q
        intro H1 vs x1 s1 r1
        refine ⟨ds, p1, RepL.pl r1 hp, s1, ?_⟩
        cases e2 : mf ds p1 with
        | bad => rw [e2] at q; exact q.elim
        | err x dv p1 => rw [e2] at q; exact ErrP.ext q x1
        | ok d p2 => rw [e2] at q; exact fun H2 v x2 s2 r2 => q H2 v (x1.trans x2) s2 r2
      · simp only [hp, if_false, Bool.false_eq_true] at q
        exact q.elim
  · have hl : us.length = ps.length := by
      rw [← r.length, r1.length]
      refine Classical.byContradiction fun z => ?_
      rw [h4.len ds p1 z] at q1
      exact q1
    have hb' := h3 s1 us (F.K ▸ I1.kIn) (by rw [List.append_nil]; exact hl)
    rw [List.append_nil] at hb'
    have e0 : Env0 X.prog X.w J.g.K J.g.mg X.base X.A X.stack s1 H1 := by rw [F.K, F.mg]; exact I1.env0
    refine wpAny_call (codeAny_mono (h4.run X.A X.stack s1 H1 ⟨us, []⟩ us vs ds p1 Q (fun cls d H' => J.W cls d σ H') (F.room.mono hj) F.gd e0 hb' r r1 s1' ?_) fun r s' hq => ?_)
    · cases e1 : mf ds p1 with
      | bad => rw [e1] at q1; exact q1
      | err x dv p1 => rw [e1] at q1; exact fun H' C dd y e s c z r => q1 H' C dd y e s c z (Rep.up r)
      | ok d p1 => rw [e1] at q1; exact fun H' v e s r => q1 H' v e s (Rep.up r)
    · cases r with
      | error e => exact F.tk _ _ (XE.of_call (W := J.W) I1 (fun _ _ _ z => z) hq)
      | ok fl =>
        cases fl with
        | ret u => exact I1.after hq
        | next => exact False.elim hq
        | brk => exact False.elim hq
        | cont => exact False.elim hq
/-- a lambda made -/
theorem ve_lam {g : Gx} {W : WX} {c P : Addr} {i : Nat} {L : Lam} {params : Arguments} {body : Expr} {scope : Scope} (TB : TabB X.base X.mg c P) (hcode : X.env.code = .ref c) (hm : (P, X.env.qual ++ "<lambda>") ∈ g.T) (hu : ∀ p ∈ g.T, p.1 = P → p.2 = X.env.qual ++ "<lambda>")
    (hL : lams i = some L) (hq : L.qual = X.env.qual ++ "<lambda>") (h1 : L.params = params) (h2 : L.body = body) (h3 : L.scope = scope) (hdef : defaultsOf params X.env = ([], []) := by rfl)
    (hfree : ∀ y ∈ scope.names, y.2 = .free → X.env.scope.names.lookup y.1 = some .cell) : VE X (jV g lams X W) (.Lambda params body scope pos) (mC (.own i)) := by
  refine pe_imp (pe_mkLam (T := g.T) TB hcode hm hu hdef fun y hy e => .inl (hfree y hy e)) fun σ H Q ⟨vw, p, rr, st, q⟩ => ⟨st.tab, fun f c' pm ctv H1 eN T1 hf hc => ?_⟩
  have x1 : Ext g H H1 := fun b o hb _ n => eN b o hb n
  refine q H1 (.ref f) x1 ⟨?_, T1⟩ (.own ⟨L, hL, hq, pm, c', ctv, ?_, by rw [hq]; exact hc⟩)
  · have w := st.pot
    unfold PotR at w ⊢
    split at w
    · exact eN _ _ w (fun _ z => nomatch z)
    · trivial
    · exact w
  · subst h1 h2 h3
    unfold lamObj
    rw [hq]
    exact hf
end
end VL

namespace VL
open PySem PySem.Spec PyProof.Rows L2 LamX
section
variable {X : Cx} {pins : List (Addr × Obj)} {σ : St} {H : Hp} {s : Shared} {cl : List (Str × Addr)} {L : Lam} {ws : List V}
abbrev ExOk (X : Cx) : Prop := ∀ b ∈ X.ex, ∀ v, ¬ X.s_0.heap.IsCell b v
theorem CloK.later (C : CloK X.s_0.heap X.H_0 X.fs cl L ws) (hx : ExOk X) (I : Inv X pins σ H s) : CloK s.heap H (frs X.stack) cl L ws := by
  refine ⟨C.at_.later C.nf (fun y c e z => by
    obtain ⟨_, v, w⟩ := C.at_.all y c e
    exact hx c z v w) I, fun y c e hm => ?_⟩
  rcases List.mem_cons.mp (I.stkSub _ hm) with z | z
  · obtain ⟨_, v, o, ho, _⟩ := C.at_.all y c e
    have h1 := Heap.lt_size ho
    have h2 := I.ok.above
    subst z
    exact Nat.lt_irrefl _ (Nat.lt_of_lt_of_le h1 h2)
  · exact C.nf y c e z
/-- how the captured names lie in the making frame -/
structure CapOk (X : Cx) (L : Lam) (js : List Nat) : Prop where
  free : ∀ y ∈ L.scope.names, y.2 = .free → X.env.scope.names.lookup y.1 = some .cell
  has : ∀ y ∈ L.caps, (y, NameKind.free) ∈ L.scope.names
  at_ : js.map (fun j => X.N[j]?) = L.caps.map some
  fn : ∀ y, X.env.scope.names.lookup y = some .cell → X.fn y = true
theorem CloK.made {js : List Nat} (c : CapOk X L js) (I : Inv X pins σ H s) (hw : js.map (NdefX.slotAt σ) = ws.map some) : CloK s.heap H (frs X.stack) (cloFrom X.env.cells L.scope.names []) L ws := by
  have C := NdefX.cells_of I (NdefX.Caps.made (X := X) (scope := L.scope) (fr := L.caps) (js := js) I.ok (fun y hy e => .inl (c.free y hy e)) c.has c.at_)
  rw [hw] at C
  refine ⟨C, fun y a e hm => ?_⟩
  have hfree : ∀ y ∈ L.scope.names, y.2 = .free → ∃ c, X.env.cells.lookup y.1 = some c := fun y hy e => I.ok.has _ (.inl (c.free y hy e))
  have ec := NdefX.clo_cm hfree e
  have hfn : X.fn y = true := by
    rcases cloFrom_mem (PySem.mem_of_lookup e) with z | ⟨z, _⟩
    · cases z
    · exact c.fn y (c.free _ z rfl)
  have hge := I.ok.cab y a hfn ec
  rcases List.mem_cons.mp (I.stkSub _ hm) with z | z
  · obtain ⟨m, ⟨o, es, ep, e1, d1, _⟩, _⟩ := I.loc
    obtain ⟨v, o2, e2, d2⟩ := I.cell y a ec
    subst z
    rw [e1] at e2
    cases e2
    rw [d1] at d2
    cases d2
  · obtain ⟨_, o, e1, _⟩ := I.ok.funs.mem z
    exact Nat.lt_irrefl _ (Nat.lt_of_lt_of_le (Heap.lt_size e1) hge)
end
/-! own closures as they are handed on -/
def getAll (vw : Vw) : List Nat → Option (List D)
  | [] => some []
  | j :: js => match vw[j]?, getAll vw js with
    | some (some d), some ds => if d.pl then some (d :: ds) else none
    | _, _ => none
abbrev CapT := List (Nat × List Nat)
def capD (caps : CapT) (vw : Vw) : D → Option D
  | .own i => match caps.lookup i with
    | some js => (getAll vw js).map (D.clo i)
    | none => none
  | .clo i ds => if D.pls ds then some (.clo i ds) else none
  | d => if d.pl then some d else none
def capDs (caps : CapT) (vw : Vw) : List D → Option (List D)
  | [] => some []
  | d :: ds => match capD caps vw d, capDs caps vw ds with
    | some d', some ds' => some (d' :: ds')
    | _, _ => none
/-- the table of captured slots is right -/
def CapTOk (lams : Lams) (X : Cx) (caps : CapT) : Prop := ∀ i js L, caps.lookup i = some js → lams i = some L → CapOk X L js
section
variable {X : Cx} {pins : List (Addr × Obj)} {σ : St} {H : Hp} {s : Shared} {g : Gx} {lams : Lams} {J : Jc}
theorem getAll_rep {vw : Vw} (r : VRep J σ H vw) : ∀ {js : List Nat} {ds : List D}, getAll vw js = some ds → ∃ ws : List V, js.map (NdefX.slotAt σ) = ws.map some ∧ RepL J.g coN H ws ds
  | [], ds, h => by cases h; exact ⟨[], rfl, .nil⟩
  | j :: js, ds, h => by
    unfold getAll at h
    split at h
    · rename_i d ds' h1 h2
      split at h
      · rename_i hp
        cases h
        obtain ⟨v, e, rv⟩ := r.at_ j d h1
        obtain ⟨ws, e2, r2⟩ := getAll_rep r h2
        exact ⟨v :: ws, by rw [List.map_cons, List.map_cons, NdefX.slotAt_of e, e2], .cons (Rep.pl rv hp) r2⟩
      · cases h
    · cases h
theorem capD_rep {caps : CapT} {vw : Vw} (hco : J.co H = coM lams X H) (ct : CapTOk lams X caps) (hx : ExOk X) (I : Inv X pins σ H s) (r : VRep J σ H vw) {v : V} {d d' : D} (rv : J.R σ H v d) (e : capD caps vw d = some d') :
    Rep J.g (coS lams s.heap H (frs X.stack) H) H v d' := by
  have plain : (if d.pl then some d else none) = some d' → Rep J.g (coS lams s.heap H (frs X.stack) H) H v d' := fun h => by
    split at h
    · rename_i hp
      cases h
      exact Rep.pl rv hp
    · cases h
  cases d with
  | own i =>
    unfold capD at e
    simp only at e
    split at e
    · rename_i js hj
      cases e1 : getAll vw js with
      | none => rw [e1] at e; cases e
      | some ds =>
        rw [e1] at e
        cases e
        obtain ⟨ws, h1, h2⟩ := getAll_rep r e1
        cases rv with
        | own ho =>
          rw [hco] at ho
          obtain ⟨L, l1, l2, l3⟩ := ho
          exact .clo ⟨L, _, l1, l3, CloK.made (ct i js L hj l1) I h1⟩ (h2.ext .refl coN_le)
    · cases e
  | clo i ds =>
    unfold capD at e
    simp only at e
    split at e
    · rename_i hp
      cases e
      cases rv with
      | clo hc hr =>
        rw [hco] at hc
        obtain ⟨L, cl, l1, l2, l3⟩ := hc
        exact .clo ⟨L, cl, l1, l2, l3.later hx I⟩ (RepL.pl hr hp)
    · cases e
  | _ => exact plain e
theorem capDs_rep {caps : CapT} {vw : Vw} (hco : J.co H = coM lams X H) (ct : CapTOk lams X caps) (hx : ExOk X) (I : Inv X pins σ H s) (r : VRep J σ H vw) : ∀ {vs : List V} {ds ds' : List D}, J.RL σ H vs ds → capDs caps vw ds = some ds' →
    RepL J.g (coS lams s.heap H (frs X.stack) H) H vs ds'
  | _, _, _, .nil, h => by cases h; exact .nil
  | _, _, _, .cons rv t, h => by
    unfold capDs at h
    split at h
    · rename_i d' ds' h1 h2
      cases h
      exact .cons (capD_rep hco ct hx I r rv h1) (capDs_rep hco ct hx I r t h2)
    · cases h
/-- a call of a def that gets closures -/
def mCallV (caps : CapT) (mf : List D → P3 → Res D) (ms : MA) : ME := fun vw p => (ms vw p).bind fun ds p1 => match capDs caps vw ds with
  | some ds' => mf ds' p1
  | none => .bad
theorem ve_callV {e : Expr} {es : List Expr} {ms : MA} {pos : Pos} {mf : List D → P3 → Res D} {x : Str} {ps : List Str} {p : Pos} {j k : Nat} (caps : CapT) (C : CalV X.prog X.w X.base J.g lams j x ps mf) (F : Fr0 X J X.base k) (hj : j ≤ k) (ha : VA X J (e :: es) ms)
    (ct : CapTOk lams X caps) (hco : ∀ H, J.co H = coM lams X H := by intro _; rfl) (hx : ExOk X := by intro b hb; cases hb) (hg : Gl X x := by rfl) (hdb : (x == ("__debug__" : Str)) = false := by decide)
    (he : starEach (e :: es) X.env = (false, eval e X.env) :: starEach es X.env := by rfl) (hpl : (backTo pos (starEach es X.env)).any (·.1) = false := by rfl) : VE X J (.Call (.Name x p) (e :: es) [] pos) (mCallV caps mf ms) := by
  obtain ⟨f, fd, h1, h2, h3, h4⟩ := C.ex
  refine ⟨fun pins s σ H Q I ⟨vw, p, rr, st, q⟩ => ?_⟩
  refine wpAny_Call_Name_kw (ld_glob I hg (F.mg ▸ h1) ?_ hdb)
  have hk : PySem.W.keepIn X.K (.ref f) = true := F.K ▸ h2
  refine PySem.W.callWith_K (h₀ := X.base) I.ok.mod.kin hk (thn (ha.run pos pins s σ H (fun vs H1 => ∃ ds ds' p1, VRep J σ H1 vw ∧ J.RL σ H1 vs ds ∧ capDs caps vw ds = some ds' ∧ StR J.g H1 p1 ∧ PV J σ H1 Q (mf ds' p1)) I ⟨vw, p, rr, st, ?_⟩) fun us s1 ⟨vs, H1, I1, r, ds, ds', p1, rr1, r1, ecap, s1', q1⟩ => ⟨I1.kIn, ?_⟩) he hpl
  · unfold mCallV at q
    cases e1 : ms vw p with
    | bad => rw [e1] at q; exact q.elim
    | err x dv p1 => rw [e1] at q; exact q
    | ok ds p1 =>
      rw [e1] at q
      simp only [Res.bind] at q
      intro H1 vs x1 s1 r1
      cases e3 : capDs caps vw ds with
      | none => rw [e3] at q; exact q.elim
      | some ds' =>
        rw [e3] at q
        simp only at q
        refine ⟨ds, ds', p1, rr.ext x1, r1, e3, s1, ?_⟩
        cases e2 : mf ds' p1 with
        | bad => rw [e2] at q; exact q.elim
        | err x dv p1 => rw [e2] at q; exact ErrP.ext q x1
        | ok d p2 => rw [e2] at q; exact fun H2 v x2 s2 r2 => q H2 v (x1.trans x2) s2 r2
  · have rS := capDs_rep (hco H1) ct hx I1 rr1 r1 ecap
    have hl : us.length = ps.length := by
      rw [← r.length, rS.length]
      refine Classical.byContradiction fun z => ?_
      rw [h4.len ds' p1 z] at q1
      exact q1
    have hb' := h3 s1 us (F.K ▸ I1.kIn) (by rw [List.append_nil]; exact hl)
    rw [List.append_nil] at hb'
    have e0 : Env0 X.prog X.w J.g.K J.g.mg X.base X.A X.stack s1 H1 := by rw [F.K, F.mg]; exact I1.env0
    refine wpAny_call (codeAny_mono (h4.run X.A X.stack s1 H1 ⟨us, []⟩ us vs ds' p1 Q (fun cls d H' => J.W cls d σ H') (F.room.mono hj) F.gd e0 hb' r rS s1' ?_) fun r s' hq => ?_)
    · cases e1 : mf ds' p1 with
      | bad => rw [e1] at q1; exact q1
      | err x dv p1 => rw [e1] at q1; exact fun H' C dd y e s c z r => q1 H' C dd y e s c z (Rep.up r)
      | ok d p1 => rw [e1] at q1; exact fun H' v e s r => q1 H' v e s (Rep.up r)
    · cases r with
      | error e => exact F.tk _ _ (XE.of_call (W := J.W) I1 (fun _ _ _ z => z) hq)
      | ok fl =>
        cases fl with
        | ret u => exact I1.after hq
        | next => exact False.elim hq
        | brk => exact False.elim hq
        | cont => exact False.elim hq
/-- the closure in slot j called -/
def mCallC (j : Nat) (mls : Nat → List D → P3 → Res D) : ME := fun vw p => match vw[j]? with
  | some (some (.clo i ds)) => if D.pls ds then mls i ds p else .bad
  | _ => .bad
theorem ve_callC {j k : Nat} {x : Str} {p pos : Pos} {mls : Nat → List D → P3 → Res D} (F : Fr0 X J X.base k) (hL : ∀ i L, lams i = some L → LamP X.prog X.w X.base J.g k L (mls i)) (hco : ∀ H, J.co H = coM lams X H := by intro _; rfl) (hx : ExOk X := by intro b hb; cases hb) (hN : X.N[j]? = some x := by rfl)
    (hv : Vis X.env.scope x := by first | exact Or.inl rfl | exact Or.inr (Or.inl rfl) | exact Or.inr (Or.inr rfl)) (hd : (x == ("__debug__" : Str)) = false := by decide) (hcd : (x == ("__classdict__" : Str)) = false := by decide) : VE X J (.Call (.Name x p) [] [] pos) (mCallC j mls) := by
  refine ⟨fun pins s σ H Q I ⟨vw, p0, rr, st, q⟩ => ?_⟩
  unfold mCallC at q
  split at q
  · rename_i i ds hj
    split at q
    · rename_i hp
      obtain ⟨v, e1, rv⟩ := rr.at_ j _ hj
      cases rv with
      | @clo f _ ws _ hc hr =>
        rw [hco H] at hc
        obtain ⟨L, cl, l1, l2, l3⟩ := hc
        refine wpAny_Call_Name_kw (thn ((pe_var (pos := p) (i := j) hN hv hd hcd).run pins s σ H (fun v H1 => v = .ref f ∧ H1 = H) I ⟨.ref f, e1, rfl, rfl⟩) fun u s1 ⟨v, H1, I1, r1, q1⟩ => ?_)
        obtain ⟨ev, eH⟩ := q1
        subst ev
        rw [eH] at I1
        obtain rfl : u = Value.ref f := r1
        obtain ⟨pm, c', ctv, hf, hcc⟩ := id l2
        obtain ⟨of1, _⟩ := I1.hok f _ hf
        refine PySem.W.callWith_F0 ⟨_, _, _, _, of1⟩ ?_
        have e0 : Env0 X.prog X.w J.g.K J.g.mg X.base X.A X.stack s1 H := by rw [F.K, F.mg]; exact I1.env0
        refine wpAny_call (codeAny_mono ((hL i L l1).run X.A X.stack s1 H f cl ws ds p0 Q (fun cls d H' => J.W cls d σ H') F.room F.gd e0 I1.hok l2 (l3.later hx I1).at_ (RepL.pl hr hp) st ?_) fun r s' hq => ?_)
        · cases e1 : mls i ds p0 with
          | bad => rw [e1] at q; exact q
          | err x dv p1 => rw [e1] at q; exact fun H' C dd y e s c z r => q H' C dd y e s c z (Rep.up r)
          | ok d p1 => rw [e1] at q; exact fun H' v e s r => q H' v e s (Rep.up r)
        · cases r with
          | error e => exact F.tk _ _ (XE.of_call (W := J.W) I1 (fun _ _ _ z => z) hq)
          | ok fl =>
            cases fl with
            | ret u => exact I1.after hq
            | next => exact False.elim hq
            | brk => exact False.elim hq
            | cont => exact False.elim hq
    · exact q.elim
  · exact q.elim
end
end VL

namespace VL
open PySem PySem.Spec PyProof.Rows L2 LamX
/-! ### an exception that is caught and kept -/
def XOg (cls : Value) (d : Option Addr) (a : Addr) : HO := .ext fun h => ∃ oe : Obj, h.get? a = some oe ∧ Zc cls d oe ∧ ∃ vs, oe.data = .fields vs
theorem xog_ok {P : Program} {w : World} {H : Hp} {h : Heap} {cls : Value} {d : Option Addr} {a : Addr} {oe : Obj} (e : h.get? a = some oe) (z : Zc cls d oe) (f : ∃ vs, oe.data = .fields vs) : ObjOk P w H h a (.frz oe (XOg cls d a)) :=
  ⟨e, ⟨oe, e, z, f⟩, ⟨oe, e⟩, fun _ _ ⟨o, h1, h2, h3⟩ k => ⟨o, k o h1, h2, h3⟩⟩
section
variable {X : Cx} {pins : List (Addr × Obj)} {σ : St} {H : Hp} {s : Shared}
/-- ghost: a pinned object that is new since the entry is tracked from now on -/
theorem inv_track {a : Addr} {oe : Obj} {u : HO} (I : Inv X ((a, oe) :: pins) σ H s) (hp : ∀ p ∈ X.pn ++ pins, p.1 ≠ a) (hnew : X.s_0.heap.get? a = none) (new : ObjOk X.prog X.w (upd H a (.frz oe u)) s.heap a (.frz oe u)) : Inv X pins σ (upd H a (.frz oe u)) s := by
  obtain ⟨pe, pn, pl, pf, pc⟩ := I.pin (a, oe) (List.mem_append_right _ List.mem_cons_self)
  have pn : H a = none := pn
  have pl : a ≠ X.env.locals := pl
  have nz : ∀ b o, H b = some o → b ≠ a := fun b o e z => by rw [z, pn] at e; cases e
  refine ⟨I.ok, I.os, I.bare, ⟨I.base.keep, I.base.slot, fun b o q n' hx => ?_, I.base.there, fun b ys q => ?_, fun b o u q => ?_, fun b ps q => ?_⟩, I.loc, I.cell, ?_, fun x c q => ?_, fun p hm => ?_, fun b o q => ?_, I.len⟩
  · rw [upd_ne (fun z => by subst z; rw [hnew] at q; cases q)]
    exact I.base.free b o q n' hx
  · have w := I.base.tups b ys q
    rw [upd_ne (nz _ _ w)]; exact w
  · have w := I.base.frzs b o u q
    rw [upd_ne (nz _ _ w)]; exact w
  · obtain ⟨m, w⟩ := I.base.tbls b ps q
    exact ⟨m, by rw [upd_ne (nz _ _ w)]; exact w⟩
  · rw [upd_ne (Ne.symm pl)]; exact I.free
  · have w := I.freeC x c q
    have hne : c ≠ a := fun z => by
      subst z
      obtain ⟨v, o, ho, hd⟩ := I.cell x c q
      rw [pe] at ho
      cases ho
      exact pc v hd
    rw [upd_ne hne]; exact w
  · obtain ⟨w1, w2, w3⟩ := I.pin p (by
      rcases List.mem_append.mp hm with z | z
      · exact List.mem_append_left _ z
      · exact List.mem_append_right _ (List.mem_cons_of_mem _ z))
    exact ⟨w1, by rw [upd_ne (hp p hm)]; exact w2, w3⟩
  · by_cases hb : b = a
    · subst hb
      rw [upd_same] at q
      cases q
      exact new
    · rw [upd_ne hb] at q
      refine (I.hok b o q).stay (fun _ _ _ k => k) (fun c k => ?_) (fun c ys k => ?_)
      · rw [upd_ne (nz _ _ k)]; exact k
      · rw [upd_ne (nz _ _ k)]; exact k
end
/-- what the clause wishes: the exception is its class's, and stands tracked behind the suite -/
def wKept (K : PySem.W.Frag) (c : Value) (i : Nat) (ts : Addr → Value → Option Addr → TS) (D : Ends) : WX := fun cls d σ H =>
  PySem.W.exmOne K cls c = some true ∧ ∀ a, H a = none → ts a cls d { nx := fun σ' H' => H' a = none ∧ ∀ oe : Obj, D.nx (σ'.set i none) (upd H' a (.frz oe (XOg cls d a))), rt := fun _ _ => False, bk := fun _ _ => False, ct := fun _ _ => False } (σ.set i (some (.ref a))) H
section
variable {X : Cx} {x n : Str} {c : Value} {i : Nat} {body suite : List Stmt} {b₀ : Stmt} {np pos pos' : Pos} {tb : WX → TS} {ts : Addr → Value → Option Addr → TS}
theorem ps_kept (hs : X.stack = X.env :: X.outer) (hf : X.env.frame = some X.env.locals) (hex : X.ex = []) (hN : X.N.Nodup) (hi : X.N[i]? = some n) (hln : X.env.kindOf n = some .local) (hc : Names X x c)
    (hb : ∀ (W : WX) (pn : List (Addr × Obj)) (xe : Value → Shared → Prop), Takes (X.tr pn xe) W → PassesOwn (model X.prog X.w) X.A X.env xe → PSs (X.tr pn xe) body (tb W))
    (hsu : ∀ (a : Addr) (oe : Obj) (cls : Value) (d : Option Addr) (pn : List (Addr × Obj)), Zc cls d oe → (∃ vs, oe.data = .fields vs) → PSs (X.suite a ((a, oe) :: pn)) (b₀ :: suite) (ts a cls d)) :
    PS X (.Try body [.ExceptHandler (some (.Name x np)) (some n) (b₀ :: suite) pos'] [] [] pos) (fun D σ H => tb (wKept X.K c i ts D) D σ H) := by
  refine ⟨fun pins s σ H D I h => ?_⟩
  have ok := I.ok
  have hfr : X.A.frames = some (X.env :: X.outer) := by rw [ok.frames, hs]
  have hloc : Loc X.env.scope n := .inl hln
  refine wpAny_Try_except ?_
  have bodyRun := (hb (wKept X.K c i ts D) (X.pn ++ pins) (fun e s₁ => wpAny (model X.prog X.w) X.A (noteFrame e X.env) (fun _ s₂ => wpAny (model X.prog X.w) X.A (setFlight e none) (fun _ s₃ =>
    wpAny (model X.prog X.w) X.A (handleBy e X.env [.ExceptHandler (some (.Name x np)) (some n) (b₀ :: suite) pos']) (SP X pins D) X.xe s₃) X.xe s₂) X.xe s₁) (fun u s' xx => ?_) PassesOwn.looking).run [] s σ H D (I.toTry _) h
  · refine wpAny_mono bodyRun (fun f s1 hsp => ?_) (fun e s1 he => he)
    cases f with
    | next =>
      obtain ⟨σ', H', J', q⟩ := hsp
      exact wpAny_execs_nil ⟨σ', H', J'.ofTry ok, q⟩
    | brk => obtain ⟨σ', H', J', q⟩ := hsp; exact ⟨σ', H', J'.ofTry ok, q⟩
    | cont => obtain ⟨σ', H', J', q⟩ := hsp; exact ⟨σ', H', J'.ofTry ok, q⟩
    | ret u => obtain ⟨v, σ', H', J', r, q⟩ := hsp; exact ⟨v, σ', H', J'.ofTry ok, r, q⟩
  · obtain ⟨a, B, sI, pins', σ', H', cls, d, rfl, J', nb, up, sky, na, os, ag, hx1, hyes⟩ := xx
    have J : Inv X pins σ' H' sI := J'.ofTry ok
    have sky' : Sky B (X.env :: X.outer) a (Zc cls d) X.env.locals s'.heap := by rw [← hs]; exact sky
    show wpAny (model X.prog X.w) X.A (noteFrame (.ref a) X.env) _ _ _
    refine Sky.land Zc.steady hfr hf sky' fun h3 fl3 up3 => ?_
    have J3 : Inv X pins σ' H' { s' with heap := h3 } := J.landed nb fl3.1 (up.trans up3) os ag
    obtain ⟨oe3, vs3, he3, hz3, hd3⟩ := fl3.there
    have nfr : a ∉ frs (X.env :: X.outer) := fun hm => by
      obtain ⟨_, o', e', hnf⟩ := fl3.2.2.1.mem hm
      rw [he3] at e'
      cases e'
      exact hnf _ hd3
    have nL : a ≠ X.env.locals := fun z => nfr (List.mem_filterMap.mpr ⟨X.env, List.mem_cons_self, by rw [hf, z]⟩)
    have nF : a ∉ X.fs := fun hm => by
      obtain ⟨e, he, q⟩ := List.mem_filterMap.mp hm
      exact nfr (List.mem_filterMap.mpr ⟨e, List.mem_cons_of_mem _ he, q⟩)
    -- it is new since the entry
    have nI : sI.heap.get? a = none := by
      cases e : sI.heap.get? a with
      | none => rfl
      | some o =>
        have w := nb a o e (by rw [show (X.tr (X.pn ++ pins) _).stack = X.stack from rfl, hs]; exact nfr)
        rw [fl3.2.1] at w
        cases w
    have n0 : X.s_0.heap.get? a = none := by
      cases e : X.s_0.heap.get? a with
      | none => rfl
      | some o =>
        obtain ⟨o', w⟩ := J.base.there a o e (by rw [hex]; exact fun z => nomatch z)
        rw [nI] at w
        cases w
    have np' : ∀ p ∈ X.pn ++ pins, p.1 ≠ a := fun p hp z => by
      obtain ⟨w, _⟩ := J.pin p hp
      rw [z, nI] at w
      cases w
    have S3 := J3.suite he3 hd3 na nL nF
    refine wpAny_handleBy_cons (codeAny_handlers_test ?_) (by intro q; cases q)
    have LT : PySem.W.Looks (model X.prog X.w) h3 (typeOf (.ref a)) cls := fun A Q E s k q => wpAny_typeOf_ref (k _ _ he3) (by rw [hz3.1]; exact q)
    have LM := PySem.W.exm_one (M := model X.prog X.w) (J3.kIn) LT hx1
    have test : ∀ {Q : Value → Shared → Prop} {E : Value → Shared → Prop}, Q c { s' with heap := h3 } → wpAny (model X.prog X.w) (X.A.mark (some (.ref a))) (eval (.Name x np) X.env) Q E { s' with heap := h3 } := fun {Q E} q => by
      obtain ⟨hg, hdbg, hm | ⟨hm, hv, hnn⟩⟩ := hc
      · exact ld_glob (X := X.suite a ((a, oe3) :: (X.pn ++ pins))) S3 hg hm q hdbg
      · exact ld_blt (X := X.suite a ((a, oe3) :: (X.pn ++ pins))) S3 hg hm hv q hnn hdbg
    refine test (LM.here ?_)
    refine codeAny_handlers_suite_as ?_
    refine HandSPX.lands_againZ fl3 fun h4 fl4 up4 => ?_
    have J4 : Inv X pins σ' H' { s' with heap := h4 } := J.landed nb fl4.1 ((up.trans up3).trans up4) os ag
    obtain ⟨oe4, vs4, he4, hz4, hd4⟩ := fl4.there
    have S4 := J4.suite he4 hd4 na nL nF
    refine store_ok (X := X.suite a ((a, oe4) :: (X.pn ++ pins))) (v := .ref a) S4 hN hi hloc rfl (fun s5 S5 => ?_) (.inr hln)
    refine wpAny_mono ((hsu a oe4 cls d (X.pn ++ pins) hz4 ⟨_, hd4⟩).run [] s5 _ H' _ S5 (hyes a na)) (fun f s6 hsp => ?_) (fun _ _ z => False.elim z)
    cases f with
    | next =>
      obtain ⟨σ6, H6, S6, n6, q6⟩ := hsp
      -- out of the suite, the exception still pinned; then tracked
      have P6 : Inv X ((a, oe4) :: pins) σ6 H6 s6 := ⟨ok, S6.os, S6.bare, S6.base, S6.loc, S6.cell, S6.free, S6.freeC, fun p hp => S6.pin p (List.mem_append_left _ (by
        rcases List.mem_append.mp hp with z | z
        · exact List.mem_cons_of_mem _ (List.mem_append_left _ z)
        · rcases List.mem_cons.mp z with z | z
          · rw [z]; exact List.mem_cons_self
          · exact List.mem_cons_of_mem _ (List.mem_append_right _ z))), S6.hok, S6.len⟩
      refine gone_ok P6 hN hi hln fun s7 J7 => ?_
      have at7 : s7.heap.get? a = some oe4 := (J7.pin (a, oe4) (List.mem_append_right _ List.mem_cons_self)).1
      exact ⟨_, _, inv_track J7 np' n0 (xog_ok at7 hz4 ⟨_, hd4⟩), q6 oe4⟩
    | brk => obtain ⟨σ6, H6, S6, z⟩ := hsp; exact False.elim z
    | cont => obtain ⟨σ6, H6, S6, z⟩ := hsp; exact False.elim z
    | ret u => obtain ⟨v6, σ6, H6, S6, r6, z⟩ := hsp; exact False.elim z
end
end VL

namespace VL
open PySem PySem.Spec PyProof.Rows L2 LamX
section
variable {X : Cx} {J : Jc} {e : Expr} {m : ME} {pos : Pos}
theorem ERep.unset {σ : St} {H : Hp} {env : En} {i : Nat} {o : Option V} (r : ERep X J σ H env) : ERep X J (σ.set i o) H (env.set i none) := by
  refine r.re id (by rw [List.length_set, List.length_set, r.len]) (fun j sl h => ?_) fun a b h _ _ => h
  by_cases hj : i = j
  · subst hj
    by_cases hl : i < env.length
    · rw [List.getElem?_set_self hl] at h; cases h
    · rw [List.getElem?_eq_none (by rw [List.length_set]; exact Nat.le_of_not_lt hl)] at h; cases h
  · rw [List.getElem?_set_ne hj] at h
    exact ⟨h, by rw [List.getElem?_set_ne hj]; rfl⟩
/-- b = e, and an exception of the classes exs kept in c -/
def sHeard (jb jc je : Nat) (exs : List Str) (m : ME) : MS := fun env p => match m (vwOf env) p with
  | .ok d p1 => .ok (.nx, setE env jb (.p d)) p1
  | .err x v p1 => if exs.contains x && decide (je < env.length) then .ok (.nx, setE (env.set je none) jc (.p (.exc x v))) p1 else .bad
  | .bad => .bad
theorem vs_heard {jb jc je : Nat} {xb xc xe x : Str} {CL : Addr} {exs : List Str} {p1 p2 p3 p4 p5 p6 p7 p8 : Pos} (hN : X.N.Nodup) (hm : ∀ (W : WX) (pn : List (Addr × Obj)) (xe : Value → Shared → Prop), Takes (X.tr pn xe) W → VE (X.tr pn xe) { J with W := W } e m)
    (hcl : Names X x (.ref CL)) (hexs : ∀ y C, exs.contains y = true → J.g.mg y = some (.ref C) → PySem.W.exmOne X.K (.ref C) (.ref CL) = some true) (hij : je ≠ jc)
    (hs : X.stack = X.env :: X.outer := by rfl) (hf : X.env.frame = some X.env.locals := by rfl) (hex : X.ex = [] := by rfl)
    (hib : X.N[jb]? = some xb := by rfl) (hic : X.N[jc]? = some xc := by rfl) (hie : X.N[je]? = some xe := by rfl) (hlb : X.env.scope.names.lookup xb = some .local := by rfl) (hlc : X.env.scope.names.lookup xc = some .local := by rfl) (hle : X.env.kindOf xe = some .local := by rfl)
    (hde : (xe == ("__debug__" : Str)) = false := by decide) (hcde : (xe == ("__classdict__" : Str)) = false := by decide)
    (hsw : swapsWith e (some (.Name xb p1)) p2.line X.env = pure false := by rfl) (hsw2 : swapsWith (.Name xe p5) (some (.Name xc p4)) p6.line X.env = pure false := by rfl) :
    VS X J (.Try [.Assign [.Name xb p1] e p2] [.ExceptHandler (some (.Name x p3)) (some xe) [.Assign [.Name xc p4] (.Name xe p5) p6] p7] [] [] p8) (sHeard jb jc je exs m) := by
  refine ps_imp (ps_kept (i := je) (c := .ref CL) (tb := fun W => tAsg (tV { J with W := W } m) (gName jb)) (ts := fun _ _ _ => tAsg (tVar je) (gName jc)) hs hf hex hN hie hle hcl
    (fun W pn xe tk po => pss_one (ps_set hN hib (.inl hlb) (hm W pn xe tk) hsw (.inr hlb)))
    (fun a oe cls d pn _ _ => pss_one (ps_set hN hic (.inl hlc) (pe_var hie (.inl hle) hde hcde) hsw2 (.inr hlc)))) fun Dn σ H ⟨env, p, r, s, q⟩ => ?_
  refine ⟨vwOf env, p, ⟨r.vrep.len, r.vrep.at_⟩, s, ?_⟩
  unfold sHeard at q
  cases e1 : m (vwOf env) p with
  | bad => rw [e1] at q; exact q.elim
  | ok d p1 =>
    rw [e1] at q
    exact fun H1 v x1 s1 r1 => q _ _ ((r.ext1 x1).set r1) s1 x1.hard
  | err y dv p1 =>
    rw [e1] at q
    simp only at q
    split at q
    · rename_i hc
      simp only [Bool.and_eq_true, decide_eq_true_eq] at hc
      obtain ⟨hc, hle'⟩ := hc
      intro H1 C dd w x1 s1 hmg hd rw1
      refine ⟨hexs y C hc hmg, fun a ha => ?_⟩
      have hl : je < σ.length := by
        rw [← r.len]
        exact hle'
      refine ⟨.ref a, List.getElem?_set_self hl, ha, fun oe => ?_⟩
      have gr : Grow H1 (upd H1 a (.frz oe (XOg (.ref C) (some dd) a))) := Grow.upd ha
      have x2 : Ext J.g H (upd H1 a (.frz oe (XOg (.ref C) (some dd) a))) := x1.trans gr.ext
      have rr : ERep X J ((σ.set je none).set jc (some (.ref a))) (upd H1 a (.frz oe (XOg (.ref C) (some dd) a))) (setE (env.set je none) jc (.p (.exc y dv))) :=
        ((r.ext1 x2).unset (i := je) (o := none)).set (v := .ref a) (d := .exc y dv) (.exc (o := oe) (d := dd) upd_same hmg (gr _ _ hd) (J.ext (σ := σ) gr.ext rw1))
      have e2 : (((σ.set je (some (V.ref a))).set jc (some (V.ref a))).set je none) = (σ.set je none).set jc (some (V.ref a)) := by
        rw [List.set_comm _ _ (Ne.symm hij), List.set_set]
      show Dn.nx (((σ.set je (some (V.ref a))).set jc (some (V.ref a))).set je none) _
      rw [e2]
      exact q _ _ rr (s1.grow gr) x2.hard
    · exact q.elim
end
end VL

namespace VL
open PySem PySem.Spec PySem.Calls PyProof.Rows L2 LamX PySem.W
section
variable {prog : Program} {w : World} {A : Around} {E : Value → Shared → Prop} {s : Shared} {K : Frag} {x D : Addr} {ox : Obj} {odo : Option Obj}
/-- an exception's class by name, its dict given -/
theorem exc_cls {Q : Option Value → Shared → Prop} (C : ExcC K D) (hf : findObj K D odo "__class__" = some (.bind (.builtin "getset_descriptor.__get__") (.builtin "object.__class__"))) (X : K.In s.heap) (I : InstAt s.heap x ox D odo)
    (h : Q (some (.ref D)) { s with toks := s.toks + 1 }) : wpAny (model prog w) A (getAttr? (.ref x) "__class__") Q E s := by
  obtain ⟨hp, g, d, t, os⟩ := s
  have ty := I.type (M := model prog w)
  have isB : Looks (model prog w) hp (isInstance (.ref x) (.type "BaseException")) true := ty.andThen (looks_subIn X C.hs)
  have ne : (Value.builtin "BaseException.__getattribute__" == Value.builtin "object.__getattribute__") = false := by decide +kernel
  unfold getAttr? getAttrBy? getAttrBy
  refine wpAny_bind (wpAny_mkText (wpAny_bind (wpAny_attempt (wpAny_holding (wpAny_bind (ty.at (wpAny_bind ((looks_findIn (M := model prog w) X C.hg).at ?_))))))))
  show wpAny _ _ (if (onTheHeap (Value.ref D) && Value.builtin "BaseException.__getattribute__" == Value.builtin "object.__getattribute__") = true then _ else _) _ _ _
  rw [show (onTheHeap (Value.ref D) && Value.builtin "BaseException.__getattribute__" == Value.builtin "object.__getattribute__") = false by rw [ne]; rfl, if_neg Bool.false_ne_true]
  unfold getAttrByItsOwn hookBefore
  refine wpAny_bind ?_
  rw [if_pos (show onTheHeap (Value.ref D) = true from rfl)]
  refine (looks_findIn (M := model prog w) X C.hk).at ?_
  refine wpAny_bind (wpAny_attempt (wpAny_holding ?_))
  unfold callGetattribute
  rw [show (false && onTheHeap (Value.builtin "BaseException.__getattribute__")) = false from rfl, if_neg Bool.false_ne_true]
  unfold boundAndCalled
  rw [PySem.F.excAttr_ValueError.ga.bind (.ref x)]
  refine wpAny_bind (wpAny_pure ?_)
  show wpAny _ _ (call (.builtin "BaseException.__getattribute__") [.ref x, .str "__class__" t]) _ _ _
  refine wpAny_call (codeAny_call_builtin PySem.F.excAttr_ValueError.ga.plain PySem.F.entry_bexc_ga ?_)
  refine @check_slot (model prog w) _ _ ⟨hp, g, d, t + 1, os⟩ "BaseException.__getattribute__" "BaseException" "__getattribute__" (.ref x) [.str "__class__" t] [] _ (by decide +kernel) (by decide +kernel) isB (PySem.F.args_bexc_ga (.ref x) (.str "__class__" t)) ?_
  unfold Builtin.«object.__getattribute__»
  refine wpAny_bind (wpAny_of_eq (a := ((Value.ref x : Value), [Value.str "__class__" t])) (by first | rfl | (simp only [slotArgs]; rfl)) ?_)
  refine wpAny_bind (wpAny_pure (wpAny_bind (ty.at (wpAny_bind ((looks_find (M := model prog w) X I hf).at ?_)))))
  show wpAny _ _ (holding [Value.builtin "object.__class__"] (call (.builtin "getset_descriptor.__get__") [.builtin "object.__class__", .ref x, .ref D]) >>= ret) _ _ _
  refine wpAny_bind (wpAny_holding (wpAny_call (class_get (s := ⟨hp, g, d, t + 1, os⟩) (ox := ox) (od := odo) X I C.hm ?_)))
  refine wpAny_pure ?_
  show wpAny _ _ (handedOut (.ref D)) _ _ _
  rw [handedOut_of (v := .ref D) rfl]
  first
    | exact wpAny_pure (wpAny_pure h)
    | exact wpAny_pure h
    | exact wpAny_pure (wpAny_bind (wpAny_pure (wpAny_pure h)))
theorem kitx_excD (C : ExcC K D) : KitX K (.ref x) (.ref D) (fun h => ∃ od, InstAt h x ox D (some od)) where
  ty := fun _ _ _ ⟨_, I⟩ => I.type
  it := fun _ _ X _ => by
    obtain ⟨cdD, hcD, _⟩ := any_some C.hd
    unfold clsIn at hcD
    split at hcD
    · rename_i c' d' cd' sl' ho
      intro A' Q' E' s' k q
      unfold isType loadHead
      exact wpAny_bind (wpAny_loadPart (k _ _ (X _ _ ho)) (wpAny_pure q))
    · cases hcD
  ne := fun h tp dd its n sl X htp => by
    obtain ⟨cdD, hcD, _⟩ := any_some C.hd
    refine Bool.eq_false_iff.mpr fun q => ?_
    have e : D = tp := Value.ref.inj (beq_iff_eq.mp q)
    subst e
    unfold clsIn at hcD
    split at hcD
    · rename_i c' d' cd' sl' ho
      have z := (X _ _ ho).symm.trans htp
      cases z
    · cases hcD
  ca := fun X ⟨od, I⟩ k => exc_cls C (findObj_data (by obtain ⟨cd, hc, _⟩ := any_some C.hd; rw [hc]; rfl) C.ha C.hn C.ht) X I k
end
section
variable {X : Cx} {J : Jc} {k : Nat} {e : Expr} {m : ME} {pos p p2 : Pos}
/-- what an exception's object is, where it is held -/
theorem exc_inst {pins : List (Addr × Obj)} {σ : St} {H : Hp} {s : Shared} {a C d : Addr} {o : Obj} {fs : List (Str × V)} (I : Inv X pins σ H s) (h1 : H a = some (.frz o (XO C d a))) (h2 : H d = some (.xd fs)) :
    ∃ od mA, InstAt s.heap a o C (some od) ∧ s.heap.Ns1 d mA ∧ (∀ f, RelO (fs.lookup f) (mA f)) ∧ ∀ n, lookIn n od = some (mA n) := by
  obtain ⟨g1, ⟨oe, g2, hz, vs, hd⟩, _⟩ := I.hok a _ h1
  rw [g1] at g2
  cases g2
  obtain ⟨mA, hns, hr⟩ := I.hok d _ h2
  obtain ⟨od, ho, hl⟩ := lookIn_ns hns
  exact ⟨od, mA, ⟨g1, hz.1, by unfold notCls; rw [hd] <;> rfl, by rw [hz.2]; exact ho⟩, hns, hr, hl⟩
/-- what is known of the exceptions' classes, and of the class c that is asked for -/
structure IsC (g : Gx) (exs : List Str) (c : Str) (sub : Str → Bool) : Prop where
  ex : ∃ CL : Addr, g.mg c = some (.ref CL) ∧ kitOne g.K (.type "NoneType") (.ref CL) = some false ∧ ∀ x D, exs.contains x = true → g.mg x = some (.ref D) → ExcC g.K D ∧ kitOne g.K (.ref D) (.ref CL) = some (sub x)
def dIsE (exs : List Str) (sub : Str → Bool) : D → Option D
  | .non => some (.bl false)
  | .exc x _ => if exs.contains x then some (.bl (sub x)) else none
  | _ => none
def rIsE2 (K : PySem.W.Frag) (CL : Addr) : List V → Hp → VK → Prop := fun xs H Q => ∃ (a D d : Addr) (o : Obj) (fs : List (Str × V)) (b : Bool), xs = [.ref a, .ref CL] ∧ H a = some (.frz o (XO D d a)) ∧ H d = some (.xd fs) ∧ ExcC K D ∧ kitOne K (.ref D) (.ref CL) = some b ∧ Q (.bl b) H
theorem call_isE2 {CL : Addr} : CallR X (.builtin "isinstance") (rIsE2 X.K CL) := by
  intro pins s σ H xs us Q I r h
  obtain ⟨a, D, d, o, fs, b, rfl, h1, h2, C, e, q⟩ := h
  obtain ⟨u1, u2, rfl, r1, r2⟩ := vals2 r
  cases r1
  cases r2
  obtain ⟨od, mA, J, _⟩ := exc_inst I h1 h2
  exact kia_one (kitx_excD C) I.kIn ⟨od, J⟩ e (fun z => nomatch z) fun tk => ⟨.bl b, H, I.kept (t' := tk) fun _ _ z => z, rfl, q⟩
theorem x_isE {g : Gx} {x : Str} {exs : List Str} {sub : Str → Bool} (F : Fx X J k) (C : IsC g exs x sub) (h : VE X J e m) (eg : J.g = g := by rfl) (hg : Gl X "isinstance" := by rfl) (hgT : Gl X x := by rfl) (hdb : (x == ("__debug__" : Str)) = false := by decide)
    (he : starEach [e, .Name x p2] X.env = (false, eval e X.env) :: starEach [.Name x p2] X.env := by rfl) (he2 : starEach [.Name x p2] X.env = (false, eval (.Name x p2) X.env) :: starEach [] X.env := by rfl) (hpl : (backTo pos (starEach [.Name x p2] X.env)).any (·.1) = false := by rfl) :
    VE X J (.Call (.Name "isinstance" p) [e, .Name x p2] [] pos) (m1 (dIsE exs sub) m) := by
  subst eg
  obtain ⟨CL, hc, hn, hx⟩ := C.ex
  rw [F.F.mg] at hc
  rw [F.K] at hn
  refine pe_imp (pe_callB (call_isi.or (call_isE2 (CL := CL))) hg F.bt.isi (by decide +kernel) (pa_cons h (pa_cons (pe_glob (v := .ref CL) hgT hc rfl hdb) pa_nil he2) he) (by decide) (by decide) he hpl) fun σ H Q ⟨vw, p0, rr, s, q⟩ => ⟨vw, p0, rr, s, ?_⟩
  unfold m1 at q
  cases e1 : m vw p0 with
  | bad => rw [e1] at q; exact q.elim
  | err y dv p1 => rw [e1] at q; exact q
  | ok d p1 =>
    rw [e1] at q
    intro H1 v x1 s1 rv
    cases e2 : dIsE exs sub d with
    | none => simp only [Res.bind, e2, ofO] at q; exact q.elim
    | some z =>
      simp only [Res.bind, e2, ofO] at q
      unfold dIsE at e2
      split at e2
      · cases e2
        cases rv
        exact .inl ⟨.non, .ref CL, .type "NoneType", .ref CL, false, rfl, .own CL, .base .non, hn, q H1 _ x1 s1 (.bl false)⟩
      · split at e2
        · rename_i y dv hy
          cases e2
          cases rv with
          | @exc a D d _ w _ o g1 g2 g3 g4 =>
            obtain ⟨hE, hk⟩ := hx _ _ hy g2
            rw [F.K] at hE hk
            exact .inr ⟨a, D, d, o, _, _, rfl, g1, g3, hE, hk, q H1 _ x1 s1 (.bl _)⟩
        · cases e2
      · cases e2
/-- what an exception holds -/
def dVal (exs : List Str) : D → Option D
  | .exc x v => if exs.contains x then some v else none
  | _ => none
structure ValC (g : Gx) (exs : List Str) : Prop where
  ex : ∀ x D, exs.contains x = true → g.mg x = some (.ref D) → XfC g.K D ∧ findIn g.K (.ref D) "value" = some none
theorem x_val {g : Gx} {exs : List Str} (F : Fx X J k) (C : ValC g exs) (h : VE X J e m) (eg : J.g = g := by rfl) (hb : attributeBase e "value" X.env (eval e X.env) = eval e X.env := by rfl) : VE X J (.Attribute e "value" pos) (m1 (dVal exs) m) := by
  subst eg
  refine ⟨fun pins s σ H Q I ⟨vw, p0, rr, st, q⟩ => ?_⟩
  refine attr_of hb (thn (h.run pins s σ H (fun v H1 => ∃ d z, J.R σ H1 v d ∧ dVal exs d = some z ∧ (J.R σ H1 v d → ∀ v', J.R σ H1 v' z → Q v' H1)) I ⟨vw, p0, rr, st, ?_⟩) fun u s1 ⟨v, H1, I1, r1, d, z, rv, ez, q1⟩ => ?_)
  · unfold m1 at q
    cases e1 : m vw p0 with
    | bad => rw [e1] at q; exact q.elim
    | err y dv p1 => rw [e1] at q; exact q
    | ok d p1 =>
      rw [e1] at q
      intro H1 v x1 s1 rv
      cases e2 : dVal exs d with
      | none => simp only [Res.bind, e2, ofO] at q; exact q.elim
      | some z =>
        simp only [Res.bind, e2, ofO] at q
        exact ⟨d, z, rv, e2, fun _ v' r' => q H1 v' x1 s1 r'⟩
  · have q2 := q1 rv
    unfold dVal at ez
    split at ez
    · split at ez
      · rename_i y dv hy
        cases ez
        cases rv with
        | @exc a D d _ w _ o g1 g2 g3 g4 =>
          obtain rfl : u = Value.ref a := r1
          obtain ⟨T, hno⟩ := C.ex _ _ hy g2
          rw [F.K] at T hno
          obtain ⟨od, mA, J1, hns, hr, hl⟩ := exc_inst I1 g1 g3
          obtain ⟨u', hu, ru⟩ := RelO.some_of (v := w) (o := mA "value") (hr "value")
          exact HandSPX.exc_get I1.kIn J1 T.ga T.gg T.exC (findObj_own T.hdC hno rfl (by rw [hl, hu])) (handed_of ru) ⟨w, H1, I1.tok _, ru, q2 w g4⟩
      · cases ez
    · cases ez
end
end VL

namespace VL
open PySem PySem.Spec PyProof.Rows L2 LamX
/-! ### a comprehension over closures: its block is judged at the very state that it starts from -/
section
variable {X : Cx}
/-- the block at s3, H3: D the new list, W by the turn -/
def LcAt (X : Cx) (tg elt : Expr) (scope : Scope) (vs : List Nat) (σ : St) (Q : VK) (I : It) (DD : Addr) (s3 : Shared) (H3 : Hp) (ce : Env) (fp : List Addr) : Prop :=
  ∃ (g : TG) (te : TE) (W : Nat → Nat → Hp → Prop), PG (X.blk s3 H3 scope ce fp) tg g ∧ PE (X.blk s3 H3 scope ce fp) elt te ∧ (∃ m, W 0 m H3) ∧ ∀ i m H, W i m H →
    (I.stop i H ∧ Q (.ref DD) H) ∨ (I.go i H ∧ ∃ Nx : Hp → Prop, (∀ H', Nx H' → ∃ m', m' < m ∧ W (i + 1) m' H') ∧ ∀ x H', I.yld i H x H' → g x (wipe σ vs) H' fun σ2 H2 => wipe σ2 vs = wipe σ vs ∧ te σ2 H2 fun y H4 => ∃ acc, H4 DD = some (.lst acc) ∧ acc.length < sizeLine ∧ Nx (upd H4 DD (.lst (acc ++ [y]))))
theorem lc_at {pins : List (Addr × Obj)} {s : Shared} {σ : St} {H : Hp} {Q : VK} {elt tg iter : Expr} {scope : Scope} {own : List (Str × Nat)} {pos pos' : Pos} {wi : TI} {use : Option (Value → Sem Unit)} {Qf : Value → Shared → Prop}
    (hc : X.calm = true) (hN : X.N.Nodup) (I : Inv X pins σ H s) (hi : PI X tg iter wi) (ok : BlkOk X.N X.env.scope scope own) (hs : ∀ x, foldedSetIterable iter X.env x = pure x)
    (h : wi σ H fun It H1 => ∀ DD, H1 DD = none → ∀ (s3 : Shared) (C : Addr) (cl : List (Str × Addr)) (fp : List Addr), Inv X pins σ (upd H1 DD (.lst [])) s3 → (∀ b ∈ fp, ∀ v, ¬ s3.heap.IsCell b v) →
      LcAt X tg elt scope (own.map (·.2)) σ Q It DD s3 (upd H1 DD (.lst [])) (compEnvC scope cl C X.env) fp)
    (hRR : ∀ DD C s' m H', Inv X pins σ H' s' → Q (.ref DD) H' → s'.heap.Ns C m → FpOk X pins H' C → compPost (model X.prog X.w) X.A X.xe use Qf (.ref DD) C (.ok .next) s') :
    wpAny (model X.prog X.w) X.A (comprehension (.ListComp elt [⟨tg, iter, [], 0⟩] scope pos) scope X.env pos' (newList []) false (eval iter X.env) use) Qf X.xe s := by
  have hfree : ∀ y ∈ scope.names, y.2 = .free → ∃ c, X.env.cells.lookup y.1 = some c := fun y hy e => by
    rcases ok.free y hy e with k | k
    · exact I.ok.has _ (.inl k)
    · exact I.ok.has _ (.inr k)
  refine wpAny_comprehension_free (use := use) rfl hs (closure_ok hfree) ok.kind (fun y hy e => by rw [ok.uniq y hy, e])
    (thn (hi.run pins s σ H _ I h) fun xv s1 hx => thn hx fun itv s2 h2 => ?_)
  obtain ⟨it, fp, tn, J, H2, e, I2, T, st2, f2, q⟩ := h2
  subst e
  refine wpAny_newObj_type (newEnv_comp ?_) (by show 0 ≤ sizeLine; decide)
  -- the new list, then the block
  have hDn : H2 s2.heap.objs.size = none := I2.hok.fresh (Nat.le_refl _)
  generalize hs3 : ({ s2 with heap := s2.heap.push { cls := .type "list", data := .seq ([] : List Value).toArray } } : Shared) = s3
  have I3 : Inv X pins σ (upd H2 s2.heap.objs.size (.lst [])) s3 := by
    rw [← hs3]
    exact I2.laid (t' := s2.toks) (fun b o e => Heap.get?_push_of_some _ e) (Nat.le_refl _) ⟨Nat.zero_le _, [], 0, .nil, Heap.get?_push_size _ rfl⟩
  have h3 : s3.heap = s2.heap.push { cls := .type "list", data := .seq ([] : List Value).toArray } := by rw [← hs3]
  have k3 : ∀ b o, s2.heap.get? b = some o → s3.heap.get? b = some o := fun b o e => by rw [h3]; exact Heap.get?_push_of_some _ e
  have lt2 : ∀ b ∈ fp, b < s2.heap.objs.size := fun b hb => by
    obtain ⟨o, e, _⟩ := T.obj _ _ st2 b hb
    exact Heap.lt_size e
  have f3 : ∀ b ∈ fp, FpOk X pins (upd H2 s2.heap.objs.size (.lst [])) b ∧ b < s3.heap.objs.size := fun b hb => by
    have hlt := lt2 b hb
    refine ⟨⟨?_, (f2 b hb).2⟩, by rw [h3, Heap.size_push]; exact Nat.lt_succ_of_lt hlt⟩
    rw [upd_ne (Nat.ne_of_lt hlt)]
    exact (f2 b hb).1
  have st3 : tn 0 s3.heap := T.keep _ _ _ st2 fun b _ o e => k3 b o e
  have ncell : ∀ b ∈ fp, ∀ v, ¬ s3.heap.IsCell b v := fun b hb v ⟨o, ho, hd⟩ => by
    obtain ⟨o', e', n⟩ := T.obj _ _ st3 b hb
    rw [ho] at e'
    cases e'
    exact n v hd
  have I4 := block_start I3 ok hN f3
  obtain ⟨g, te, W, pg, pe, ⟨m0, w0⟩, turn⟩ := q s2.heap.objs.size hDn s3 s3.heap.objs.size (cellsFrom (s3.heap.objs.size + 1) scope.names (cloFrom X.env.cells scope.names [])) fp I3 ncell
  show codeAny _ _ (.compStart (.ListComp elt [⟨tg, iter, [], 0⟩] scope pos) 0 (.ref it) (.ref s2.heap.objs.size) (compEnvC scope (cellsFrom (s3.heap.objs.size + 1) scope.names (cloFrom X.env.cells scope.names [])) s3.heap.objs.size X.env)) (compPost (model X.prog X.w) X.A X.xe use Qf (.ref s2.heap.objs.size) s3.heap.objs.size) { s3 with heap := pushCells (s3.heap.push { cls := .type "dict", data := .dict #[] }) scope.names }
  generalize s2.heap.objs.size = DD at *
  generalize hce : compEnvC scope (cellsFrom (s3.heap.objs.size + 1) scope.names (cloFrom X.env.cells scope.names [])) s3.heap.objs.size X.env = ce at I4 pg pe ⊢
  have cL : ce.locals = s3.heap.objs.size := by subst hce; rfl
  generalize hH3 : upd H2 DD (.lst []) = H3 at I3 I4 pg pe w0 f3
  generalize hs4 : ({ s3 with heap := pushCells (s3.heap.push { cls := .type "dict", data := .dict #[] }) scope.names } : Shared) = s4 at I4 ⊢
  have st4 : tn 0 s4.heap := T.keep _ _ _ st3 fun b _ o e => by rw [← hs4]; exact pushCells_keeps _ _ _ _ (Heap.get?_push_of_some _ e)
  have fpB : ∀ {σ' : St} {H' : Hp} {s' : Shared}, Inv (X.blk s3 H3 scope ce fp) [] σ' H' s' → (∀ b ∈ fp, H' b = none) → ∀ b ∈ fp, FpOk (X.blk s3 H3 scope ce fp) [] H' b := fun {σ' H' s'} I' hn b hb =>
    ⟨hn b hb, (I'.ok.exf b hb).1, I'.ok.exfs b hb, .inl hb, fun x c e => (I'.ok.exf b hb).2 x c e, fun p hp => absurd (show p ∈ ([] : List (Addr × Obj)) ++ [] from hp) (by simp)⟩
  have loop : codeAny (model X.prog X.w) X.A (.compLoop (.ListComp elt [⟨tg, iter, [], 0⟩] scope pos) 0 (.ref it) (.ref DD) ce) (compPost (model X.prog X.w) X.A X.xe use Qf (.ref DD) s3.heap.objs.size) s4 := by
    refine compLoop_any (fun n s' => ∃ i H', Inv (X.blk s3 H3 scope ce fp) [] (wipe σ (own.map (·.2))) H' s' ∧ tn i s'.heap ∧ (∀ b ∈ fp, H' b = none) ∧ W i n H') ?_ m0 ⟨0, H3, I4, st4, fun b hb => (f3 b hb).1.1, w0⟩
    rintro n s5 ⟨i, H5, I5, st5, n5, w5⟩
    rcases turn i n H5 w5 with ⟨stop, qq⟩ | ⟨go, Nx, hNx, step⟩
    · -- the end: back in the def's frame
      refine thnF (T.done (X.blk s3 H3 scope ce fp) rfl rfl rfl hc i [] s5 _ H5 (fun _ _ => False) I5 (fpB I5 n5) st5 stop) fun r s6 ⟨hr, I6⟩ => ?_
      subst hr
      have I7 : Inv X pins σ H5 s6 := I3.call' (ch := fp) I6.os I6.base I6.hok I6.bare fun b hb => ⟨(f3 b hb).1.2.2.2.1, (f3 b hb).1.2.1, (f3 b hb).1.2.2.2.2.1, (f3 b hb).1.2.2.2.2.2⟩
      have nC : H5 s3.heap.objs.size = none := by
        have z : H5 ce.locals = none := I6.free
        rw [cL] at z
        exact z
      obtain ⟨m, hn, _⟩ := I6.loc
      have hn : s6.heap.Ns ce.locals m := hn
      rw [cL] at hn
      exact hRR DD s3.heap.objs.size s6 m H5 I7 qq hn (I3.fpOk (Nat.le_refl _) nC)
    · -- a turn
      refine thnF (T.item (X.blk s3 H3 scope ce fp) rfl rfl rfl hc i [] s5 _ H5 (fun _ _ => False) I5 (fpB I5 n5) st5 go) fun r s6 ⟨u, hr, h6⟩ => ?_
      subst hr
      refine thnF h6 fun _ s7 ⟨x, H7, I7, r7, y7, st7, n7⟩ => ?_
      refine thnF (pg.run _ s7 _ H7 x u _ (I7.pinned (fpB I7 n7) (T.obj _ _ st7)) r7 (step x H7 y7)) fun _ s8 ⟨σ8, H8, I8, hw8, q8⟩ => ?_
      refine thnF ((pts_nil (X := X.blk s3 H3 scope ce fp)).run _ s8 σ8 H8 (fun b H9 => b = true ∧ H9 = H8) I8 ⟨rfl, rfl⟩) fun b s9 ⟨H9, I9, eb, eH⟩ => ?_
      subst eb eH
      have fin : ∀ {s' : Shared} {H' : Hp}, Inv (X.blk s3 H3 scope ce fp) ([] ++ pinsAt fp s7.heap) σ8 H' s' → Nx H' → ∃ m, m < n ∧ ∃ i H', Inv (X.blk s3 H3 scope ce fp) [] (wipe σ (own.map (·.2))) H' s' ∧ tn i s'.heap ∧ (∀ b ∈ fp, H' b = none) ∧ W i m H' := fun {s' H'} I' nx => by
        obtain ⟨m', hm, w'⟩ := hNx H' nx
        have pin' : ∀ b ∈ fp, ∀ o, s7.heap.get? b = some o → s'.heap.get? b = some o ∧ H' b = none := fun b hb o e =>
          let z := I'.pin (b, o) (List.mem_append_right _ (List.mem_append_right _ (mem_pinsAt hb e)))
          ⟨z.1, z.2.1⟩
        refine ⟨m', hm, i + 1, H', (I'.unpinned (pins := [])).weak (by rw [← hw8, wipe_length]) (fun j v e => ?_), T.keep _ _ _ st7 fun b hb o e => (pin' b hb o e).1, fun b hb => ?_, w'⟩
        · rw [← hw8] at e
          exact (wipe_some e).1
        · obtain ⟨o, e, _⟩ := T.obj _ _ st7 b hb
          exact (pin' b hb o e).2
      simp only [if_true]
      refine thnF (pe.run _ s9 σ8 H9 _ I9 q8) fun z s10 ⟨yv, H10, I10, r10, acc, hD10, hz10, nx⟩ => ?_
      exact app_ok (X := X.blk s3 H3 scope ce fp) I10 hD10 hz10 r10 fun s11 I11 => fin I11 nx
  exact codeAny_compStart_list loop (T.self X.A 0 _ _ _ st4 loop)
end
end VL

namespace VL
open PySem PySem.Spec PyProof.Rows L2 LamX
section
variable {X : Cx} {pins : List (Addr × Obj)} {σ : St} {H H' : Hp} {s : Shared} {g : Gx} {lams : Lams} {J : Jc}
/-- as capD_rep, the value told of a later heap -/
theorem capD_at {caps : CapT} {vw : Vw} (hco : J.co H' = coM lams X H') (ct : CapTOk lams X caps) (hx : ExOk X) (I : Inv X pins σ H s) (r : VRep J σ H vw) (e1 : Ext1 H H') {v : V} {d d' : D} (rv : J.R σ H' v d) (e : capD caps vw d = some d') :
    Rep J.g (coS lams s.heap H (frs X.stack) H') H' v d' := by
  have plain : (if d.pl then some d else none) = some d' → Rep J.g (coS lams s.heap H (frs X.stack) H') H' v d' := fun h => by
    split at h
    · rename_i hp
      cases h
      exact Rep.pl rv hp
    · cases h
  cases d with
  | own i =>
    unfold capD at e
    simp only at e
    split at e
    · rename_i js hj
      cases e2 : getAll vw js with
      | none => rw [e2] at e; cases e
      | some ds =>
        rw [e2] at e
        cases e
        obtain ⟨ws, h1, h2⟩ := getAll_rep r e2
        cases rv with
        | own ho =>
          rw [hco] at ho
          obtain ⟨L, l1, l2, l3⟩ := ho
          exact .clo ⟨L, _, l1, l3, CloK.made (ct i js L hj l1) I h1⟩ (h2.ext e1 coN_le)
    · cases e
  | clo i ds =>
    unfold capD at e
    simp only at e
    split at e
    · rename_i hp
      cases e
      cases rv with
      | clo hc hr =>
        rw [hco] at hc
        obtain ⟨L, cl, l1, l2, l3⟩ := hc
        exact .clo ⟨L, cl, l1, l2, l3.later hx I⟩ (RepL.pl hr hp)
    · cases e
  | _ => exact plain e
theorem capDs_get {caps : CapT} {vw : Vw} : ∀ {ds ds' : List D}, capDs caps vw ds = some ds' → ds'.length = ds.length ∧ ∀ (i : Nat) (d : D), ds[i]? = some d → ∃ d' : D, ds'[i]? = some d' ∧ capD caps vw d = some d'
  | [], ds', h => by cases h; exact ⟨rfl, fun i d h => by simp at h⟩
  | d :: ds, ds', h => by
    unfold capDs at h
    split at h
    · rename_i d' ds'' h1 h2
      cases h
      obtain ⟨hl, hg⟩ := capDs_get h2
      refine ⟨congrArg (· + 1) hl, fun i x hx => ?_⟩
      cases i with
      | zero => simp at hx; subst hx; exact ⟨d', rfl, h1⟩
      | succ i => simp at hx; simpa using hg i x hx
    · cases h
end
/-- the view without closures -/
def plV (vw : Vw) : Vw := vw.map fun o => match o with
  | some d => if d.pl then some d else none
  | none => none
def lcGoV (i : Nat) (me : ME) (vw : Vw) : List D → P3 → Res (List D)
  | [], p => .ok [] p
  | x :: xs, p => (strict (me (vw.set i (some x)) p)).bind fun y p2 => if y.pl then (lcGoV i me vw xs p2).bind fun ys p3 => .ok (y :: ys) p3 else .bad
def mLcV (caps : CapT) (vs : List Nat) (i : Nat) (mi : MA) (me : ME) : MA := fun vw p => (mi vw p).bind fun ds p1 => match capDs caps vw ds with
  | some ds' => lcGoV i me (wipeV (plV vw) vs) ds' p1
  | none => .bad
section
variable {X : Cx} {g : Gx} {lams : Lams} {W : WX} {k : Nat}
theorem Fx.blkV (F : Fx X (jV g lams X W) k) {s : Shared} {H : Hp} {scope : Scope} {ce : Env} {fp : List Addr} : Fx (X.blk s H scope ce fp) (jV g lams (X.blk s H scope ce fp) fun _ _ _ _ => False) k :=
  ⟨⟨F.F.K, F.F.mg, F.F.bs, fun u s' ⟨_, _, _, _, _, _, _, _, _, _, _, _, _, _, _, _, z⟩ => z.elim, F.F.room, F.F.gd, F.F.calm⟩, F.bt, F.nd⟩
theorem plV_rep {J J' : Jc} (hg : J'.g = J.g) {σ : St} {H : Hp} {vw : Vw} (r : VRep J σ H vw) : VRep J' σ H (plV vw) := by
  refine ⟨by unfold plV; rw [List.length_map]; exact r.len, fun i d h => ?_⟩
  unfold plV at h
  rw [List.getElem?_map] at h
  cases e : vw[i]? with
  | none => rw [e] at h; cases h
  | some o =>
    rw [e] at h
    cases o with
    | none => cases h
    | some d0 =>
      have h' : (if d0.pl then some d0 else none) = some d := by simpa using h
      split at h'
      · rename_i hp
        cases h'
        obtain ⟨v, e1, rv⟩ := r.at_ i d e
        refine ⟨v, e1, ?_⟩
        show Rep J'.g (J'.co H) H v d
        rw [hg]
        exact Rep.pl rv hp
      · cases h'
theorem vn_lcV {elt iter : Expr} {scope : Scope} {mi : MA} {me : ME} {i : Nat} {x : Str} {p pos : Pos} (own : List (Str × Nat)) (caps : CapT) (F : Fx X (jV g lams X W) k) (hi : VI X (jV g lams X W) (.Name x p) iter mi)
    (he : ∀ (s : Shared) (H : Hp) (C : Addr) (cl : List (Str × Addr)) (fp : List Addr), ExOk (X.blk s H scope (compEnvC scope cl C X.env) fp) → Fx (X.blk s H scope (compEnvC scope cl C X.env) fp) (jV g lams (X.blk s H scope (compEnvC scope cl C X.env) fp) fun _ _ _ _ => False) k →
      VE (X.blk s H scope (compEnvC scope cl C X.env) fp) (jV g lams (X.blk s H scope (compEnvC scope cl C X.env) fp) fun _ _ _ _ => False) elt me)
    (ct : CapTOk lams X caps) (hx : ExOk X := by intro b hb; cases hb) (hv : i ∈ own.map (·.2) := by decide) (hni : X.N[i]? = some x := by rfl) (ok : blkC X.N X.env.scope scope own = true := by kernel_rfl)
    (hl : ∀ (s : Shared) (H : Hp) (C : Addr) (cl : List (Str × Addr)) (fp : List Addr), Loc (X.blk s H scope (compEnvC scope cl C X.env) fp).env.scope x := by intros; first | exact Or.inl rfl | exact Or.inr rfl)
    (hfn : ∀ (s : Shared) (H : Hp) (C : Addr) (cl : List (Str × Addr)) (fp : List Addr), (X.blk s H scope (compEnvC scope cl C X.env) fp).fn x = true ∨ (X.blk s H scope (compEnvC scope cl C X.env) fp).env.scope.names.lookup x = some .local := by intros; first | exact .inl rfl | exact .inr rfl)
    (hs : ∀ x, foldedSetIterable iter X.env x = pure x := by intro _; rfl) :
    VN X (jV g lams X W) (.ListComp elt [⟨.Name x p, iter, [], 0⟩] scope pos) (mLcV caps (own.map (·.2)) i mi me) := by
  refine ⟨fun pins s σ H Q I ⟨vw, p0, rr, st, q⟩ => ?_⟩
  rw [eval_ListComp]
  refine lc_at (Q := Q) F.F.calm F.nd I hi (blkOk_by ok) hs ⟨vw, p0, rr, st, ?_⟩ fun DD C s' m H' I' q hn f => ⟨m, hn, fun h'' sb => ?_⟩
  · unfold mLcV at q
    cases e1 : mi vw p0 with
    | bad => rw [e1] at q; exact q.elim
    | err y dv p1 => rw [e1] at q; exact q
    | ok ds p1 =>
      rw [e1] at q
      simp only [Res.bind] at q
      cases e2 : capDs caps vw ds with
      | none => rw [e2] at q; exact q.elim
      | some ds' =>
        rw [e2] at q
        simp only at q
        obtain ⟨hlen, hget⟩ := capDs_get e2
        intro H1 It x1 s1 Fd hz DD hD s3 C cl fp I3 ncell
        have nP := pot_ne s1 hD
        have gD : Grow H1 (upd H1 DD (.lst [])) := Grow.upd hD
        refine ⟨gName i, tV (jV g lams (X.blk s3 (upd H1 DD (.lst [])) scope (compEnvC scope cl C X.env) fp) fun _ _ _ _ => False) me,
          fun n mm H' => mm = ds.length - n ∧ n ≤ ds.length ∧ ∃ p' acc ys, StR g H' p' ∧ Ext g H1 H' ∧ Ext1 (upd H1 DD (.lst [])) H' ∧ H' DD = some (.lst acc) ∧ RepL g coN H' acc ys ∧ acc.length ≤ n ∧
            PN (jV g lams X W) σ H Q ((lcGoV i me (wipeV (plV vw) (own.map (·.2))) (ds'.drop n) p').bind fun zs p2 => .ok (ys ++ zs) p2),
          pg_name F.nd hni (hl _ _ _ _ _) (hfn _ _ _ _ _), he _ _ _ _ _ ncell F.blkV, ⟨ds.length, by simp, Nat.zero_le _, p1, [], [], s1.grow gD, gD.ext, .refl, upd_same, .nil, Nat.le_refl _, ?_⟩, fun n mm H' ⟨hm, hn, p', acc, ys, s2, x2, x2', hacc, racc, hlacc, q2⟩ => ?_⟩
        · rw [List.drop_zero]
          cases e3 : lcGoV i me (wipeV (plV vw) (own.map (·.2))) ds' p1 with
          | bad => rw [e3] at q; exact q
          | err y dv p2 => rw [e3] at q; exact q
          | ok zs p2 => rw [e3] at q; exact q
        · by_cases hlt : n < ds.length
          · refine .inr ⟨Fd.go n H' x2.hard hlt, fun H'' => ∃ p' acc ys, StR g H'' p' ∧ Ext g H1 H'' ∧ Ext1 (upd H1 DD (.lst [])) H'' ∧ H'' DD = some (.lst acc) ∧ RepL g coN H'' acc ys ∧ acc.length ≤ n + 1 ∧
              PN (jV g lams X W) σ H Q ((lcGoV i me (wipeV (plV vw) (own.map (·.2))) (ds'.drop (n + 1)) p').bind fun zs p2 => .ok (ys ++ zs) p2), fun H'' hN => ⟨ds.length - (n + 1), by omega, rfl, hlt, hN⟩, fun y H3 hy => ?_⟩
            have hd : ds[n]? = some ds[n] := List.getElem?_eq_getElem hlt
            obtain ⟨g3, ry⟩ := Fd.yld n H' y H3 _ x2.hard hd hy
            obtain ⟨d', hd', hcap⟩ := hget n _ hd
            have x3 : Ext g H1 H3 := x2.trans g3.ext
            have x3' : Ext1 (upd H1 DD (.lst [])) H3 := x2'.trans (Grow.ext (g := g) g3).hard
            have s3' := s2.grow g3
            have hlt' : n < ds'.length := by rw [hlen]; exact hlt
            have edr : ds'.drop n = d' :: ds'.drop (n + 1) := by
              rw [List.drop_eq_getElem_cons hlt']
              rw [List.getElem?_eq_getElem hlt'] at hd'
              cases hd'
              rfl
            rw [edr] at q2
            unfold lcGoV at q2
            have rI : VRep (jV g lams X W) σ (upd H1 DD (.lst [])) vw := (rr.ext x1).ext gD.ext
            have ry' : (jV g lams (X.blk s3 (upd H1 DD (.lst [])) scope (compEnvC scope cl C X.env) fp) fun _ _ _ _ => False).R (wipe σ (own.map (·.2))) H3 y d' :=
              Rep.ext .refl coS_le (capD_at (J := jV g lams X W) rfl ct hx I3 rI x3' ry hcap)
            have rv3 : VRep (jV g lams (X.blk s3 (upd H1 DD (.lst [])) scope (compEnvC scope cl C X.env) fp) fun _ _ _ _ => False) (wipe σ (own.map (·.2))) H3 (wipeV (plV vw) (own.map (·.2))) := VRep.wipe (plV_rep (J := jV g lams X W) (J' := jV g lams (X.blk s3 (upd H1 DD (.lst [])) scope (compEnvC scope cl C X.env) fp) fun _ _ _ _ => False) rfl (rr.ext (x1.trans x3)))
            refine bd_name (J := jV g lams (X.blk s3 (upd H1 DD (.lst [])) scope (compEnvC scope cl C X.env) fp) fun _ _ _ _ => False) (K := X.K) hv (wipe σ (own.map (·.2))) H3 _ _ y d' _ rv3 ry' rfl fun σ2 hw r2 => ?_
            rw [wipe_wipe] at hw
            refine ⟨hw, _, p', r2, s3', ?_⟩
            cases e5 : me ((wipeV (plV vw) (own.map (·.2))).set i (some d')) p' with
            | bad => rw [e5] at q2; exact q2.elim
            | err z dv p3 => rw [e5] at q2; exact q2.elim
            | ok z p3 =>
              rw [e5] at q2
              simp only [strict, Res.bind] at q2
              intro H5 v5 x5 s5 r5
              by_cases hp : z.pl = true
              · simp only [hp, if_true] at q2
                have x15 := x3.trans x5
                have hacc5 : H5 DD = some (.lst acc) := x5.keepL (g3 _ _ hacc) nP
                refine ⟨acc, hacc5, ?_, p3, acc ++ [v5], ys ++ [z], s5.updL hacc5 nP, ext_updL x15 hD, (x3'.trans x5.hard).trans (ext1_lst hacc5), upd_same, ?_, ?_, ?_⟩
                · have : acc.length < ds.length := Nat.lt_of_le_of_lt hlacc hlt
                  exact Nat.lt_of_lt_of_le this hz
                · exact RepL.ext (ext1_lst hacc5) .refl ((RepL.ext (g3.ext.trans x5).hard .refl racc).append (.cons (Rep.pl r5 hp) .nil))
                · rw [List.length_append]
                  exact Nat.add_le_add_right hlacc 1
                · cases e6 : lcGoV i me (wipeV (plV vw) (own.map (·.2))) (ds'.drop (n + 1)) p3 with
                  | bad => rw [e6] at q2; exact q2
                  | err z dv p4 => rw [e6] at q2; exact q2
                  | ok zs p4 =>
                    rw [e6] at q2
                    simp only at q2
                    show PN (jV g lams X W) σ H Q (.ok ((ys ++ [z]) ++ zs) p4)
                    rw [show (ys ++ [z]) ++ zs = ys ++ (z :: zs) by simp]
                    exact q2
              · simp only [hp, if_false, Bool.false_eq_true] at q2
                exact q2.elim
          · have hie : n = ds.length := by omega
            subst hie
            refine .inl ⟨Fd.stop H' x2.hard, ?_⟩
            rw [← hlen, List.drop_length] at q2
            simp only [lcGoV, Res.bind, List.append_nil] at q2
            have w := q2 (hdel H' DD) DD acc (x1.trans fun b o e k n => ?_) (s2.del hacc nP) (if_pos rfl) ((RepL.ext (ext1_del hacc) .refl racc).ext .refl coN_le)
            · rw [hdel_upd hacc] at w
              exact w
            · unfold hdel
              rw [if_neg (ne_of_none e hD)]
              exact x2 b o e k n
  · obtain ⟨f0, f1, f2, f3, f4, f5⟩ := f
    exact ⟨.ref DD, H', I'.turned (t' := s'.toks) (fun b o hb e => (sb.2 b hb).trans e) f0 f1 f3 f4 f5, rfl, q⟩
end
end VL

namespace VL
open PySem PySem.Spec PyProof.Rows L2 LamX
/-! ### the lambdas of a statement, in the order of the text -/
def lamsE : Nat → Expr → List Expr
  | 0, _ => []
  | n + 1, e => match e with
    | .Lambda .. => [e]
    | .Call f as _ _ => lamsE n f ++ as.flatMap (lamsE n)
    | .List es _ => es.flatMap (lamsE n)
    | .Tuple es _ _ => es.flatMap (lamsE n)
    | .UnaryOp _ a _ => lamsE n a
    | .BoolOp _ vs _ => vs.flatMap (lamsE n)
    | .Compare l _ cs _ => lamsE n l ++ cs.flatMap (lamsE n)
    | .Subscript v s _ => lamsE n v ++ lamsE n s
    | .BinOp a _ b _ => lamsE n a ++ lamsE n b
    | .ListComp elt gs _ _ => lamsE n elt ++ gs.flatMap fun g => lamsE n g.iter
    | .IfExp c a b _ => lamsE n c ++ (lamsE n a ++ lamsE n b)
    | .Attribute v _ _ => lamsE n v
    | .Starred v _ => lamsE n v
    | _ => []
def lamsS : Nat → Stmt → List Expr
  | 0, _ => []
  | n + 1, st => match st with
    | .FunctionDef _ _ b _ _ _ _ _ _ _ => b.flatMap (lamsS n)
    | .Return (some e) _ => lamsE 40 e
    | .Assign _ e _ => lamsE 40 e
    | .Expr e _ => lamsE 40 e
    | .If c a b _ => lamsE 40 c ++ (a.flatMap (lamsS n) ++ b.flatMap (lamsS n))
    | .For _ it b _ _ => lamsE 40 it ++ b.flatMap (lamsS n)
    | .While c b _ _ => lamsE 40 c ++ b.flatMap (lamsS n)
    | _ => []
def lamOf (q : Str) (caps : List Str) : Expr → Lam
  | .Lambda params body scope _ => ⟨q, params, body, scope, caps⟩
  | e => ⟨q, ⟨[], [], none, [], [], none, []⟩, e, ⟨.function, [], false, false, []⟩, caps⟩
/-- the j-th lambda of the def x, st -/
def lamAt (x : Str) (st : Stmt) (j : Nat) (caps : List Str) : Lam := lamOf ((x ++ ".<locals>.") ++ "<lambda>") caps ((lamsS 40 st).getD j (.Constant .none 0 ⟨0, 0, 0, 0⟩))
/-- a def that makes lambdas: its code object's table -/
structure MakerAt (base : Heap) (g : Gx) (x : Str) (st : Stmt) : Prop where
  ex : ∃ (f : Addr) (fd : FuncData) (c Pt : Addr), g.mg x = some (.ref f) ∧ L2.Fun g.K x x st f fd ∧ fd.code = .ref c ∧ TabB base g.mg c Pt ∧ (Pt, (x ++ ".<locals>.") ++ "<lambda>") ∈ g.T ∧ ∀ p ∈ g.T, p.1 = Pt → p.2 = (x ++ ".<locals>.") ++ "<lambda>"
section
variable {P : Program} {w : World} {base : Heap} {g : Gx} {lams : Lams} {k : Nat} {x : Str} {st : Stmt} {N ps : List Str} {m : MS} {f : Addr} {fd : FuncData} {mf : List D → P3 → Res D}
theorem FnV.toP (F : FnV P w base g lams k f fd ps mf) : FnP P w base g k f fd ps mf :=
  ⟨F.len, fun A outer s H args us vs ds p Q E hr gd e0 hb rv rd st q => F.run A outer s H args us vs ds p Q E hr gd e0 hb rv (rd.ext .refl coN_le) st q⟩
theorem CalV.toP (C : CalV P w base g lams k x ps mf) : Cal P w base g k x ps mf := by
  obtain ⟨f, fd, h1, h2, h3, h4⟩ := C.ex
  exact ⟨f, fd, h1, h2, h3, h4.toP⟩
theorem calv_of (D : DefAt g x st) (S : FnScope N ps (L2.defScope st)) (hb : HB x st ps) (bt : Bt g.mg)
    (hbody : ∀ (f : Addr) (cdv : Value) (A : Around) (outer : List Env) (s : Shared) (H : Hp) (E : XK), Fs (vX P w g base N x st f cdv A outer s H E) (jV g lams (vX P w g base N x st f cdv A outer s H E) fun cls d _ H' => E cls d H') k →
      VSs (vX P w g base N x st f cdv A outer s H E) (jV g lams (vX P w g base N x st f cdv A outer s H E) fun cls d _ H' => E cls d H') (L2.defBody st) m) : CalV P w base g lams (k + 1) x ps (callV N.length ps.length m) := by
  obtain ⟨f, fd, hm, F⟩ := D.ex
  exact ⟨f, fd, hm, F.kp, F.binds hb, fnv_of F S bt fun f cdv A outer s H E _ F0 => hbody f cdv A outer s H E F0⟩
theorem calm_of (D : MakerAt base g x st) (S : FnScope N ps (L2.defScope st)) (hb : HB x st ps) (bt : Bt g.mg)
    (hbody : ∀ (f c Pt : Addr) (A : Around) (outer : List Env) (s : Shared) (H : Hp) (E : XK), TabB base g.mg c Pt → (Pt, (x ++ ".<locals>.") ++ "<lambda>") ∈ g.T → (∀ p ∈ g.T, p.1 = Pt → p.2 = (x ++ ".<locals>.") ++ "<lambda>") →
      Fs (vX P w g base N x st f (.ref c) A outer s H E) (jV g lams (vX P w g base N x st f (.ref c) A outer s H E) fun cls d _ H' => E cls d H') k →
      VSs (vX P w g base N x st f (.ref c) A outer s H E) (jV g lams (vX P w g base N x st f (.ref c) A outer s H E) fun cls d _ H' => E cls d H') (L2.defBody st) m) : CalV P w base g lams (k + 1) x ps (callV N.length ps.length m) := by
  obtain ⟨f, fd, c, Pt, hm, F, hcd, tb, h1, h2⟩ := D.ex
  refine ⟨f, fd, hm, F.kp, F.binds hb, fnv_of F S bt fun f cdv A outer s H E e F0 => ?_⟩
  rw [hcd] at e
  subst e
  exact hbody f c Pt A outer s H E tb h1 h2 F0
end
section
variable {X : Cx} {J : Jc} {k : Nat} {lams : Lams} {L : Lam} {js : List Nat}
def capB (sc : Scope) (N : List Str) (L : Lam) (js : List Nat) : Bool :=
  L.scope.names.all (fun y => !decide (y.2 = .free) || decide (sc.names.lookup y.1 = some .cell)) && L.caps.all (fun y => L.scope.names.contains (y, NameKind.free)) && decide (js.map (fun j => N[j]?) = L.caps.map some)
theorem cap_by (h : capB X.env.scope X.N L js = true) (hfn : ∀ y, X.fn y = true := by intro _; rfl) : CapOk X L js := by
  unfold capB at h
  simp only [Bool.and_eq_true, List.all_eq_true, Bool.or_eq_true, Bool.not_eq_true', decide_eq_true_eq, decide_eq_false_iff_not] at h
  obtain ⟨⟨h1, h2⟩, h3⟩ := h
  refine ⟨fun y hy e => (h1 y hy).elim (fun z => absurd e z) id, fun y hy => ?_, h3, fun y _ => hfn y⟩
  have := h2 y hy
  simpa using this
theorem ct_nil : CapTOk lams X [] := fun i js L h => by cases h
theorem ct_cons {i : Nat} {caps : CapT} (hL : lams i = some L) (h : CapOk X L js) (t : CapTOk lams X caps) : CapTOk lams X ((i, js) :: caps) := fun i' js' L' h1 h2 => by
  by_cases hi : i' = i
  · subst hi
    rw [List.lookup_cons_self] at h1
    cases h1
    rw [hL] at h2
    cases h2
    exact h
  · have : (i' == i) = false := by simpa using hi
    rw [List.lookup_cons, this] at h1
    exact t i' js' L' h1 h2
end
end VL

namespace VL
open PySem PySem.Spec PyProof.Rows L2 LamX
theorem lamfree_by {sc scope : Scope} (h : (scope.names.all fun y => !decide (y.2 = .free) || decide (sc.names.lookup y.1 = some .cell)) = true) : ∀ y ∈ scope.names, y.2 = .free → sc.names.lookup y.1 = some .cell := fun y hy e => by
  have := List.all_eq_true.mp h y hy
  simp only [Bool.or_eq_true, Bool.not_eq_true', decide_eq_true_eq, decide_eq_false_iff_not] at this
  exact this.elim (fun z => absurd e z) id
theorem nm_by {X : Cx} {x : Str} {CL : Addr} (h : X.mg x = some (.ref CL)) (hg : Gl X x := by rfl) (hd : (x == ("__debug__" : Str)) = false := by decide) : Names X x (.ref CL) := ⟨hg, hd, .inl h⟩
theorem Fx.tr {X : Cx} {J : Jc} {k : Nat} {pn : List (Addr × Obj)} {xe : Value → Shared → Prop} {W : WX} (F : Fx X J k) (tk : Takes (X.tr pn xe) W) : Fx (X.tr pn xe) { J with W := W } k :=
  ⟨⟨F.F.K, F.F.mg, F.F.bs, tk, F.F.room, F.F.gd, F.F.calm⟩, F.bt, F.nd⟩
/-- the class of an except clause: every known exception is its -/
structure CatC (g : Gx) (exs : List Str) (c : Str) : Prop where
  ex : ∃ CL : Addr, g.mg c = some (.ref CL) ∧ ∀ y C, exs.contains y = true → g.mg y = some (.ref C) → PySem.W.exmOne g.K (.ref C) (.ref CL) = some true
section
variable {X : Cx} {J : Jc}
theorem f_tup {es : List Expr} {is : List Nat} {u : TGs} {j : Nat} {p : Pos} (hc : X.calm = true) (hK : J.g.K = X.K) (ht : TNames X es is u) (hn : (assignEach es X.env).length = is.length := by rfl) (hst : (assignEach es X.env).findIdx? (·.1) = none := by rfl) :
    PG X (.Tuple es j p) (gTup X.K is.length u) ∧ BdE X J (gTup X.K is.length u) (eTup is) := ⟨pg_tup hc (tn_pgs ht) hn hst, be_tup ht hK⟩
theorem vs_for2 {tg iter : Expr} {body : List Stmt} {mi : MA} {mb : MS} {g : TG} {bind : D → En → Option En} {pos : Pos} (hp : PassesOwn (model X.prog X.w) X.A X.env X.xe) (hc : X.calm = true) (hi : VI X J tg iter mi) (hg : PG X tg g ∧ BdE X J g bind) (hb : VSs X J body mb)
    (hs : ∀ x, foldedSetIterable iter X.env x = pure x := by intro _; rfl) : VS X J (.For tg iter body [] pos) (sFor bind mi mb) := vs_for hp hc hi hg.1 hg.2 hb hs
end
end VL

namespace VL
open PySem PySem.Spec PyProof.Rows L2 LamX
/-! ### reckoning with mirrors: every piece at its arguments -/
section
variable {α β : Type} {vw : Vw} {env : En} {p : P3}
@[simp] theorem bind_ok (a : α) (p : P3) (f : α → P3 → Res β) : (Res.ok a p).bind f = f a p := rfl
@[simp] theorem bind_err (x : Str) (v : D) (p : P3) (f : α → P3 → Res β) : (Res.err x v p : Res α).bind f = .err x v p := rfl
@[simp] theorem bind_bad (f : α → P3 → Res β) : (Res.bad : Res α).bind f = .bad := rfl
@[simp] theorem bind_bind {γ : Type} (r : Res α) (f : α → P3 → Res β) (g : β → P3 → Res γ) : (r.bind f).bind g = r.bind fun a p => (f a p).bind g := by cases r <;> rfl
@[simp] theorem bind_ite (c : Prop) [Decidable c] (a b : Res α) (f : α → P3 → Res β) : (if c then a else b).bind f = if c then a.bind f else b.bind f := by split <;> rfl
@[simp] theorem ofO_some (a : α) (p : P3) : ofO (some a) p = .ok a p := rfl
@[simp] theorem ofO_none (p : P3) : ofO (none : Option α) p = .bad := rfl
@[simp] theorem ofO_ite (c : Prop) [Decidable c] (a b : Option α) (p : P3) : ofO (if c then a else b) p = if c then ofO a p else ofO b p := by split <;> rfl
@[simp] theorem ev_var0 (d : D) (vs : Vw) : mVar 0 (some d :: vs) p = .ok d p := rfl
@[simp] theorem ev_varS (i : Nat) (o : Option D) (vs : Vw) : mVar (i + 1) (o :: vs) p = mVar i vs p := by simp [mVar]
@[simp] theorem ev_c (d : D) : mC d vw p = .ok d p := rfl
@[simp] theorem ev_nil : mNil vw p = .ok [] p := rfl
@[simp] theorem ev_cons (m : ME) (ms : MA) : mCons m ms vw p = (m vw p).bind fun d p1 => (ms vw p1).bind fun ds p2 => .ok (d :: ds) p2 := rfl
def starOn (k : P3 → Res (List D)) : D → P3 → Res (List D) := fun d p1 => match d with
  | .tup xs => (k p1).bind fun ds p2 => .ok (xs ++ ds) p2
  | .lst xs => (k p1).bind fun ds p2 => .ok (xs ++ ds) p2
  | _ => .bad
@[simp] theorem ev_star (m : ME) (ms : MA) : mStar m ms vw p = (m vw p).bind (starOn (ms vw)) := rfl
@[simp] theorem starOn_tup (k : P3 → Res (List D)) (xs : List D) : starOn k (.tup xs) p = (k p).bind fun ds p2 => .ok (xs ++ ds) p2 := rfl
@[simp] theorem starOn_lst (k : P3 → Res (List D)) (xs : List D) : starOn k (.lst xs) p = (k p).bind fun ds p2 => .ok (xs ++ ds) p2 := rfl
@[simp] theorem ev_m1 (f : D → Option D) (m : ME) : m1 f m vw p = (m vw p).bind fun d p1 => ofO (f d) p1 := rfl
@[simp] theorem ev_m2 (f : D → D → Option D) (a b : ME) : m2 f a b vw p = (a vw p).bind fun x p1 => (b vw p1).bind fun y p2 => ofO (f x y) p2 := rfl
@[simp] theorem ev_mN (f : List D → Option D) (ms : MA) : mN f ms vw p = (ms vw p).bind fun ds p1 => ofO (f ds) p1 := rfl
@[simp] theorem ev_mNL (f : List D → Option (List D)) (ms : MA) : mNL f ms vw p = (ms vw p).bind fun ds p1 => ofO (f ds) p1 := rfl
@[simp] theorem ev_lst (m : MA) : mLst m vw p = (m vw p).bind fun ds p1 => .ok (.lst ds) p1 := rfl
@[simp] theorem ev_lenOk (m : MA) : lenOk m vw p = (m vw p).bind fun ds p1 => if ds.length ≤ sizeLine then .ok ds p1 else .bad := rfl
@[simp] theorem ev_tup (m : MA) : mTup m vw p = (m vw p).bind fun ds p1 => if ds.length ≤ sizeLine then .ok (.tup ds) p1 else .bad := rfl
def asB : D → P3 → Res Bool := fun d p1 => match d with
  | .bl b => .ok b p1
  | _ => .bad
@[simp] theorem asB_bl (b : Bool) (p : P3) : asB (.bl b) p = .ok b p := rfl
@[simp] theorem ev_toB (m : ME) : toB m vw p = (m vw p).bind asB := rfl
@[simp] theorem ev_bAnd (m n : MB) : bAnd m n vw p = (m vw p).bind fun k p1 => if k = true then n vw p1 else .ok false p1 := rfl
@[simp] theorem ev_bOr (m n : MB) : bOr m n vw p = (m vw p).bind fun k p1 => if k = true then .ok true p1 else n vw p1 := rfl
@[simp] theorem ev_bNot (m : MB) : bNot m vw p = (m vw p).bind fun k p1 => .ok (!k) p1 := rfl
@[simp] theorem ev_mAnd (m n : ME) : mAnd m n vw p = (m vw p).bind fun d p0 => (asB d p0).bind fun k p1 => if k = true then n vw p1 else .ok (.bl false) p1 := by
  show (Res.bind ((m vw p).bind asB) _) = _; rw [bind_bind]
@[simp] theorem ev_mOr (m n : ME) : mOr m n vw p = (m vw p).bind fun d p0 => (asB d p0).bind fun k p1 => if k = true then .ok (.bl true) p1 else n vw p1 := by
  show (Res.bind ((m vw p).bind asB) _) = _; rw [bind_bind]
@[simp] theorem ev_mNot (m : ME) : mNot m vw p = (m vw p).bind fun d p0 => (asB d p0).bind fun k p1 => .ok (.bl (!k)) p1 := by
  show (Res.bind ((m vw p).bind asB) _) = _; rw [bind_bind]
@[simp] theorem ev_mIf (t : MB) (m n : ME) : mIf t m n vw p = (t vw p).bind fun k p1 => if k = true then m vw p1 else n vw p1 := rfl
@[simp] theorem ite_okD_and (c : Prop) [Decidable c] (b : Bool) (p : P3) : (if c then Res.ok (D.bl b) p else Res.ok (D.bl false) p) = Res.ok (D.bl (decide c && b)) p := by split <;> simp [*]
@[simp] theorem ite_okD_or (c : Prop) [Decidable c] (b : Bool) (p : P3) : (if c then Res.ok (D.bl true) p else Res.ok (D.bl b) p) = Res.ok (D.bl (decide c || b)) p := by split <;> simp [*]
@[simp] theorem ite_okB_and (c : Prop) [Decidable c] (b : Bool) (p : P3) : (if c then Res.ok b p else Res.ok false p) = Res.ok (decide c && b) p := by split <;> simp [*]
@[simp] theorem ite_okB_or (c : Prop) [Decidable c] (b : Bool) (p : P3) : (if c then Res.ok true p else Res.ok b p) = Res.ok (decide c || b) p := by split <;> simp [*]
def chainOn (g : D → D → Option D) (k : P3 → Res D) (y : D) : Option D → P3 → Res D := fun o p2 => match o with
  | some (.bl true) => (k p2).bind fun z p3 => ofO (g y z) p3
  | some (.bl false) => .ok (.bl false) p2
  | _ => .bad
@[simp] theorem ev_chain (f g : D → D → Option D) (a b c : ME) : mChain f g a b c vw p = (a vw p).bind fun x p1 => (b vw p1).bind fun y p2 => chainOn g (c vw) y (f x y) p2 := rfl
@[simp] theorem chainOn_bl (g : D → D → Option D) (k : P3 → Res D) (y : D) (b : Bool) : chainOn g k y (some (.bl b)) p = if b = true then (k p).bind fun z p3 => ofO (g y z) p3 else .ok (.bl false) p := by cases b <;> rfl
@[simp] theorem ev_call (mf : List D → P3 → Res D) (ms : MA) : mCall mf ms vw p = (ms vw p).bind mf := rfl
@[simp] theorem ev_callN (mf : List D → P3 → Res (List D)) (ms : MA) : mCallN mf ms vw p = (ms vw p).bind mf := rfl
def isiOn (T : String) : D → P3 → Res D := fun d p1 => match d.ty with
  | some t => ofO ((kitB t T).map D.bl) p1
  | none => .bad
@[simp] theorem ev_isi (T : String) (m : ME) : mIsi T m vw p = (m vw p).bind (isiOn T) := rfl
def slOnO : D → P3 → Res (Option Int) := fun d p1 => match d with
  | .int i => .ok (some i) p1
  | _ => .bad
@[simp] theorem slOnO_int (i : Int) : slOnO (.int i) p = .ok (some i) p := rfl
@[simp] theorem ev_oNo : oNo vw p = .ok none p := rfl
@[simp] theorem ev_oSome (m : ME) : oSome m vw p = (m vw p).bind slOnO := rfl
@[simp] theorem ev_sl (m : ME) (l h : MO) : mSl m l h vw p = (m vw p).bind fun d p1 => (l vw p1).bind fun lo p2 => (h vw p2).bind fun hi p3 => ofO (d.slice lo hi) p3 := rfl
def iterOn : D → P3 → Res (List D) := fun d p1 => match d with
  | .lst ds => .ok ds p1
  | .tup ds => .ok ds p1
  | .scr ns => .ok (ns.map D.int) p1
  | .rng lo hi => if rgOk lo hi then .ok (irange lo hi) p1 else .bad
  | _ => .bad
@[simp] theorem ev_iter (m : ME) : mIter m vw p = (m vw p).bind iterOn := rfl
@[simp] theorem iterOn_lst (ds : List D) : iterOn (.lst ds) p = .ok ds p := rfl
@[simp] theorem iterOn_tup (ds : List D) : iterOn (.tup ds) p = .ok ds p := rfl
@[simp] theorem iterOn_rng (lo hi : Int) : iterOn (.rng lo hi) p = if rgOk lo hi then .ok (irange lo hi) p else .bad := rfl
def range1On : List D → P3 → Res (List D) := fun ds p1 => match ds with
  | [.int hi] => if rgOk 0 hi then .ok (irange 0 hi) p1 else .bad
  | _ => .bad
def range2On : List D → P3 → Res (List D) := fun ds p1 => match ds with
  | [.int lo, .int hi] => if rgOk lo hi then .ok (irange lo hi) p1 else .bad
  | _ => .bad
@[simp] theorem ev_range1 (ms : MA) : mRange1 ms vw p = (ms vw p).bind range1On := rfl
@[simp] theorem ev_range2 (ms : MA) : mRange2 ms vw p = (ms vw p).bind range2On := rfl
@[simp] theorem range1On_int (hi : Int) : range1On [.int hi] p = if rgOk 0 hi then .ok (irange 0 hi) p else .bad := rfl
@[simp] theorem range2On_int (lo hi : Int) : range2On [.int lo, .int hi] p = if rgOk lo hi then .ok (irange lo hi) p else .bad := rfl
def zip2On : List D → P3 → Res (List D) := fun ds p1 => match ds with
  | [a, b] => match a.items, b.items with
    | some xs, some ys => szOk (zip2 xs ys) p1
    | _, _ => .bad
  | _ => .bad
def zip3On : List D → P3 → Res (List D) := fun ds p1 => match ds with
  | [a, b, c] => match a.items, b.items, c.items with
    | some xs, some ys, some zs => szOk (zip3 xs ys zs) p1
    | _, _, _ => .bad
  | _ => .bad
@[simp] theorem ev_zip2 (ms : MA) : mZip2 ms vw p = (ms vw p).bind zip2On := rfl
@[simp] theorem ev_zip3 (ms : MA) : mZip3 ms vw p = (ms vw p).bind zip3On := rfl
theorem zip2On_ok {a b : D} {xs ys : List D} (ha : a.items = some xs) (hb : b.items = some ys) (hl : (zip2 xs ys).length ≤ sizeLine) : zip2On [a, b] p = .ok (zip2 xs ys) p := by
  simp [zip2On, ha, hb, szOk, hl]
theorem zip3On_ok {a b c : D} {xs ys zs : List D} (ha : a.items = some xs) (hb : b.items = some ys) (hc : c.items = some zs) (hl : (zip3 xs ys zs).length ≤ sizeLine) : zip3On [a, b, c] p = .ok (zip3 xs ys zs) p := by
  simp [zip3On, ha, hb, hc, szOk, hl]
@[simp] theorem ev_lc (vs : List Nat) (bind : D → Vw → Option Vw) (mi : MA) (mt : MB) (me : ME) : mLc vs bind mi mt me vw p = (mi vw p).bind fun ds p1 => lcGo bind mt me (wipeV vw vs) ds p1 := rfl
@[simp] theorem ev_bTrue : bTrue vw p = .ok true p := rfl
/-! statements -/
@[simp] theorem bindS_nx (env : En) (p : P3) (f : MS) : (Res.ok (Fl.nx, env) p).bindS f = f env p := rfl
@[simp] theorem bindS_ret (d : D) (env : En) (p : P3) (f : MS) : (Res.ok (Fl.ret d, env) p).bindS f = .ok (.ret d, env) p := rfl
@[simp] theorem bindS_bk (env : En) (p : P3) (f : MS) : (Res.ok (Fl.bk, env) p).bindS f = .ok (.bk, env) p := rfl
@[simp] theorem bindS_ct (env : En) (p : P3) (f : MS) : (Res.ok (Fl.ct, env) p).bindS f = .ok (.ct, env) p := rfl
@[simp] theorem bindS_err (x : Str) (v : D) (p : P3) (f : MS) : (Res.err x v p).bindS f = .err x v p := rfl
@[simp] theorem bindS_bad (f : MS) : Res.bindS .bad f = .bad := rfl
@[simp] theorem bindS_ite (c : Prop) [Decidable c] (a b : Res (Fl × En)) (f : MS) : (if c then a else b).bindS f = if c then a.bindS f else b.bindS f := by split <;> rfl
@[simp] theorem bindS_bind (r : Res α) (g : α → P3 → Res (Fl × En)) (f : MS) : (r.bind g).bindS f = r.bind fun a p => (g a p).bindS f := by cases r <;> rfl
@[simp] theorem ev_seq (m n : MS) : sSeq m n env p = (m env p).bindS n := rfl
@[simp] theorem ev_sNil : sNil env p = .ok (.nx, env) p := rfl
@[simp] theorem ev_sPass : sPass env p = .ok (.nx, env) p := rfl
@[simp] theorem vwOf_nil : vwOf [] = [] := rfl
def seeO : Option Sl → Option D := fun o => match o with
  | some (.p d) => some d
  | _ => none
@[simp] theorem vwOf_cons (o : Option Sl) (env : En) : vwOf (o :: env) = seeO o :: vwOf env := rfl
@[simp] theorem seeO_p (d : D) : seeO (some (.p d)) = some d := rfl
@[simp] theorem seeO_l (ds : List D) : seeO (some (.l ds)) = none := rfl
@[simp] theorem seeO_n : seeO none = none := rfl
theorem vwOf_p (d : D) (env : En) : vwOf (some (.p d) :: env) = some d :: vwOf env := rfl
theorem vwOf_l (ds : List D) (env : En) : vwOf (some (.l ds) :: env) = none :: vwOf env := rfl
theorem vwOf_n (env : En) : vwOf (none :: env) = none :: vwOf env := rfl
@[simp] theorem setE_0 (o : Option Sl) (env : En) (s : Sl) : setE (o :: env) 0 s = some s :: env := rfl
@[simp] theorem setE_S (o : Option Sl) (env : En) (i : Nat) (s : Sl) : setE (o :: env) (i + 1) s = o :: setE env i s := rfl
@[simp] theorem wipeV_nil (vw : Vw) : wipeV vw [] = vw := rfl
@[simp] theorem wipeV_cons (vw : Vw) (v : Nat) (vs : List Nat) : wipeV vw (v :: vs) = (wipeV vw vs).set v none := rfl
@[simp] theorem frzE_nil (env : En) : frzE [] env = some env := rfl
def frzOn (i : Nat) (is : List Nat) (env : En) : Option (Option Sl) → Option En := fun o => match o with
  | some (some (.l ds)) => frzE is (setE env i (.p (.lst ds)))
  | _ => none
@[simp] theorem frzE_cons (i : Nat) (is : List Nat) (env : En) : frzE (i :: is) env = frzOn i is env env[i]? := rfl
@[simp] theorem frzOn_l (i : Nat) (is : List Nat) (env : En) (ds : List D) : frzOn i is env (some (some (.l ds))) = frzE is (setE env i (.p (.lst ds))) := rfl
theorem onV_bind (m : ME) (k : D → En → P3 → Res (Fl × En)) : onV m k env p = (m (vwOf env) p).bind fun d p1 => k d env p1 := by
  unfold onV; cases m (vwOf env) p <;> rfl
theorem onN_bind (m : MA) (k : List D → En → P3 → Res (Fl × En)) : onN m k env p = (m (vwOf env) p).bind fun d p1 => k d env p1 := by
  unfold onN; cases m (vwOf env) p <;> rfl
def onEnv (o : Option En) (k : En → Res (Fl × En)) : Res (Fl × En) := match o with
  | none => .bad
  | some e => k e
@[simp] theorem onEnv_some (e : En) (k : En → Res (Fl × En)) : onEnv (some e) k = k e := rfl
@[simp] theorem onX_nil (m : ME) (k : D → En → P3 → Res (Fl × En)) : onX [] m k env p = (m (vwOf env) p).bind fun d p1 => k d env p1 := onV_bind m k
@[simp] theorem onX_cons (i : Nat) (is : List Nat) (m : ME) (k : D → En → P3 → Res (Fl × En)) : onX (i :: is) m k env p = onEnv (frzE (i :: is) env) fun envf => (m (vwOf envf) p).bind fun d p1 => if d.noL = true then k d env p1 else .bad := by
  show onB (i :: is) m k env p = _
  unfold onB onEnv
  cases frzE (i :: is) env with
  | none => rfl
  | some e => dsimp only; cases m (vwOf e) p <;> rfl
@[simp] theorem onXN_nil (m : MA) (k : List D → En → P3 → Res (Fl × En)) : onXN [] m k env p = (m (vwOf env) p).bind fun d p1 => k d env p1 := onN_bind m k
@[simp] theorem onXN_cons (i : Nat) (is : List Nat) (m : MA) (k : List D → En → P3 → Res (Fl × En)) : onXN (i :: is) m k env p = onEnv (frzE (i :: is) env) fun envf => (m (vwOf envf) p).bind fun d p1 => if D.noLs d = true then k d env p1 else .bad := by
  show (match frzE (i :: is) env with | none => _ | some envf => _) = _
  unfold onEnv
  cases frzE (i :: is) env with
  | none => rfl
  | some e => dsimp only; cases m (vwOf e) p <;> rfl
@[simp] theorem ev_xIf (is : List Nat) (c : MB) (m n : MS) : xIf is c m n env p = onEnv (frzE is env) fun envf => (c (vwOf envf) p).bind fun k p1 => if k = true then m env p1 else n env p1 := by
  unfold xIf onEnv
  cases frzE is env with
  | none => rfl
  | some e =>
    dsimp only
    cases c (vwOf e) p with
    | ok k p1 => cases k <;> rfl
    | err x v p1 => rfl
    | bad => rfl
@[simp] theorem ev_sRet (m : ME) : sRet m env p = (m (vwOf env) p).bind fun d p1 => .ok (.ret d, env) p1 := onV_bind m _
@[simp] theorem ev_sRetN : sRetN env p = .ok (.ret .non, env) p := rfl
@[simp] theorem ev_xRet (is : List Nat) (m : ME) : xRet is m env p = onX is m (fun d env p => .ok (.ret d, env) p) env p := rfl
@[simp] theorem ev_xExpr (is : List Nat) (m : ME) : xExpr is m env p = onX is m (fun _ env p => .ok (.nx, env) p) env p := rfl
@[simp] theorem ev_xSet (is : List Nat) (i : Nat) (m : ME) : xSet is i m env p = onX is m (fun d env p => .ok (.nx, setE env i (.p d)) p) env p := rfl
@[simp] theorem ev_xNew (is : List Nat) (i : Nat) (m : MA) : xNew is i m env p = onXN is m (fun d env p => .ok (.nx, setE env i (.l d)) p) env p := rfl
@[simp] theorem ev_sNew (i : Nat) (m : MA) : sNew i m env p = (m (vwOf env) p).bind fun ds p1 => .ok (.nx, setE env i (.l ds)) p1 := onN_bind m _
@[simp] theorem ev_xRaise (is : List Nat) (x : Str) (m : ME) : xRaise is x m env p = onX is m (fun d _ p => .err x d p) env p := rfl
def putOn (js : List Nat) : D → En → P3 → Res (Fl × En) := fun d env p => match d with
  | .tup ds => match putAll js ds env with
    | some env' => .ok (.nx, env') p
    | none => .bad
  | _ => .bad
@[simp] theorem ev_xTup (is js : List Nat) (m : ME) : xTup is js m env p = onX is m (putOn js) env p := rfl
def putR (o : Option En) (p : P3) : Res (Fl × En) := match o with
  | some env' => .ok (.nx, env') p
  | none => .bad
@[simp] theorem putR_some (e : En) : putR (some e) p = .ok (.nx, e) p := rfl
@[simp] theorem putOn_tup (js : List Nat) (ds : List D) : putOn js (.tup ds) env p = putR (putAll js ds env) p := rfl
@[simp] theorem putAll_nil : putAll [] [] env = some env := rfl
@[simp] theorem putAll_cons (i : Nat) (is : List Nat) (d : D) (ds : List D) : putAll (i :: is) (d :: ds) env = putAll is ds (setE env i (.p d)) := rfl
def frzS (i : Nat) (m : MS) (env : En) (p : P3) : Option (Option Sl) → Res (Fl × En) := fun o => match o with
  | some (some (.l ds)) => m (setE env i (.p (.lst ds))) p
  | _ => .bad
@[simp] theorem ev_freeze (i : Nat) (m : MS) : sFreeze i m env p = frzS i m env p env[i]? := rfl
@[simp] theorem frzS_l (i : Nat) (m : MS) (ds : List D) : frzS i m env p (some (some (.l ds))) = m (setE env i (.p (.lst ds))) p := rfl
def appOn (i : Nat) (f : List D → D → Option (List D)) (d : D) (env : En) (p : P3) : Option (Option Sl) → Res (Fl × En) := fun o => match o with
  | some (some (.l ds)) => match f ds d with
    | some ds' => .ok (.nx, setE env i (.l ds')) p
    | none => .bad
  | _ => .bad
def withOn (k : List D → Res (Fl × En)) : Option (Option Sl) → Res (Fl × En) := fun o => match o with
  | some (some (.l ds)) => k ds
  | _ => .bad
@[simp] theorem withOn_l (k : List D → Res (Fl × En)) (ds : List D) : withOn k (some (some (.l ds))) = k ds := rfl
def stOn (i : Nat) (env : En) (p : P3) : Option (List D) → Res (Fl × En) := fun o => match o with
  | some ds' => .ok (.nx, setE env i (.l ds')) p
  | none => .bad
@[simp] theorem stOn_some (i : Nat) (ds : List D) : stOn i env p (some ds) = .ok (.nx, setE env i (.l ds)) p := rfl
@[simp] theorem appOn_l (i : Nat) (f : List D → D → Option (List D)) (d : D) (ds : List D) : appOn i f d env p (some (some (.l ds))) = stOn i env p (f ds d) := rfl
@[simp] theorem ev_xOwn (is : List Nat) (i : Nat) (f : List D → D → Option (List D)) (m : ME) : xOwn is i f m env p = withOn (fun _ => onX is m (fun d env p => appOn i f d env p env[i]?) env p) env[i]? := rfl
@[simp] theorem ev_xApp (is : List Nat) (i : Nat) (m : ME) : xApp is i m env p = xOwn is i fApp m env p := rfl
@[simp] theorem ev_xExt (is : List Nat) (i : Nat) (m : ME) : xExt is i m env p = xOwn is i fExt m env p := rfl
theorem fApp_ok {ds : List D} {d : D} (h : ds.length < sizeLine) : fApp ds d = some (ds ++ [d]) := if_pos h
theorem fExt_ok {ds zs : List D} (h : ds.length + zs.length ≤ sizeLine) : fExt ds (.lst zs) = some (ds ++ zs) := if_pos h
@[simp] theorem ev_for (bind : D → En → Option En) (mi : MA) (mb : MS) : sFor bind mi mb env p = (mi (vwOf env) p).bind fun ds p1 => forL bind mb ds env p1 := by
  unfold sFor; cases mi (vwOf env) p <;> rfl
@[simp] theorem outF_ret (d : D) (env : En) (p : P3) : outF (.ok (.ret d, env) p) = .ok d p := rfl
@[simp] theorem outF_nx (env : En) (p : P3) : outF (.ok (.nx, env) p) = .ok .non p := rfl
@[simp] theorem outF_err (x : Str) (v : D) (p : P3) : outF (.err x v p) = .err x v p := rfl
@[simp] theorem outF_bad : outF .bad = .bad := rfl
@[simp] theorem outF_ite (c : Prop) [Decidable c] (a b : Res (Fl × En)) : outF (if c then a else b) = if c then outF a else outF b := by split <;> rfl
@[simp] theorem outF_bind (r : Res α) (f : α → P3 → Res (Fl × En)) : outF (r.bind f) = r.bind fun a p => outF (f a p) := by cases r <;> rfl
@[simp] theorem ev_callF (n np : Nat) (m : MS) (ds : List D) : callF n np m ds p = if ds.length = np then outF (m (env0 n ds) p) else .bad := rfl
theorem callF_ok {n np : Nat} {m : MS} {ds : List D} (h : ds.length = np) : callF n np m ds p = outF (m (env0 n ds) p) := if_pos h
@[simp] theorem par_nil : evs [] env p = .ok [] p := rfl
@[simp] theorem par_inl (is : List Nat) (m : ME) (es : List El) : evs (.inl (is, m) :: es) env p = (evV is m env p).bind fun d p1 => (evs es env p1).bind fun sl p2 => .ok (.p d :: sl) p2 := rfl
@[simp] theorem par_inr (m : MA) (es : List El) : evs (.inr m :: es) env p = (m (vwOf env) p).bind fun ds p1 => (evs es env p1).bind fun sl p2 => .ok (.l ds :: sl) p2 := rfl
@[simp] theorem evV_nil (m : ME) : evV [] m env p = m (vwOf env) p := rfl
@[simp] theorem ev_par (is : List Nat) (ls : List El) : sPar is ls env p = (evs ls env p).bind fun sls p' => .ok (.nx, setAll is sls env) p' := by
  unfold sPar; cases evs ls env p <;> rfl
@[simp] theorem setAll_cons (i : Nat) (is : List Nat) (s : Sl) (ss : List Sl) : setAll (i :: is) (s :: ss) env = setAll is ss (setE env i s) := rfl
@[simp] theorem setAll_nil (ss : List Sl) : setAll [] ss env = env := rfl
@[simp] theorem eName_ev (i : Nat) (d : D) : eName i d env = some (setE env i (.p d)) := rfl
@[simp] theorem eTup_ev (is : List Nat) (ds : List D) : eTup is (.tup ds) env = putAll is ds env := rfl
@[simp] theorem bName_ev (i : Nat) (d : D) : bName i d vw = some (vw.set i (some d)) := rfl
@[simp] theorem bTup_ev (is : List Nat) (ds : List D) : bTup is (.tup ds) vw = putV is ds vw := rfl
@[simp] theorem putV_nil : putV [] [] vw = some vw := rfl
@[simp] theorem putV_cons (i : Nat) (is : List Nat) (d : D) (ds : List D) : putV (i :: is) (d :: ds) vw = putV is ds (vw.set i (some d)) := rfl
end
/-! ### operations on data -/
@[simp] theorem add_int (a b : Int) : D.add (.int a) (.int b) = some (.int (a + b)) := rfl
@[simp] theorem sub_int (a b : Int) : D.sub (.int a) (.int b) = some (.int (a - b)) := rfl
@[simp] theorem usub_int (a : Int) : D.usub (.int a) = some (.int (-a)) := rfl
@[simp] theorem cmp_int (f : Int → Int → Bool) (a b : Int) : D.cmp f (.int a) (.int b) = some (.bl (f a b)) := rfl
@[simp] theorem isNone_ev (d : D) : D.isNone d = some (.bl d.isN) := rfl
@[simp] theorem notNone_ev (d : D) : D.notNone d = some (.bl (!d.isN)) := rfl
@[simp] theorem eq_str (a b : Str) : D.eq (.str a) (.str b) = some (.bl (a == b)) := rfl
@[simp] theorem ne_str (a b : Str) : D.ne (.str a) (.str b) = some (.bl (!(a == b))) := rfl
@[simp] theorem dLen_lst (ds : List D) : dLen [.lst ds] = some (.int (ds.length : Nat)) := rfl
@[simp] theorem dLen_tup (ds : List D) : dLen [.tup ds] = some (.int (ds.length : Nat)) := rfl
@[simp] theorem dLen_scr (ds : List Int) : dLen [.scr ds] = some (.int (ds.length : Nat)) := rfl
@[simp] theorem dAbs_int (i : Int) : dAbs [.int i] = some (.int (if i < 0 then -i else i)) := rfl
@[simp] theorem dInt_int (i : Int) : dInt [.int i] = some (.int i) := rfl
@[simp] theorem dInt_bl (b : Bool) : dInt [.bl b] = some (.int (if b then 1 else 0)) := rfl
@[simp] theorem dMax2_int (i j : Int) : dMax2 [.int i, .int j] = some (.int (if j > i then j else i)) := rfl
@[simp] theorem dMin2_int (i j : Int) : dMin2 [.int i, .int j] = some (.int (if j < i then j else i)) := rfl
@[simp] theorem dRange1_int (j : Int) : dRange [.int j] = some (.rng 0 j) := rfl
@[simp] theorem dRange2_int (i j : Int) : dRange [.int i, .int j] = some (.rng i j) := rfl
@[simp] theorem dTuple2_lst (ds : List D) : dTuple2 [.lst ds] = some (.tup ds) := rfl
@[simp] theorem dTuple2_tup (ds : List D) : dTuple2 [.tup ds] = some (.tup ds) := rfl
@[simp] theorem dTuple2_rng (lo hi : Int) : dTuple2 [.rng lo hi] = if rgOk lo hi then some (.tup (irange lo hi)) else none := rfl
@[simp] theorem dList2_lst (ds : List D) : dList2 [.lst ds] = some ds := rfl
@[simp] theorem dList2_tup (ds : List D) : dList2 [.tup ds] = some ds := rfl
@[simp] theorem dList2_rng (lo hi : Int) : dList2 [.rng lo hi] = if rgOk lo hi then some (irange lo hi) else none := rfl
@[simp] theorem dRepr_ev (d : D) : dRepr [d] = d.repr := rfl
@[simp] theorem slice_tup (ds : List D) (lo hi : Option Int) : D.slice (.tup ds) lo hi = some (.tup (cutL ds lo hi)) := rfl
@[simp] theorem slice_lst (ds : List D) (lo hi : Option Int) : D.slice (.lst ds) lo hi = some (.lst (cutL ds lo hi)) := rfl
@[simp] theorem rev_tup (ds : List D) : D.rev (.tup ds) = some (.tup ds.reverse) := rfl
@[simp] theorem rev_lst (ds : List D) : D.rev (.lst ds) = some (.lst ds.reverse) := rfl
@[simp] theorem items_lst (ds : List D) : D.items (.lst ds) = some ds := rfl
@[simp] theorem items_tup (ds : List D) : D.items (.tup ds) = some ds := rfl
@[simp] theorem ix_tup0 (d : D) (ds : List D) : D.ix (.tup (d :: ds)) (.int 0) = some d := by simp [D.ix, atI, ixN]
@[simp] theorem ix_lst0 (d : D) (ds : List D) : D.ix (.lst (d :: ds)) (.int 0) = some d := by simp [D.ix, atI, ixN]
theorem ix_tup (ds : List D) (i : Int) : D.ix (.tup ds) (.int i) = atI ds i := rfl
theorem ix_lst (ds : List D) (i : Int) : D.ix (.lst ds) (.int i) = atI ds i := rfl
theorem atI_nat {ds : List D} {i : Int} {j : Nat} {d : D} (h : i = j) (e : ds[j]? = some d) : atI ds i = some d := by
  obtain ⟨hj, e'⟩ := List.getElem?_eq_some_iff.mp e
  subst h
  simp [atI, ixN, hj, e']
@[simp] theorem ix_tup1 (a b : D) (ds : List D) : D.ix (.tup (a :: b :: ds)) (.int 1) = some b := atI_nat (j := 1) rfl rfl
@[simp] theorem ix_tup2 (a b c : D) (ds : List D) : D.ix (.tup (a :: b :: c :: ds)) (.int 2) = some c := atI_nat (j := 2) rfl rfl
@[simp] theorem ix_tup3 (a b c d : D) (ds : List D) : D.ix (.tup (a :: b :: c :: d :: ds)) (.int 3) = some d := atI_nat (j := 3) rfl rfl
@[simp] theorem ix_tup4 (a b c d e : D) (ds : List D) : D.ix (.tup (a :: b :: c :: d :: e :: ds)) (.int 4) = some e := atI_nat (j := 4) rfl rfl
@[simp] theorem ix_tup5 (a b c d e f : D) (ds : List D) : D.ix (.tup (a :: b :: c :: d :: e :: f :: ds)) (.int 5) = some f := atI_nat (j := 5) rfl rfl
@[simp] theorem ix_tup6 (a b c d e f g : D) (ds : List D) : D.ix (.tup (a :: b :: c :: d :: e :: f :: g :: ds)) (.int 6) = some g := atI_nat (j := 6) rfl rfl
@[simp] theorem ix_lst1 (a b : D) (ds : List D) : D.ix (.lst (a :: b :: ds)) (.int 1) = some b := atI_nat (j := 1) rfl rfl
theorem okMul_l {a b : Int} (h : -(2 ^ 64) < a) (h2 : a < 2 ^ 64) : okMul a b = true := by
  unfold okMul
  rw [decide_eq_true h, decide_eq_true h2]
  rfl
theorem okMul_r {a b : Int} (h : -(2 ^ 64) < b) (h2 : b < 2 ^ 64) : okMul a b = true := by
  unfold okMul
  rw [decide_eq_true h, decide_eq_true h2]
  simp
theorem mul_int {a b : Int} (h : okMul a b = true) : D.mul (.int a) (.int b) = some (.int (a * b)) := if_pos h
theorem okDiv_i {b : Int} (h : 0 < b) (h2 : b < 2 ^ 64) : okDiv b = true := by
  unfold okDiv
  have : b.natAbs.log2 < 9000 := by
    have h3 : b.natAbs < 2 ^ 64 := by omega
    by_cases h0 : b.natAbs = 0
    · rw [h0]; decide
    · exact Nat.lt_trans ((Nat.log2_lt h0).mpr h3) (by decide)
  simp [h, this]
theorem fdiv_int {a b : Int} (h : okDiv b = true) : D.fdiv (.int a) (.int b) = some (.int (a.fdiv b)) := if_pos h
theorem fmod_int {a b : Int} (h : b ≠ 0) : D.fmod (.int a) (.int b) = some (.int (a.fmod b)) := if_pos h
theorem rgOk_i {lo hi : Int} (h1 : -(2 ^ 62) ≤ lo) (h2 : hi < 2 ^ 62) (h3 : hi - lo ≤ 16777216) (h4 : lo ≤ hi) : rgOk lo hi = true := by
  unfold rgOk
  simp only [Bool.and_eq_true, decide_eq_true_eq]
  omega
end VL

namespace VL
open PySem PySem.Spec PyProof.Rows L2 LamX
/-! ### what can be shown: repr of own data -/
mutual
/-- a bound of the text's length -/
def D.sz : D → Nat
  | .non => 4
  | .bl _ => 5
  | .int i => i.natAbs.log2 + 3
  | .str x => 10 * x.length + 2
  | .tup ds => 3 + D.szs ds
  | .lst ds => 2 + D.szs ds
  | _ => 0
def D.szs : List D → Nat
  | [] => 0
  | d :: ds => d.sz + 2 + D.szs ds
end
/-- data that can be shown, of nesting at most n -/
def D.sh : Nat → D → Bool
  | _, .non | _, .bl _ => true
  | _, .int i => decide (i.natAbs.log2 < 1920)
  | _, .str x => PyData.strOk x
  | n + 1, .tup ds => ds.all (D.sh n)
  | n + 1, .lst ds => ds.all (D.sh n)
  | _, _ => false
@[simp] theorem sh_non (n : Nat) : D.sh n .non = true := by cases n <;> rfl
@[simp] theorem sh_bl (n : Nat) (b : Bool) : D.sh n (.bl b) = true := by cases n <;> rfl
@[simp] theorem sh_int (n : Nat) (i : Int) : D.sh n (.int i) = decide (i.natAbs.log2 < 1920) := by cases n <;> rfl
@[simp] theorem sh_str (n : Nat) (x : Str) : D.sh n (.str x) = PyData.strOk x := by cases n <;> rfl
@[simp] theorem sh_tup (n : Nat) (ds : List D) : D.sh (n + 1) (.tup ds) = ds.all (D.sh n) := rfl
@[simp] theorem sh_lst (n : Nat) (ds : List D) : D.sh (n + 1) (.lst ds) = ds.all (D.sh n) := rfl
theorem sh_mono : ∀ (n : Nat) (d : D), d.sh n = true → d.sh (n + 1) = true
  | 0, d, h => by cases d <;> simp_all [D.sh]
  | n + 1, d, h => by
    cases d with
    | tup ds =>
      simp only [sh_tup, List.all_eq_true] at h ⊢
      exact fun x hx => sh_mono n x (h x hx)
    | lst ds =>
      simp only [sh_lst, List.all_eq_true] at h ⊢
      exact fun x hx => sh_mono n x (h x hx)
    | _ => simpa [D.sh] using h
theorem sh_le {n m : Nat} {d : D} (h : d.sh n = true) (l : n ≤ m) : d.sh m = true := by
  induction m with
  | zero => rw [Nat.le_zero.mp l] at h; exact h
  | succ m ih =>
    by_cases e : n = m + 1
    · subst e; exact h
    · exact sh_mono m d (ih (by omega))
theorem sh_plain : ∀ (n : Nat) (d : D), d.sh n = true → d.plain n = true
  | n, .non, _ => by cases n <;> rfl
  | n, .bl _, _ => by cases n <;> rfl
  | n, .int _, _ => by cases n <;> rfl
  | n, .str x, h => by cases n <;> simpa [D.plain, D.sh] using h
  | n + 1, .tup ds, h => by
    simp only [D.plain, sh_tup, List.all_eq_true] at h ⊢
    exact fun x hx => sh_plain n x (h x hx)
  | n + 1, .lst ds, h => by
    simp only [D.plain, sh_lst, List.all_eq_true] at h ⊢
    exact fun x hx => sh_plain n x (h x hx)
  | 0, .tup _, h => by simp [D.sh] at h
  | 0, .lst _, h => by simp [D.sh] at h
  | n, .dct _, h => by cases n <;> simp [D.sh] at h
  | n, .glb _, h => by cases n <;> simp [D.sh] at h
  | n, .exc _ _, h => by cases n <;> simp [D.sh] at h
  | n, .clo _ _, h => by cases n <;> simp [D.sh] at h
  | n, .pot, h => by cases n <;> simp [D.sh] at h
  | n, .own _, h => by cases n <;> simp [D.sh] at h
  | n, .scr _, h => by cases n <;> simp [D.sh] at h
  | n, .rng _ _, h => by cases n <;> simp [D.sh] at h
theorem sha_of {l : List D} (h : ∀ d ∈ l, d.py.showable = true) : PyData.showableAll (D.pys l) = true := by
  induction l with
  | nil => rfl
  | cons d l ih =>
    simp only [D.pys, PyData.showableAll, Bool.and_eq_true]
    exact ⟨h d List.mem_cons_self, ih fun x hx => h x (List.mem_cons_of_mem _ hx)⟩
theorem sh_show : ∀ (n : Nat) (d : D), d.sh n = true → d.py.showable = true
  | n, .non, _ => rfl
  | n, .bl _, _ => rfl
  | n, .int _, h => by simpa [D.py, PyData.showable] using h
  | n, .str x, h => rfl
  | n + 1, .tup ds, h => by
    simp only [sh_tup, List.all_eq_true] at h
    exact sha_of fun d hd => sh_show n d (h d hd)
  | n + 1, .lst ds, h => by
    simp only [sh_lst, List.all_eq_true] at h
    exact sha_of fun d hd => sh_show n d (h d hd)
  | 0, .tup _, h => by simp [D.sh] at h
  | 0, .lst _, h => by simp [D.sh] at h
  | n, .dct _, h => by cases n <;> simp [D.sh] at h
  | n, .glb _, h => by cases n <;> simp [D.sh] at h
  | n, .exc _ _, h => by cases n <;> simp [D.sh] at h
  | n, .clo _ _, h => by cases n <;> simp [D.sh] at h
  | n, .pot, h => by cases n <;> simp [D.sh] at h
  | n, .own _, h => by cases n <;> simp [D.sh] at h
  | n, .scr _, h => by cases n <;> simp [D.sh] at h
  | n, .rng _ _, h => by cases n <;> simp [D.sh] at h
theorem piled_le {l : List D} (h : ∀ d ∈ l, d.py.shown.length ≤ d.sz) : piled (PyData.shownAll (D.pys l)) ≤ D.szs l := by
  induction l with
  | nil => exact Nat.le_refl _
  | cons d l ih =>
    simp only [D.pys, PyData.shownAll, piled_cons, D.szs]
    have h1 := h d List.mem_cons_self
    have h2 := ih fun x hx => h x (List.mem_cons_of_mem _ hx)
    omega
theorem listText_le (ts : List Str) : (listText ts).length ≤ 2 + piled ts := by
  unfold listText
  rw [strLen_append]
  have e : ((("]" : String) : Str)).length = 1 := by decide
  rw [e]
  cases ts with
  | nil => decide
  | cons t r =>
    show (textFrom 1 ((("[" : String) : Str) ++ ((if 0 > 0 then ", " else "" : String) : Str) ++ t) r).length + 1 ≤ _
    rw [textFrom_length_pos r 1 _ (by decide), strLen_append, strLen_append, piled_cons]
    have e1 : ((("[" : String) : Str)).length = 1 := by decide
    have e2 : (((if 0 > 0 then ", " else "" : String) : Str)).length = 0 := by decide
    omega
theorem tupleText_le (ts : List Str) : (tupleText ts).length ≤ 3 + piled ts := by
  unfold tupleText
  rw [strLen_append, strLen_append]
  have e1 : ((("(" : String) : Str)).length = 1 := by decide
  have e3 : (((if ts.length == 1 then ",)" else ")" : String) : Str)).length ≤ 2 := by split <;> decide
  by_cases h : ts = []
  · subst h
    have : (Str.join ", " []).length = 0 := rfl
    omega
  · have := join_length_add ts h
    omega
theorem shown_le : ∀ (n : Nat) (d : D), d.sh n = true → d.py.shown.length ≤ d.sz
  | n, .non, _ => by decide
  | n, .bl b, _ => by cases b <;> decide
  | n, .int i, h => by
    have := int_text_length_le (a := i) (k := i.natAbs.log2 + 1) (Nat.succ_pos _) (Nat.lt_succ_self _)
    show (Str.ofString (toString i)).length ≤ i.natAbs.log2 + 3
    rw [PySem.ofString_length]
    omega
  | n, .str x, h => by
    refine StrLaws.reprText_len x fun c hc => ?_
    have h' : PyData.strOk x = true := by simpa using h
    unfold PyData.strOk at h'
    rw [Array.all_eq_true'] at h'
    have := h' c (by simpa using hc)
    have h2 : c < 0x110000 := by simpa using this
    exact Nat.lt_trans h2 (by decide)
  | n + 1, .tup ds, h => by
    simp only [sh_tup, List.all_eq_true] at h
    have := piled_le fun d hd => shown_le n d (h d hd)
    show (tupleText (PyData.shownAll (D.pys ds))).length ≤ 3 + D.szs ds
    have := tupleText_le (PyData.shownAll (D.pys ds))
    omega
  | n + 1, .lst ds, h => by
    simp only [sh_lst, List.all_eq_true] at h
    have := piled_le fun d hd => shown_le n d (h d hd)
    show (listText (PyData.shownAll (D.pys ds))).length ≤ 2 + D.szs ds
    have := listText_le (PyData.shownAll (D.pys ds))
    omega
  | 0, .tup _, h => by simp [D.sh] at h
  | 0, .lst _, h => by simp [D.sh] at h
  | n, .dct _, h => by cases n <;> simp [D.sh] at h
  | n, .glb _, h => by cases n <;> simp [D.sh] at h
  | n, .exc _ _, h => by cases n <;> simp [D.sh] at h
  | n, .clo _ _, h => by cases n <;> simp [D.sh] at h
  | n, .pot, h => by cases n <;> simp [D.sh] at h
  | n, .own _, h => by cases n <;> simp [D.sh] at h
  | n, .scr _, h => by cases n <;> simp [D.sh] at h
  | n, .rng _ _, h => by cases n <;> simp [D.sh] at h
theorem repr_ok {d : D} (h : d.sh 60 = true) (hs : d.sz ≤ 16777216) : d.repr = some (.str d.py.shown) := by
  unfold D.repr
  have h1 := sh_plain 60 d h
  have h2 := sh_show 60 d h
  have h3 : d.py.shown.length ≤ sizeLine := Nat.le_trans (shown_le 60 d h) hs
  simp [h1, h2, h3]
/-- sizes of rows -/
theorem szs_le {l : List D} {m : Nat} (h : ∀ d ∈ l, d.sz ≤ m) : D.szs l ≤ l.length * (m + 2) := by
  induction l with
  | nil => simp [D.szs]
  | cons d l ih =>
    have h1 := h d List.mem_cons_self
    have h2 := ih fun x hx => h x (List.mem_cons_of_mem _ hx)
    simp only [D.szs, List.length_cons, Nat.succ_mul]
    omega
theorem log2_lt_of {n k : Nat} (hk : 0 < k) (h : n < 2 ^ k) : n.log2 < k := by
  by_cases h0 : n = 0
  · subst h0; simpa using hk
  · exact (Nat.log2_lt h0).mpr h
/-- a number that is not great -/
def Sm (i : Int) : Prop := -(2 ^ 62) < i ∧ i < 2 ^ 62
theorem Sm.log {i : Int} (h : Sm i) : i.natAbs.log2 < 62 := log2_lt_of (by decide) (by unfold Sm at h; omega)
theorem Sm.sh {i : Int} (h : Sm i) (n : Nat) : D.sh n (.int i) = true := by
  rw [sh_int]; exact decide_eq_true (Nat.lt_trans h.log (by decide))
theorem Sm.sz {i : Int} (h : Sm i) : D.sz (.int i) ≤ 64 := by have := h.log; simp only [D.sz]; omega
theorem Sm.mul {a b : Int} (h : Sm a) : D.mul (.int a) (.int b) = some (.int (a * b)) := mul_int (okMul_l (by unfold Sm at h; omega) (by unfold Sm at h; omega))
theorem Sm.mul' {a b : Int} (h : Sm b) : D.mul (.int a) (.int b) = some (.int (a * b)) := mul_int (okMul_r (by unfold Sm at h; omega) (by unfold Sm at h; omega))

/-! ### a mirror answers well -/
def Res.wp {α : Type} (r : Res α) (Q : α → P3 → Prop) : Prop := match r with
  | .ok a p => Q a p
  | _ => False
section
variable {α β : Type} {Q : α → P3 → Prop}
@[simp] theorem wp_ok (a : α) (p : P3) (Q : α → P3 → Prop) : (Res.ok a p).wp Q = Q a p := rfl
@[simp] theorem wp_bad (Q : α → P3 → Prop) : (Res.bad : Res α).wp Q = False := rfl
@[simp] theorem wp_err (x : Str) (v : D) (p : P3) (Q : α → P3 → Prop) : (Res.err x v p : Res α).wp Q = False := rfl
@[simp] theorem wp_bind (r : Res α) (f : α → P3 → Res β) (Q : β → P3 → Prop) : (r.bind f).wp Q = r.wp fun a p => (f a p).wp Q := by cases r <;> rfl
@[simp] theorem wp_ite (c : Prop) [Decidable c] (a b : Res α) (Q : α → P3 → Prop) : (if c then a else b).wp Q = if c then a.wp Q else b.wp Q := by split <;> rfl
def wpS (Q : Fl × En → P3 → Prop) (f : MS) : Fl × En → P3 → Prop
  | (.nx, env), p => (f env p).wp Q
  | fe, p => Q fe p
@[simp] theorem wp_bindS (r : Res (Fl × En)) (f : MS) (Q : Fl × En → P3 → Prop) : (r.bindS f).wp Q = r.wp (wpS Q f) := by
  cases r with
  | ok fe p =>
    obtain ⟨fl, env⟩ := fe
    cases fl <;> rfl
  | err x v p => rfl
  | bad => rfl
@[simp] theorem wpS_nx (Q : Fl × En → P3 → Prop) (f : MS) (env : En) (p : P3) : wpS Q f (.nx, env) p = (f env p).wp Q := rfl
@[simp] theorem wpS_ret (Q : Fl × En → P3 → Prop) (f : MS) (d : D) (env : En) (p : P3) : wpS Q f (.ret d, env) p = Q (.ret d, env) p := rfl
@[simp] theorem wpS_bk (Q : Fl × En → P3 → Prop) (f : MS) (env : En) (p : P3) : wpS Q f (.bk, env) p = Q (.bk, env) p := rfl
@[simp] theorem wpS_ct (Q : Fl × En → P3 → Prop) (f : MS) (env : En) (p : P3) : wpS Q f (.ct, env) p = Q (.ct, env) p := rfl
def wpF (Q : D → P3 → Prop) : Fl × En → P3 → Prop
  | (.ret d, _), p => Q d p
  | (.nx, _), p => Q .non p
  | _, _ => False
@[simp] theorem wp_outF (r : Res (Fl × En)) (Q : D → P3 → Prop) : (outF r).wp Q = r.wp (wpF Q) := by
  cases r with
  | ok fe p =>
    obtain ⟨fl, env⟩ := fe
    cases fl <;> rfl
  | err x v p => rfl
  | bad => rfl
@[simp] theorem wpF_ret (Q : D → P3 → Prop) (d : D) (env : En) (p : P3) : wpF Q (.ret d, env) p = Q d p := rfl
@[simp] theorem wpF_nx (Q : D → P3 → Prop) (env : En) (p : P3) : wpF Q (.nx, env) p = Q .non p := rfl
theorem Res.wp.mono {r : Res α} {Q R : α → P3 → Prop} (h : r.wp Q) (i : ∀ a p, Q a p → R a p) : r.wp R := by
  cases r with
  | ok a p => exact i a p h
  | err x v p => exact h
  | bad => exact h
theorem Res.wp.eq {r : Res α} {a : α} {p : P3} (h : r.wp fun b p1 => b = a ∧ p1 = p) : r = .ok a p := by
  cases r with
  | ok b p1 => obtain ⟨rfl, rfl⟩ := h; rfl
  | err x v p => exact h.elim
  | bad => exact h.elim
theorem wp_of_eq {r : Res α} {a : α} {p : P3} (e : r = .ok a p) (q : Q a p) : r.wp Q := by rw [e]; exact q
end
/-! loops -/
def wpL (Q : Fl × En → P3 → Prop) (I : En → P3 → Prop) : Fl × En → P3 → Prop
  | (.nx, env), p => I env p
  | (.ct, env), p => I env p
  | (.bk, env), p => Q (.nx, env) p
  | (.ret d, env), p => Q (.ret d, env) p
  | (.rtl _, _), _ => False
@[simp] theorem wpL_nx (Q : Fl × En → P3 → Prop) (I : En → P3 → Prop) (env : En) (p : P3) : wpL Q I (.nx, env) p = I env p := rfl
@[simp] theorem wpL_ct (Q : Fl × En → P3 → Prop) (I : En → P3 → Prop) (env : En) (p : P3) : wpL Q I (.ct, env) p = I env p := rfl
@[simp] theorem wpL_bk (Q : Fl × En → P3 → Prop) (I : En → P3 → Prop) (env : En) (p : P3) : wpL Q I (.bk, env) p = Q (.nx, env) p := rfl
@[simp] theorem wpL_ret (Q : Fl × En → P3 → Prop) (I : En → P3 → Prop) (d : D) (env : En) (p : P3) : wpL Q I (.ret d, env) p = Q (.ret d, env) p := rfl
theorem forL_wp {bind : D → En → Option En} {mb : MS} {Q : Fl × En → P3 → Prop} (I : List D → En → P3 → Prop)
    (step : ∀ x xs env p, I (x :: xs) env p → ∃ env1, bind x env = some env1 ∧ (mb env1 p).wp (wpL Q (I xs))) (fin : ∀ env p, I [] env p → Q (.nx, env) p) :
    ∀ (ds : List D) (env : En) (p : P3), I ds env p → (forL bind mb ds env p).wp Q
  | [], env, p, h => fin env p h
  | x :: xs, env, p, h => by
    obtain ⟨env1, e, q⟩ := step x xs env p h
    unfold forL
    rw [e]
    dsimp only
    cases r : mb env1 p with
    | bad => rw [r] at q; exact q
    | err x v p1 => rw [r] at q; exact q
    | ok fe p1 =>
      obtain ⟨fl, e1⟩ := fe
      rw [r] at q
      cases fl with
      | nx => exact forL_wp I step fin xs e1 p1 q
      | ct => exact forL_wp I step fin xs e1 p1 q
      | bk => exact q
      | ret d => exact q
      | rtl d => exact q.elim
theorem whileL_wp {c : MB} {mb : MS} {Q : Fl × En → P3 → Prop} (I : Nat → En → P3 → Prop)
    (step : ∀ n env p, I n env p → (c (vwOf env) p).wp fun k p1 => if k = true then ∃ m, n = m + 1 ∧ (mb env p1).wp (wpL Q (I m)) else Q (.nx, env) p1) :
    ∀ (n : Nat) (env : En) (p : P3), I n env p → ∀ f, n < f → (whileL c mb f env p).wp Q
  | n, env, p, h, 0, hf => absurd hf (Nat.not_lt_zero _)
  | n, env, p, h, f + 1, hf => by
    have q := step n env p h
    unfold whileL
    cases r : c (vwOf env) p with
    | bad => rw [r] at q; exact q
    | err x v p1 => rw [r] at q; exact q
    | ok k p1 =>
      rw [r] at q
      cases k with
      | false => exact q
      | true =>
        obtain ⟨m, rfl, q⟩ := q
        dsimp only
        cases r2 : mb env p1 with
        | bad => rw [r2] at q; exact q
        | err x v p1 => rw [r2] at q; exact q
        | ok fe p2 =>
          obtain ⟨fl, e1⟩ := fe
          rw [r2] at q
          cases fl with
          | nx => exact whileL_wp I step m e1 p2 q f (by omega)
          | ct => exact whileL_wp I step m e1 p2 q f (by omega)
          | bk => exact q
          | ret d => exact q
          | rtl d => exact q.elim
theorem lcGo_wp {bind : D → Vw → Option Vw} {mt : MB} {me : ME} {vw : Vw} {Q : List D → P3 → Prop} (I : List D → List D → P3 → Prop)
    (step : ∀ x xs ys p, I (x :: xs) ys p → ∃ vw1, bind x vw = some vw1 ∧ (mt vw1 p).wp fun k p1 => if k = true then (me vw1 p1).wp fun y p2 => I xs (ys ++ [y]) p2 else I xs ys p1) :
    ∀ (ds acc : List D) (p : P3), I ds acc p → (∀ ys p, I [] (acc ++ ys) p → Q ys p) → (lcGo bind mt me vw ds p).wp Q
  | [], acc, p, h, fin => fin [] p (by rw [List.append_nil]; exact h)
  | x :: xs, acc, p, h, fin => by
    obtain ⟨vw1, e, q⟩ := step x xs acc p h
    unfold lcGo
    rw [e]
    dsimp only
    cases r : mt vw1 p with
    | bad => rw [r] at q; exact q
    | err x v p1 => rw [r] at q; exact q.elim
    | ok k p1 =>
      rw [r] at q
      cases k with
      | false => exact lcGo_wp I step xs acc p1 q fin
      | true =>
        simp only [wp_ok, if_pos rfl] at q
        simp only [strict, bind_ok, if_pos rfl]
        cases r2 : me vw1 p1 with
        | bad => rw [r2] at q; exact q.elim
        | err x v p1 => rw [r2] at q; exact q.elim
        | ok y p2 =>
          rw [r2] at q
          simp only [strict, bind_ok, if_true, wp_bind, wp_ok]
          exact lcGo_wp I step xs (acc ++ [y]) p2 q fun ys p h => fin (y :: ys) p (by rw [List.append_assoc] at h; exact h)
/-- a comprehension that draws nothing -/
theorem lcGo_pure {bind : D → Vw → Option Vw} {mt : MB} {me : ME} {vw : Vw} {p : P3} (t : D → Bool) (f : D → D) :
    ∀ (ds : List D), (∀ x ∈ ds, ∃ vw1, bind x vw = some vw1 ∧ mt vw1 p = .ok (t x) p ∧ (t x = true → me vw1 p = .ok (f x) p)) → lcGo bind mt me vw ds p = .ok ((ds.filter t).map f) p
  | [], h => rfl
  | x :: xs, h => by
    obtain ⟨vw1, e, h1, h2⟩ := h x List.mem_cons_self
    have ih := lcGo_pure t f xs fun y hy => h y (List.mem_cons_of_mem _ hy)
    unfold lcGo
    rw [e]
    dsimp only
    rw [h1]
    cases ht : t x with
    | false => simp [strict, ht, ih]
    | true => simp [strict, ht, ih, h2 ht]
theorem lcGo_map {bind : D → Vw → Option Vw} {me : ME} {vw : Vw} {p : P3} (f : D → D) (ds : List D) (h : ∀ x ∈ ds, ∃ vw1, bind x vw = some vw1 ∧ me vw1 p = .ok (f x) p) : lcGo bind bTrue me vw ds p = .ok (ds.map f) p := by
  have := lcGo_pure (mt := bTrue) (p := p) (me := me) (fun _ => true) f ds fun x hx => let ⟨v, h1, h2⟩ := h x hx; ⟨v, h1, rfl, fun _ => h2⟩
  rwa [List.filter_eq_self.mpr fun _ _ => rfl] at this
theorem bools_map {α : Type} (t : α → Bool) (l : List α) : D.bools (l.map fun x => .bl (t x)) = some (l.map t) := by
  induction l with
  | nil => rfl
  | cons x l ih => simp [D.bools, ih]
theorem dAll_map {α : Type} (t : α → Bool) (l : List α) : dAll [.lst (l.map fun x => .bl (t x))] = some (.bl (l.all t)) := by
  simp [dAll, bools_map, Function.comp_def]
theorem dAny_map {α : Type} (t : α → Bool) (l : List α) : dAny [.lst (l.map fun x => .bl (t x))] = some (.bl (l.any t)) := by
  simp [dAny, bools_map, Function.comp_def]
theorem ints_map {α : Type} (t : α → Int) (l : List α) : D.ints (l.map fun x => .int (t x)) = some (l.map t) := by
  induction l with
  | nil => rfl
  | cons x l ih => simp [D.ints, ih]
end VL

namespace VL
open PySem PySem.Spec PyProof.Rows L2 LamX
/-! ### isinstance, at every kind of value -/
section
variable {p : P3}
@[simp] theorem isi_non_tuple : isiOn "tuple" .non p = .ok (.bl false) p := by show ofO ((kitB "NoneType" "tuple").map D.bl) p = _; rw [show kitB "NoneType" "tuple" = some false from by decide +kernel]; rfl
@[simp] theorem isi_non_int : isiOn "int" .non p = .ok (.bl false) p := by show ofO ((kitB "NoneType" "int").map D.bl) p = _; rw [show kitB "NoneType" "int" = some false from by decide +kernel]; rfl
@[simp] theorem isi_non_bool : isiOn "bool" .non p = .ok (.bl false) p := by show ofO ((kitB "NoneType" "bool").map D.bl) p = _; rw [show kitB "NoneType" "bool" = some false from by decide +kernel]; rfl
@[simp] theorem isi_non_str : isiOn "str" .non p = .ok (.bl false) p := by show ofO ((kitB "NoneType" "str").map D.bl) p = _; rw [show kitB "NoneType" "str" = some false from by decide +kernel]; rfl
@[simp] theorem isi_non_list : isiOn "list" .non p = .ok (.bl false) p := by show ofO ((kitB "NoneType" "list").map D.bl) p = _; rw [show kitB "NoneType" "list" = some false from by decide +kernel]; rfl
@[simp] theorem isi_non_dict : isiOn "dict" .non p = .ok (.bl false) p := by show ofO ((kitB "NoneType" "dict").map D.bl) p = _; rw [show kitB "NoneType" "dict" = some false from by decide +kernel]; rfl
@[simp] theorem isi_bl_tuple (b : Bool) : isiOn "tuple" (.bl b) p = .ok (.bl false) p := by show ofO ((kitB "bool" "tuple").map D.bl) p = _; rw [show kitB "bool" "tuple" = some false from by decide +kernel]; rfl
@[simp] theorem isi_bl_int (b : Bool) : isiOn "int" (.bl b) p = .ok (.bl true) p := by show ofO ((kitB "bool" "int").map D.bl) p = _; rw [show kitB "bool" "int" = some true from by decide +kernel]; rfl
@[simp] theorem isi_bl_bool (b : Bool) : isiOn "bool" (.bl b) p = .ok (.bl true) p := by show ofO ((kitB "bool" "bool").map D.bl) p = _; rw [show kitB "bool" "bool" = some true from by decide +kernel]; rfl
@[simp] theorem isi_bl_str (b : Bool) : isiOn "str" (.bl b) p = .ok (.bl false) p := by show ofO ((kitB "bool" "str").map D.bl) p = _; rw [show kitB "bool" "str" = some false from by decide +kernel]; rfl
@[simp] theorem isi_bl_list (b : Bool) : isiOn "list" (.bl b) p = .ok (.bl false) p := by show ofO ((kitB "bool" "list").map D.bl) p = _; rw [show kitB "bool" "list" = some false from by decide +kernel]; rfl
@[simp] theorem isi_bl_dict (b : Bool) : isiOn "dict" (.bl b) p = .ok (.bl false) p := by show ofO ((kitB "bool" "dict").map D.bl) p = _; rw [show kitB "bool" "dict" = some false from by decide +kernel]; rfl
@[simp] theorem isi_int_tuple (i : Int) : isiOn "tuple" (.int i) p = .ok (.bl false) p := by show ofO ((kitB "int" "tuple").map D.bl) p = _; rw [show kitB "int" "tuple" = some false from by decide +kernel]; rfl
@[simp] theorem isi_int_int (i : Int) : isiOn "int" (.int i) p = .ok (.bl true) p := by show ofO ((kitB "int" "int").map D.bl) p = _; rw [show kitB "int" "int" = some true from by decide +kernel]; rfl
@[simp] theorem isi_int_bool (i : Int) : isiOn "bool" (.int i) p = .ok (.bl false) p := by show ofO ((kitB "int" "bool").map D.bl) p = _; rw [show kitB "int" "bool" = some false from by decide +kernel]; rfl
@[simp] theorem isi_int_str (i : Int) : isiOn "str" (.int i) p = .ok (.bl false) p := by show ofO ((kitB "int" "str").map D.bl) p = _; rw [show kitB "int" "str" = some false from by decide +kernel]; rfl
@[simp] theorem isi_int_list (i : Int) : isiOn "list" (.int i) p = .ok (.bl false) p := by show ofO ((kitB "int" "list").map D.bl) p = _; rw [show kitB "int" "list" = some false from by decide +kernel]; rfl
@[simp] theorem isi_int_dict (i : Int) : isiOn "dict" (.int i) p = .ok (.bl false) p := by show ofO ((kitB "int" "dict").map D.bl) p = _; rw [show kitB "int" "dict" = some false from by decide +kernel]; rfl
@[simp] theorem isi_str_tuple (x : Str) : isiOn "tuple" (.str x) p = .ok (.bl false) p := by show ofO ((kitB "str" "tuple").map D.bl) p = _; rw [show kitB "str" "tuple" = some false from by decide +kernel]; rfl
@[simp] theorem isi_str_int (x : Str) : isiOn "int" (.str x) p = .ok (.bl false) p := by show ofO ((kitB "str" "int").map D.bl) p = _; rw [show kitB "str" "int" = some false from by decide +kernel]; rfl
@[simp] theorem isi_str_bool (x : Str) : isiOn "bool" (.str x) p = .ok (.bl false) p := by show ofO ((kitB "str" "bool").map D.bl) p = _; rw [show kitB "str" "bool" = some false from by decide +kernel]; rfl
@[simp] theorem isi_str_str (x : Str) : isiOn "str" (.str x) p = .ok (.bl true) p := by show ofO ((kitB "str" "str").map D.bl) p = _; rw [show kitB "str" "str" = some true from by decide +kernel]; rfl
@[simp] theorem isi_str_list (x : Str) : isiOn "list" (.str x) p = .ok (.bl false) p := by show ofO ((kitB "str" "list").map D.bl) p = _; rw [show kitB "str" "list" = some false from by decide +kernel]; rfl
@[simp] theorem isi_str_dict (x : Str) : isiOn "dict" (.str x) p = .ok (.bl false) p := by show ofO ((kitB "str" "dict").map D.bl) p = _; rw [show kitB "str" "dict" = some false from by decide +kernel]; rfl
@[simp] theorem isi_tup_tuple (ds : List D) : isiOn "tuple" (.tup ds) p = .ok (.bl true) p := by show ofO ((kitB "tuple" "tuple").map D.bl) p = _; rw [show kitB "tuple" "tuple" = some true from by decide +kernel]; rfl
@[simp] theorem isi_tup_int (ds : List D) : isiOn "int" (.tup ds) p = .ok (.bl false) p := by show ofO ((kitB "tuple" "int").map D.bl) p = _; rw [show kitB "tuple" "int" = some false from by decide +kernel]; rfl
@[simp] theorem isi_tup_bool (ds : List D) : isiOn "bool" (.tup ds) p = .ok (.bl false) p := by show ofO ((kitB "tuple" "bool").map D.bl) p = _; rw [show kitB "tuple" "bool" = some false from by decide +kernel]; rfl
@[simp] theorem isi_tup_str (ds : List D) : isiOn "str" (.tup ds) p = .ok (.bl false) p := by show ofO ((kitB "tuple" "str").map D.bl) p = _; rw [show kitB "tuple" "str" = some false from by decide +kernel]; rfl
@[simp] theorem isi_tup_list (ds : List D) : isiOn "list" (.tup ds) p = .ok (.bl false) p := by show ofO ((kitB "tuple" "list").map D.bl) p = _; rw [show kitB "tuple" "list" = some false from by decide +kernel]; rfl
@[simp] theorem isi_tup_dict (ds : List D) : isiOn "dict" (.tup ds) p = .ok (.bl false) p := by show ofO ((kitB "tuple" "dict").map D.bl) p = _; rw [show kitB "tuple" "dict" = some false from by decide +kernel]; rfl
@[simp] theorem isi_lst_tuple (ds : List D) : isiOn "tuple" (.lst ds) p = .ok (.bl false) p := by show ofO ((kitB "list" "tuple").map D.bl) p = _; rw [show kitB "list" "tuple" = some false from by decide +kernel]; rfl
@[simp] theorem isi_lst_int (ds : List D) : isiOn "int" (.lst ds) p = .ok (.bl false) p := by show ofO ((kitB "list" "int").map D.bl) p = _; rw [show kitB "list" "int" = some false from by decide +kernel]; rfl
@[simp] theorem isi_lst_bool (ds : List D) : isiOn "bool" (.lst ds) p = .ok (.bl false) p := by show ofO ((kitB "list" "bool").map D.bl) p = _; rw [show kitB "list" "bool" = some false from by decide +kernel]; rfl
@[simp] theorem isi_lst_str (ds : List D) : isiOn "str" (.lst ds) p = .ok (.bl false) p := by show ofO ((kitB "list" "str").map D.bl) p = _; rw [show kitB "list" "str" = some false from by decide +kernel]; rfl
@[simp] theorem isi_lst_list (ds : List D) : isiOn "list" (.lst ds) p = .ok (.bl true) p := by show ofO ((kitB "list" "list").map D.bl) p = _; rw [show kitB "list" "list" = some true from by decide +kernel]; rfl
@[simp] theorem isi_lst_dict (ds : List D) : isiOn "dict" (.lst ds) p = .ok (.bl false) p := by show ofO ((kitB "list" "dict").map D.bl) p = _; rw [show kitB "list" "dict" = some false from by decide +kernel]; rfl
end
/-! ### cuts -/
theorem sIx_pos (n d : Nat) {i : Int} (h : 0 ≤ i) : HT.sIx n d (some i) = min i.toNat n := by unfold HT.sIx; dsimp only; rw [if_neg (by omega)]
theorem cutL_to {α : Type} (xs : List α) {i : Int} (h : 0 ≤ i) : cutL xs none (some i) = xs.take i.toNat := by
  unfold cutL
  rw [sIx_pos _ _ h]
  simp [HT.sIx, List.take_eq_take_iff]
theorem cutL_from {α : Type} (xs : List α) {i : Int} (h : 0 ≤ i) : cutL xs (some i) none = xs.drop i.toNat := by
  unfold cutL
  rw [sIx_pos _ _ h]
  simp only [HT.sIx]
  by_cases hl : i.toNat ≤ xs.length
  · rw [Nat.min_eq_left hl, List.take_of_length_le (by simp)]
  · rw [Nat.min_eq_right (by omega), List.drop_of_length_le (Nat.le_refl _), List.drop_of_length_le (by omega)]
    simp
@[simp] theorem cutL_0 {α : Type} (xs : List α) (i : Nat) : cutL xs none (some (OfNat.ofNat i)) = xs.take i := cutL_to xs (Int.natCast_nonneg i)
@[simp] theorem cutL_1 {α : Type} (xs : List α) : cutL xs (some 1) none = xs.drop 1 := cutL_from xs (by decide)
@[simp] theorem cutL_m1 {α : Type} (xs : List α) : cutL xs none (some (-1)) = xs.take (xs.length - 1) := by
  unfold cutL HT.sIx
  simp only [Nat.sub_zero, List.drop_zero]
  rw [if_pos (by decide)]
  congr 1
  omega
@[simp] theorem cutL_l1 {α : Type} (xs : List α) : cutL xs (some (-1)) none = xs.drop (xs.length - 1) := by
  unfold cutL HT.sIx
  simp only [Nat.sub_zero]
  rw [if_pos (by decide), show (-1 + (xs.length : Int)).toNat = xs.length - 1 from by omega]
  rw [List.take_of_length_le (by simp)]
/-! ### sizes -/
theorem szs_append : ∀ (a b : List D), D.szs (a ++ b) = D.szs a + D.szs b
  | [], b => by simp [D.szs]
  | d :: a, b => by simp [D.szs, szs_append a b]; omega
theorem szs_take (a : List D) (n : Nat) : D.szs (a.take n) ≤ D.szs a := by
  have := szs_append (a.take n) (a.drop n)
  rw [List.take_append_drop] at this
  omega
theorem szs_drop (a : List D) (n : Nat) : D.szs (a.drop n) ≤ D.szs a := by
  have := szs_append (a.take n) (a.drop n)
  rw [List.take_append_drop] at this
  omega
theorem szs_reverse (a : List D) : D.szs a.reverse = D.szs a := by
  induction a with
  | nil => rfl
  | cons d a ih => rw [List.reverse_cons, szs_append, ih]; simp [D.szs]; omega
theorem sz_mem {a : List D} {d : D} (h : d ∈ a) : d.sz + 2 ≤ D.szs a := by
  induction a with
  | nil => cases h
  | cons e a ih =>
    simp only [D.szs]
    rcases List.mem_cons.mp h with rfl | h
    · omega
    · have := ih h; omega
theorem len_szs (a : List D) : 2 * a.length ≤ D.szs a := by
  induction a with
  | nil => simp [D.szs]
  | cons d a ih => simp only [D.szs, List.length_cons]; omega
/-! ### pots and draws -/
def Pot (n : Nat) (p : P3) : Prop := ∃ x y z : Int, p = some (x, y, z) ∧ 0 ≤ x ∧ 0 ≤ y ∧ y < 2 ^ 61 ∧ 0 ≤ z ∧ z ≤ n
theorem Pot.mono {n m : Nat} {p : P3} (h : Pot n p) (l : n ≤ m) : Pot m p := by
  obtain ⟨x, y, z, h1, h2, h3, h4, h5, h6⟩ := h
  exact ⟨x, y, z, h1, h2, h3, h4, h5, by omega⟩
section
variable {vw : Vw} {env : En} {p : P3}
def ixOn (k : Nat) : D → P3 → Res D := fun d p1 => match d, pGet p1 k with
  | .pot, some i => .ok (.int i) p1
  | _, _ => .bad
@[simp] theorem ev_potIx (m : ME) (k : Nat) : mPotIx m k vw p = (m vw p).bind (ixOn k) := rfl
@[simp] theorem ixOn_0 (x y z : Int) : ixOn 0 .pot (some (x, y, z)) = .ok (.int x) (some (x, y, z)) := rfl
@[simp] theorem ixOn_1 (x y z : Int) : ixOn 1 .pot (some (x, y, z)) = .ok (.int y) (some (x, y, z)) := rfl
@[simp] theorem ixOn_2 (x y z : Int) : ixOn 2 .pot (some (x, y, z)) = .ok (.int z) (some (x, y, z)) := rfl
def psOn (k : Nat) (env : En) (d : D) (p : P3) : Option (Option Sl) → Res (Fl × En) := fun o => match o, d, pGet p k with
  | some (some (.p .pot)), .int v, some _ => .ok (.nx, env) (pPut p k v)
  | _, _, _ => .bad
@[simp] theorem ev_potSet (i k : Nat) (me : ME) : sPotSet i k me env p = (me (vwOf env) p).bind fun d p1 => psOn k env d p1 env[i]? := onV_bind me _
@[simp] theorem psOn_0 (x y z v : Int) : psOn 0 env (.int v) (some (x, y, z)) (some (some (.p .pot))) = .ok (.nx, env) (some (v, y, z)) := rfl
@[simp] theorem psOn_2 (x y z v : Int) : psOn 2 env (.int v) (some (x, y, z)) (some (some (.p .pot))) = .ok (.nx, env) (some (x, y, v)) := rfl
end
/-- the draw -/
def tkB (t1 t2 t3 t4 t5 : Int) : MS := sSeq (xIf [] (toB (m2 (D.cmp fGt) (mPotIx (mVar 0) 0) (mC (.int 0)))) (sSeq (xSet [] 2 (m2 D.fmod (mN dInt (mCons (mPotIx (mVar 0) 0) (mNil))) (mVar 1))) (sSeq (sPotSet 0 0 (m2 D.fdiv (mPotIx (mVar 0) 0) (mVar 1))) (sRet (mVar 2)))) (sNil)) (sSeq (sPotSet 0 2 (m2 D.add (mPotIx (mVar 0) 2) (mC (.int 1)))) (sSeq (xSet [] 3 (m2 D.ix (mLst (lenOk (mCons (mC (.int 2147483647)) (mCons (mC (.int 2147483629)) (mCons (mC (.int 2147483587)) (mCons (mC (.int 2147483579)) (mCons (mC (.int 2147483563)) (mNil)))))))) (m2 D.fmod (mN dInt (mCons (mPotIx (mVar 0) 2) (mNil))) (mC (.int 5))))) (sSeq (xSet [] 4 (m2 D.fmod (mN dInt (mCons (m2 D.powW (mN dInt (mCons (m2 D.add (m2 D.add (mPotIx (mVar 0) 1) (m2 D.mul (m2 D.mul (mC (.int t1)) (mPotIx (mVar 0) 2)) (mPotIx (mVar 0) 2))) (mC (.int t2))) (mNil))) (mC (.int 3))) (mNil))) (mVar 3))) (sSeq (xSet [] 4 (m2 D.fmod (mN dInt (mCons (m2 D.mul (mVar 4) (m2 D.add (m2 D.fmod (mN dInt (mCons (mVar 4) (mNil))) (mC (.int t3))) (m2 D.mul (mC (.int t4)) (mPotIx (mVar 0) 2)))) (mNil))) (mC (.int 2305843009213693907)))) (sRet (m2 D.fmod (mN dInt (mCons (m2 D.fdiv (mVar 4) (mC (.int t5))) (mNil))) (mVar 1)))))))
/-- a draw from 0 to k - 1 -/
def TkOk (tk : List D → P3 → Res D) : Prop := ∀ (n : Nat) (k : Int) (p : P3) (Q : D → P3 → Prop), Pot n p → n < 2 ^ 60 → 0 < k → k < 2 ^ 62 → (∀ r p', 0 ≤ r → r < k → Pot (n + 1) p' → Q (.int r) p') → (tk [.pot, .int k] p).wp Q
theorem powW_3 {a : Int} (h : a.natAbs < 2 ^ 1000) : D.powW (.int a) (.int 3) = some (.int (a ^ 3)) := by
  show (if _ then some (D.int (a ^ (3 : Int).toNat)) else none) = _
  have hb : Builtin.Int.intBits a ≤ 1001 := by
    unfold Builtin.Int.intBits
    split
    · omega
    · have := log2_lt_of (n := a.natAbs) (k := 1000) (by decide) h
      omega
  rw [if_pos ⟨by decide, .inr (by omega)⟩]
  rfl
theorem prime_ix {z : Int} (h : 0 ≤ z) : ∃ q : Int, D.ix (.lst [.int 2147483647, .int 2147483629, .int 2147483587, .int 2147483579, .int 2147483563]) (.int (z.fmod 5)) = some (.int q) ∧ 0 < q ∧ q < 2 ^ 31 := by
  have h1 := Int.fmod_nonneg_of_pos z (b := 5) (by decide)
  have h2 := Int.fmod_lt_of_pos z (b := 5) (by decide)
  generalize z.fmod 5 = r at h1 h2
  rcases (show r = 0 ∨ r = 1 ∨ r = 2 ∨ r = 3 ∨ r = 4 by omega) with rfl | rfl | rfl | rfl | rfl
  all_goals exact ⟨_, rfl, by decide, by decide⟩
theorem tk_ok {t1 t2 t3 t4 t5 : Int} (h1 : Sm t1) (h2 : Sm t2) (h3 : 0 < t3) (h4 : Sm t4) (h5 : 0 < t5) (h5' : t5 < 2 ^ 62) : TkOk (callF 5 2 (tkB t1 t2 t3 t4 t5)) := by
  intro n k p Q hp hn hk hk' q
  obtain ⟨x, y, z, rfl, hx, hy, hy', hz, hz'⟩ := hp
  rw [callF_ok (ds := [D.pot, D.int k]) (np := 2) rfl]
  unfold tkB
  by_cases hx0 : 0 < x
  · simp [env0, hx0, fmod_int (show k ≠ 0 by omega), fdiv_int (okDiv_i hk (by omega))]
    exact q _ _ (Int.fmod_nonneg_of_pos _ hk) (Int.fmod_lt_of_pos _ hk) ⟨_, _, _, rfl, Int.fdiv_nonneg hx (by omega), hy, hy', hz, by omega⟩
  · have sz : Sm (z + 1) := by unfold Sm; omega
    obtain ⟨pr, e1, hq, hq'⟩ := prime_ix (z := z + 1) (by omega)
    have hpw : (y + t1 * (z + 1) * (z + 1) + t2).natAbs < 2 ^ 1000 := by
      have a1 : t1.natAbs < 2 ^ 62 := by unfold Sm at h1; omega
      have a2 : t2.natAbs < 2 ^ 62 := by unfold Sm at h2; omega
      have a3 : (z + 1).natAbs < 2 ^ 62 := by unfold Sm at sz; omega
      have a4 : (t1 * (z + 1) * (z + 1)).natAbs ≤ 2 ^ 62 * 2 ^ 62 * 2 ^ 62 := by
        rw [Int.natAbs_mul, Int.natAbs_mul]
        exact Nat.mul_le_mul (Nat.mul_le_mul (Nat.le_of_lt a1) (Nat.le_of_lt a3)) (Nat.le_of_lt a3)
      have a5 : (2 : Nat) ^ 62 * 2 ^ 62 * 2 ^ 62 + 2 ^ 63 < 2 ^ 1000 := by decide +kernel
      omega
    simp only [ev_seq, ev_xIf, frzE_nil, onEnv_some, env0, List.map_cons, List.map_nil, List.length_cons, List.length_nil, Nat.reduceSub, Nat.reduceAdd, List.replicate, List.cons_append, List.nil_append, vwOf_p, vwOf_n, vwOf_nil, ev_toB, ev_m2, ev_potIx, ev_var0, bind_ok, ixOn_0, ev_c, cmp_int, ofO_some, asB_bl, decide_eq_false hx0, Bool.false_eq_true, if_false, ev_sNil, bindS_nx,
      ev_potSet, ixOn_2, add_int, psOn_2, List.getElem?_cons_zero, ev_xSet, onX_nil, ev_lst, ev_lenOk, ev_cons, ev_nil, ev_mN, dInt_int, fmod_int (show (5 : Int) ≠ 0 by decide), e1, setE_S, setE_0, ixOn_1, h1.mul, sz.mul', powW_3 hpw, ev_varS, fmod_int (show pr ≠ 0 by omega), outF_bind, bindS_bind,
      show ((0 + 1 + 1 + 1 + 1 + 1 : Nat) ≤ sizeLine) = True from by decide, if_true, Nat.zero_add]
    have hb1 := Int.fmod_nonneg_of_pos ((y + t1 * (z + 1) * (z + 1) + t2) ^ 3) hq
    have hb2 := Int.fmod_lt_of_pos ((y + t1 * (z + 1) * (z + 1) + t2) ^ 3) hq
    have sb : Sm (((y + t1 * (z + 1) * (z + 1) + t2) ^ 3).fmod pr) := by unfold Sm; omega
    simp [sb.mul, h4.mul, fmod_int (show t3 ≠ 0 by omega), fmod_int (show (2305843009213693907 : Int) ≠ 0 by decide), fdiv_int (okDiv_i h5 (by omega)), fmod_int (show k ≠ 0 by omega)]
    exact q _ _ (Int.fmod_nonneg_of_pos _ hk) (Int.fmod_lt_of_pos _ hk) ⟨_, _, _, rfl, hx, hy, hy', by omega, by omega⟩
end VL

namespace VL
open PySem PySem.Spec PyProof.Rows L2 LamX
/-! ### repr(a) == repr(b), by the data -/
mutual
def D.same : D → D → Bool
  | .non, .non => true
  | .bl a, .bl b => a == b
  | .int a, .int b => a == b
  | .str a, .str b => a == b
  | .tup a, .tup b => D.sames a b
  | .lst a, .lst b => D.sames a b
  | _, _ => false
def D.sames : List D → List D → Bool
  | [], [] => true
  | a :: as, b :: bs => a.same b && D.sames as bs
  | _, _ => false
end
mutual
theorem D.same_eq : ∀ (a b : D), a.same b = true → a = b
  | .non, b, h => by cases b <;> simp [D.same] at h ⊢
  | .bl a, b, h => by cases b <;> simp [D.same] at h ⊢; exact h
  | .int a, b, h => by cases b <;> simp [D.same] at h ⊢; exact h
  | .str a, b, h => by cases b <;> simp [D.same] at h ⊢; exact h
  | .tup a, b, h => by cases b <;> simp [D.same] at h ⊢; exact D.sames_eq a _ h
  | .lst a, b, h => by cases b <;> simp [D.same] at h ⊢; exact D.sames_eq a _ h
  | .dct _, b, h => by simp [D.same] at h
  | .glb _, b, h => by simp [D.same] at h
  | .exc _ _, b, h => by simp [D.same] at h
  | .clo _ _, b, h => by simp [D.same] at h
  | .own _, b, h => by simp [D.same] at h
  | .pot, b, h => by simp [D.same] at h
  | .scr _, b, h => by simp [D.same] at h
  | .rng _ _, b, h => by simp [D.same] at h
theorem D.sames_eq : ∀ (a b : List D), D.sames a b = true → a = b
  | [], b, h => by cases b <;> simp [D.sames] at h ⊢
  | a :: as, b, h => by
    cases b with
    | nil => simp [D.sames] at h
    | cons b bs =>
      simp only [D.sames, Bool.and_eq_true] at h
      rw [D.same_eq a b h.1, D.sames_eq as bs h.2]
end
def reprSame (x y : D) : Bool := x.same y || x.py.shown == y.py.shown
theorem reprSame_eq (x y : D) : reprSame x y = (x.py.shown == y.py.shown) := by
  unfold reprSame
  cases h : x.same y with
  | false => rfl
  | true => rw [D.same_eq x y h]; simp
@[simp] theorem reprSame_self (x : D) : reprSame x x = true := by rw [reprSame_eq]; simp
/-- what repr serves -/
def D.rp (d : D) : Bool := d.sh 60 && decide (d.sz ≤ 16777216)
theorem rp_repr {d : D} (h : d.rp = true) : d.repr = some (.str d.py.shown) := by
  obtain ⟨h1, h2⟩ := Bool.and_eq_true_iff.mp h
  exact repr_ok h1 (by simpa using h2)
def mReprEq (ma mb : ME) : ME := fun vw p => (ma vw p).bind fun x p1 => if x.rp = true then (mb vw p1).bind fun y p2 => if y.rp = true then .ok (.bl (reprSame x y)) p2 else .bad else .bad
def mReprNe (ma mb : ME) : ME := fun vw p => (ma vw p).bind fun x p1 => if x.rp = true then (mb vw p1).bind fun y p2 => if y.rp = true then .ok (.bl (!reprSame x y)) p2 else .bad else .bad
section
variable {X : Cx} {J : Jc} {e : Expr} {m m' : ME}
theorem ve_ref (h : VE X J e m) (r : ∀ vw p, m' vw p = .bad ∨ m' vw p = m vw p) : VE X J e m' := by
  refine pe_imp h fun σ H Q ⟨vw, p, rr, s, q⟩ => ⟨vw, p, rr, s, ?_⟩
  rcases r vw p with z | z
  · rw [z] at q; exact q.elim
  · rw [← z]; exact q
theorem toB_ref (r : ∀ vw p, m' vw p = .bad ∨ m' vw p = m vw p) (vw : Vw) (p : P3) : toB m' vw p = .bad ∨ toB m' vw p = toB m vw p := by
  rcases r vw p with z | z
  · left; simp [z]
  · right; simp [z]
theorem vt_ref {n n' : MB} (h : VT X J e n) (r : ∀ vw p, n' vw p = .bad ∨ n' vw p = n vw p) : VT X J e n' := by
  refine pt_imp h fun σ H Q ⟨vw, p, rr, s, q⟩ => ⟨vw, p, rr, s, ?_⟩
  rcases r vw p with z | z
  · rw [z] at q; exact q.elim
  · rw [← z]; exact q
theorem reprEq_ref (ma mb : ME) (vw : Vw) (p : P3) : mReprEq ma mb vw p = .bad ∨ mReprEq ma mb vw p = m2 D.eq (mN dRepr (mCons ma mNil)) (mN dRepr (mCons mb mNil)) vw p := by
  unfold mReprEq
  cases h1 : ma vw p with
  | bad => left; rfl
  | err x v p1 => right; simp [h1]
  | ok x p1 =>
    simp only [bind_ok]
    split
    · rename_i hx
      cases h2 : mb vw p1 with
      | bad => left; rfl
      | err x v p1 => right; simp [h1, h2, rp_repr hx]
      | ok y p2 =>
        simp only [bind_ok]
        split
        · rename_i hy
          right
          simp [h1, h2, rp_repr hx, rp_repr hy, reprSame_eq]
        · left; rfl
    · left; rfl
theorem reprNe_ref (ma mb : ME) (vw : Vw) (p : P3) : mReprNe ma mb vw p = .bad ∨ mReprNe ma mb vw p = m2 D.ne (mN dRepr (mCons ma mNil)) (mN dRepr (mCons mb mNil)) vw p := by
  unfold mReprNe
  cases h1 : ma vw p with
  | bad => left; rfl
  | err x v p1 => right; simp [h1]
  | ok x p1 =>
    simp only [bind_ok]
    split
    · rename_i hx
      cases h2 : mb vw p1 with
      | bad => left; rfl
      | err x v p1 => right; simp [h1, h2, rp_repr hx]
      | ok y p2 =>
        simp only [bind_ok]
        split
        · rename_i hy
          right
          simp [h1, h2, rp_repr hx, rp_repr hy, reprSame_eq]
        · left; rfl
    · left; rfl
theorem ve_rpEq {ma mb : ME} (h : VE X J e (m2 D.eq (mN dRepr (mCons ma mNil)) (mN dRepr (mCons mb mNil)))) : VE X J e (mReprEq ma mb) := ve_ref h (reprEq_ref ma mb)
theorem ve_rpNe {ma mb : ME} (h : VE X J e (m2 D.ne (mN dRepr (mCons ma mNil)) (mN dRepr (mCons mb mNil)))) : VE X J e (mReprNe ma mb) := ve_ref h (reprNe_ref ma mb)
theorem vt_rpEq {ma mb : ME} (h : VT X J e (toB (m2 D.eq (mN dRepr (mCons ma mNil)) (mN dRepr (mCons mb mNil))))) : VT X J e (toB (mReprEq ma mb)) := vt_ref h (toB_ref (reprEq_ref ma mb))
theorem vt_rpNe {ma mb : ME} (h : VT X J e (toB (m2 D.ne (mN dRepr (mCons ma mNil)) (mN dRepr (mCons mb mNil))))) : VT X J e (toB (mReprNe ma mb)) := vt_ref h (toB_ref (reprNe_ref ma mb))
end
@[simp] theorem ev_reprEq (ma mb : ME) (vw : Vw) (p : P3) : mReprEq ma mb vw p = (ma vw p).bind fun x p1 => if x.rp = true then (mb vw p1).bind fun y p2 => if y.rp = true then .ok (.bl (reprSame x y)) p2 else .bad else .bad := rfl
@[simp] theorem ev_reprNe (ma mb : ME) (vw : Vw) (p : P3) : mReprNe ma mb vw p = (ma vw p).bind fun x p1 => if x.rp = true then (mb vw p1).bind fun y p2 => if y.rp = true then .ok (.bl (!reprSame x y)) p2 else .bad else .bad := rfl
end VL

namespace VL
open PySem PySem.Spec PyProof.Rows L2 LamX
/-! ### more draws: one of several; the pot; the places -/
def ofBd (tk : List D → P3 → Res D) : MS := sRet (m2 D.ix (mVar 1) (mCall tk (mCons (mVar 0) (mCons (mN dLen (mCons (mVar 1) (mNil))) (mNil)))))
def OfOk (of : List D → P3 → Res D) : Prop := ∀ (n : Nat) (c : D) (ds : List D) (p : P3) (Q : D → P3 → Prop), c = .lst ds ∨ c = .tup ds → Pot n p → n < 2 ^ 60 → ds ≠ [] → ds.length < 2 ^ 62 → (∀ d ∈ ds, ∀ p', Pot (n + 1) p' → Q d p') → (of [.pot, c] p).wp Q
theorem atI_mem {ds : List D} {r : Int} (h : 0 ≤ r) (h2 : r < ds.length) : ∃ d, atI ds r = some d ∧ d ∈ ds := by
  have hj : r.toNat < ds.length := by omega
  exact ⟨ds[r.toNat], atI_nat (j := r.toNat) (by omega) (List.getElem?_eq_getElem hj), List.getElem_mem hj⟩
theorem of_ok {tk : List D → P3 → Res D} (T : TkOk tk) : OfOk (callF 2 2 (ofBd tk)) := by
  intro n c ds p Q hc hp hn he hl q
  have h0 : 0 < ds.length := by cases ds with
    | nil => exact absurd rfl he
    | cons d l => exact Nat.succ_pos _
  unfold ofBd
  rcases hc with rfl | rfl
  · simp [env0]
    refine T n ds.length p _ hp hn (by omega) (by omega) fun r p' h1 h2 h3 => ?_
    obtain ⟨d, e, m⟩ := atI_mem h1 h2
    rw [ix_lst, e]
    exact q d m p' h3
  · simp [env0]
    refine T n ds.length p _ hp hn (by omega) (by omega) fun r p' h1 h2 h3 => ?_
    obtain ⟨d, e, m⟩ := atI_mem h1 h2
    rw [ix_tup, e]
    exact q d m p' h3
def ptB (c1 c2 m1' m2' m3 : Int) : MS := sSeq (xSet [] 2 (mIf (toB (m2 (D.cmp fLt) (mVar 1) (mN dLen (mCons (mVar 0) (mNil))))) (m2 D.ix (mVar 0) (mVar 1)) (m2 D.add (m2 D.add (m2 D.fmod (mN dSum (mCons (mSl (mVar 0) (oNo) (oSome (mC (.int 1)))) (mNil))) (mC (.int 1000003))) (m2 D.mul (mC (.int c1)) (mVar 1))) (mC (.int c2))))) (sSeq (xSet [] 3 (m2 D.mul (m2 D.fmod (mN dInt (mCons (mN dAbs (mCons (mVar 2) (mNil))) (mNil))) (m2 D.powW (m2 D.powW (mC (.int 10)) (mC (.int 60))) (mC (.int 5)))) (mN dInt (mCons (m2 (D.cmp fGe) (mN dAbs (mCons (mVar 2) (mNil))) (m2 D.powW (mC (.int 10)) (mC (.int 18)))) (mNil))))) (sSeq (xSet [] 4 (m2 D.fmod (mN dInt (mCons (mVar 2) (mNil))) (mC (.int 2305843009213693951)))) (sRetNew (lenOk (mCons (mVar 3) (mCons (m2 D.fmod (mN dInt (mCons (m2 D.add (m2 D.add (m2 D.mul (mVar 4) (mC (.int m1'))) (m2 D.mul (m2 D.mul (mC (.int m2')) (mVar 1)) (mVar 1))) (mC (.int m3))) (mNil))) (mC (.int 2305843009213693921))) (mCons (mC (.int 0)) (mNil))))))))
def PtOk (pt : List D → P3 → Res (List D)) : Prop := ∀ (ns : List Int) (i : Int) (p : P3), 0 ≤ i → i < 1000 → ∃ x y : Int, 0 ≤ x ∧ 0 ≤ y ∧ y < 2 ^ 61 ∧ pt [.scr ns, .int i] p = .ok [.int x, .int y, .int 0] p
@[simp] theorem ev_retNew (ms : MA) (env : En) (p : P3) : sRetNew ms env p = (ms (vwOf env) p).bind fun ds p1 => .ok (.rtl ds, env) p1 := onN_bind ms _
@[simp] theorem outN_bind {α : Type} (r : Res α) (f : α → P3 → Res (Fl × En)) : outN (r.bind f) = r.bind fun a p => outN (f a p) := by cases r <;> rfl
@[simp] theorem outN_rtl (ds : List D) (env : En) (p : P3) : outN (.ok (.rtl ds, env) p) = .ok ds p := rfl
theorem callN_ok {n np : Nat} {m : MS} {ds : List D} {p : P3} (h : ds.length = np) : callN n np m ds p = outN (m (env0 n ds) p) := if_pos h
theorem pow_10_60 : D.powW (.int 10) (.int 60) = some (.int (10 ^ 60)) := rfl
theorem pow_10_300 : D.powW (.int (10 ^ 60)) (.int 5) = some (.int (10 ^ 300)) := by
  unfold D.powW
  dsimp only
  rw [if_pos (by decide +kernel)]
  exact congrArg (fun z => some (D.int z)) (by decide +kernel)
theorem pow_10_18 : D.powW (.int 10) (.int 18) = some (.int (10 ^ 18)) := rfl
theorem pt_ok {c1 c2 m1' m2' m3 : Int} (h1 : Sm c1) (h2 : Sm m1') (h3 : Sm m2') : PtOk (callN 5 2 (ptB c1 c2 m1' m2' m3)) := by
  intro ns i p hi hi'
  have si : Sm i := by unfold Sm; omega
  -- the cell
  have cell : ∃ c : Int, (mIf (toB (m2 (D.cmp fLt) (mVar 1) (mN dLen (mCons (mVar 0) (mNil))))) (m2 D.ix (mVar 0) (mVar 1)) (m2 D.add (m2 D.add (m2 D.fmod (mN dSum (mCons (mSl (mVar 0) (oNo) (oSome (mC (.int 1)))) (mNil))) (mC (.int 1000003))) (m2 D.mul (mC (.int c1)) (mVar 1))) (mC (.int c2)))) [some (.scr ns), some (.int i), none, none, none] p = .ok (.int c) p := by
    by_cases h : i < ns.length
    · have hj : i.toNat < ns.length := by omega
      refine ⟨ns[i.toNat], ?_⟩
      have e : D.ix (.scr ns) (.int i) = some (.int ns[i.toNat]) := by
        show (atI ns i).map D.int = _
        have hlt : i.toNat < ns.length := hj
        simp [atI, ixN, hi, h, hlt]
      simp [h, e]
    · have e : dSum [.lst ((cutL ns none (some 1)).map D.int)] = some (.int (cutL ns none (some 1)).sum) := by
        have := ints_map (fun i => i) (cutL ns none (some 1))
        simp only [List.map_id_fun', id_eq] at this
        show (D.ints _).map _ = _
        rw [this]
        rfl
      refine ⟨(cutL ns none (some 1)).sum.fmod 1000003 + c1 * i + c2, ?_⟩
      simp only [ev_mIf, ev_toB, ev_m2, ev_varS, ev_var0, bind_ok, ev_mN, ev_cons, ev_nil, dLen_scr, ofO_some, cmp_int, asB_bl, decide_eq_false h, Bool.false_eq_true, if_false, ev_sl, ev_oNo, ev_oSome, ev_c, slOnO_int, bind_bind, D.slice, e, fmod_int (show (1000003 : Int) ≠ 0 by decide), h1.mul, add_int]
  obtain ⟨c, hc⟩ := cell
  have ha : 0 ≤ (if c < 0 then -c else c) := by split <;> omega
  generalize hcc : (if c < 0 then -c else c) = a at ha
  have hm : okMul (a.fmod (10 ^ 300)) (if (decide (10 ^ 18 ≤ a)) = true then 1 else 0) = true := okMul_r (by split <;> decide) (by split <;> decide)
  refine ⟨a.fmod (10 ^ 300) * (if (decide (10 ^ 18 ≤ a)) = true then 1 else 0), (c.fmod 2305843009213693951 * m1' + m2' * i * i + m3).fmod 2305843009213693921, ?_, ?_, ?_, ?_⟩
  · exact Int.mul_nonneg (Int.fmod_nonneg_of_pos a (b := 10 ^ 300) (by decide +kernel)) (by split <;> decide)
  · exact Int.fmod_nonneg_of_pos _ (b := 2305843009213693921) (by decide)
  · exact Int.lt_trans (Int.fmod_lt_of_pos _ (by decide)) (by decide)
  · rw [callN_ok (ds := [D.scr ns, D.int i]) (np := 2) rfl]
    unfold ptB
    simp only [ev_seq, ev_xSet, onX_nil, env0, List.map_cons, List.map_nil, List.length_cons, List.length_nil, Nat.reduceSub, Nat.reduceAdd, List.replicate, List.cons_append, List.nil_append, vwOf_p, vwOf_n, vwOf_nil, hc, bind_ok, bindS_nx, bindS_bind, setE_S, setE_0, outN_bind]
    simp only [ev_m2, ev_mN, ev_cons, ev_nil, ev_varS, ev_var0, bind_ok, dAbs_int, hcc, ofO_some, dInt_int, ev_c, pow_10_60, pow_10_300, pow_10_18, fmod_int (show (10 ^ 300 : Int) ≠ 0 by decide +kernel), cmp_int, dInt_bl, mul_int hm, bindS_nx, setE_S, setE_0, ev_seq, ev_xSet, onX_nil, vwOf_p, vwOf_n, vwOf_nil, bind_bind, bindS_bind, fmod_int (show (2305843009213693951 : Int) ≠ 0 by decide),
      ev_retNew, ev_lenOk, h2.mul', h3.mul, si.mul', add_int, fmod_int (show (2305843009213693921 : Int) ≠ 0 by decide), List.length_cons, List.length_nil, outN_bind, outN_rtl]
    rw [if_pos (by decide)]
    rfl
def plB : MS := sRet (mLst (mNL dList2 (mCons (mN dRange (mCons (mN dMax2 (mCons (mC (.int 1)) (mCons (mN dMin2 (mCons (mVar 1) (mCons (mN dLen (mCons (mVar 0) (mNil))) (mNil)))) (mNil)))) (mNil))) (mNil))))
theorem pl_ok {ns : List Int} {m : Int} {p : P3} (h : ns.length ≤ 63) (h0 : 0 ≤ m) (h1 : m ≤ 1000) : ∃ k : Int, 1 ≤ k ∧ k ≤ 1000 ∧ callF 2 2 plB [.scr ns, .int m] p = .ok (.lst (irange 0 k)) p := by
  have e : ∀ k : Int, 1 ≤ k → k ≤ 1000 → rgOk 0 k = true := fun k a b => rgOk_i (by decide) (by omega) (by omega) (by omega)
  have g1 : 1 ≤ (if (if (ns.length : Int) < m then (ns.length : Int) else m) > 1 then (if (ns.length : Int) < m then (ns.length : Int) else m) else 1) := by split <;> omega
  have g2 : (if (if (ns.length : Int) < m then (ns.length : Int) else m) > 1 then (if (ns.length : Int) < m then (ns.length : Int) else m) else 1) ≤ 1000 := by split <;> split <;> omega
  refine ⟨_, g1, g2, ?_⟩
  unfold plB
  simp [env0, e _ g1 g2]
theorem pot0 {x y : Int} (h1 : 0 ≤ x) (h2 : 0 ≤ y) (h3 : y < 2 ^ 61) : Pot 0 (some (x, y, 0)) := ⟨x, y, 0, rfl, h1, h2, h3, by decide, by decide⟩
def wpP (Q : Fl × En → P3 → Prop) : Fl × En → P3 → Prop := fun fe p => p.isSome = true ∧ match fe with
  | (.nx, env2) => Q (.nx, env2.map keepS) none
  | (.ret (.bl b), _) => Q (.ret (.bl b), []) none
  | _ => False
theorem sPot_wp {i : Nat} {ms : MA} {rest : MS} {env : En} {x y z : Int} {Q : Fl × En → P3 → Prop} (h : ms (vwOf env) none = .ok [.int x, .int y, .int z] none) (h2 : (rest (setE env i (.p .pot)) (some (x, y, z))).wp (wpP Q)) : (sPot i ms rest env none).wp Q := by
  unfold sPot
  rw [h]
  dsimp only
  revert h2
  cases rest (setE env i (.p .pot)) (some (x, y, z)) with
  | bad => exact fun z => z
  | err x v p => exact fun z => z
  | ok fe p1 =>
    obtain ⟨fl, e⟩ := fe
    intro h2
    obtain ⟨h3, h4⟩ := h2
    cases p1 with
    | none => cases h3
    | some q =>
      cases fl with
      | nx => exact h4
      | ret d =>
        cases d with
        | bl b => exact h4
        | _ => exact h4.elim
      | bk => exact h4.elim
      | ct => exact h4.elim
      | rtl d => exact h4.elim
end VL

namespace VL
open PySem PySem.Spec PyProof.Rows L2 LamX
/-! ### values of any kind, bent values -/
def oddB (of : List D → P3 → Res D) : MS := sSeq (xSet [] 1 (mLst (lenOk (mCons (mC .non) (mCons (mC (.bl true)) (mCons (mC (.bl false)) (mCons (mC (.int 0)) (mCons (mC (.int 1)) (mCons (m1 D.usub (mC (.int 1))) (mCons (mC (.int 2)) (mCons (mC (.int 1001)) (mCons (mC (.str "")) (mCons (mC (.str "a")) (mCons (mC (.str "map")) (mCons (mC (.str "to")) (mCons (mTup (mNil)) (mCons (mLst (lenOk (mNil))) (mCons (mTup (mCons (mC (.int 0)) (mNil))) (mCons (mTup (mCons (mTup (mNil)) (mNil))) (mCons (mLst (lenOk (mCons (mC (.int 1)) (mNil)))) (mCons (mTup (mCons (mC (.bl true)) (mNil))) (mCons (mTup (mCons (mC .non) (mNil))) (mNil))))))))))))))))))))))) (sSeq (xSet [] 1 (m2 D.add (mVar 1) (mLst (lenOk (mCons (mTup (mCons (mC (.str "a")) (mNil))) (mCons (mTup (mCons (mTup (mCons (mC (.int 0)) (mNil))) (mCons (mTup (mNil)) (mNil)))) (mCons (mTup (mCons (mC (.int 7)) (mNil))) (mCons (mTup (mCons (mC (.int 0)) (mCons (mLst (lenOk (mCons (mC (.int 0)) (mNil)))) (mNil)))) (mCons (mTup (mCons (mTup (mCons (mC (.int 0)) (mNil))) (mCons (mTup (mCons (mTup (mCons (mC (.int 0)) (mCons (mC (.int 1)) (mNil)))) (mNil))) (mNil)))) (mCons (mLst (lenOk (mCons (mTup (mCons (mC (.int 0)) (mNil))) (mCons (mTup (mCons (mTup (mCons (mC (.int 0)) (mCons (mC (.int 0)) (mNil)))) (mNil))) (mNil))))) (mCons (mC (.str "map 0")) (mCons (m2 D.powW (mC (.int 10)) (mC (.int 20))) (mNil))))))))))))) (sRet (mCall (of) (mCons (mVar 0) (mCons (mVar 1) (mNil))))))
def bentB (tk of odd rec : List D → P3 → Res D) : MS := sSeq (xIf [] (bAnd (toB (mIsi "tuple" (mVar 1))) (bAnd (toB (m2 D.ne (mVar 1) (mTup (mNil)))) (toB (m2 (D.cmp fGt) (mCall (tk) (mCons (mVar 0) (mCons (mC (.int 5)) (mNil)))) (mC (.int 0)))))) (sSeq (xSet [] 2 (mCall (tk) (mCons (mVar 0) (mCons (mN dLen (mCons (mVar 1) (mNil))) (mNil))))) (sRet (m2 D.add (m2 D.add (mSl (mVar 1) (oNo) (oSome (mVar 2))) (mTup (mCons (mCall (rec) (mCons (mVar 0) (mCons (m2 D.ix (mVar 1) (mVar 2)) (mNil)))) (mNil)))) (mSl (mVar 1) (oSome (m2 D.add (mVar 2) (mC (.int 1)))) (oNo))))) (sNil)) (sSeq (xIf [] (toB (mIsi "tuple" (mVar 1))) (sRet (mCall (of) (mCons (mVar 0) (mCons (mLst (lenOk (mCons (mLst (mNL dList2 (mCons (mVar 1) (mNil)))) (mCons (mSl (mVar 1) (oSome (mC (.int 1))) (oNo)) (mCons (mSl (mVar 1) (oNo) (oSome (m1 D.usub (mC (.int 1))))) (mCons (m2 D.add (mVar 1) (mSl (mVar 1) (oSome (m1 D.usub (mC (.int 1)))) (oNo))) (mCons (m1 D.rev (mVar 1)) (mCons (mTup (mNil)) (mCons (mC .non) (mNil)))))))))) (mNil))))) (sNil)) (sSeq (xIf [] (toB (mIsi "bool" (mVar 1))) (sRet (mCall (of) (mCons (mVar 0) (mCons (mLst (lenOk (mCons (mNot (mVar 1)) (mCons (mN dInt (mCons (mVar 1) (mNil))) (mCons (mC .non) (mNil)))))) (mNil))))) (sNil)) (sSeq (xIf [] (toB (mIsi "int" (mVar 1))) (sRet (mCall (of) (mCons (mVar 0) (mCons (mLst (lenOk (mCons (m2 D.add (mVar 1) (mC (.int 1))) (mCons (m2 D.sub (mVar 1) (mC (.int 1))) (mCons (m1 D.usub (mVar 1)) (mCons (mN dStr (mCons (mVar 1) (mNil))) (mCons (mC .non) (mCons (m2 D.eq (mVar 1) (mC (.int 1))) (mCons (mTup (mCons (mVar 1) (mNil))) (mNil)))))))))) (mNil))))) (sNil)) (sSeq (xIf [] (toB (mIsi "str" (mVar 1))) (sSeq (xSet [] 3 (mLst (lenOk (mCons (m2 D.add (mVar 1) (mC (.str "a"))) (mCons (mSl (mVar 1) (oNo) (oSome (m1 D.usub (mC (.int 1))))) (mCons (m1 D.upper (mVar 1)) (mCons (mLst (lenOk (mCons (mVar 1) (mNil)))) (mCons (mC (.str "a")) (mCons (mC .non) (mCons (mC (.int 0)) (mCons (mC (.str "")) (mCons (m2 D.add (mC (.str "b")) (mVar 1)) (mCons (m2 D.add (mVar 1) (mC (.str "/"))) (mNil)))))))))))))) (sRet (mCall (of) (mCons (mVar 0) (mCons (mVar 3) (mNil)))))) (sNil)) (sRet (mCall (odd) (mCons (mVar 0) (mNil))))))))
@[simp] theorem bind_pure {α : Type} (r : Res α) : (r.bind fun a p => .ok a p) = r := by cases r <;> rfl
def OddOk (odd : List D → P3 → Res D) : Prop := ∀ (n : Nat) (p : P3) (Q : D → P3 → Prop), Pot n p → n < 2 ^ 60 → (∀ d p', d.sh 5 = true → d.sz ≤ 300 → Pot (n + 1) p' → Q d p') → (odd [.pot] p).wp Q
def oddL : List D := [.non, .bl true, .bl false, .int 0, .int 1, .int (-1), .int 2, .int 1001, .str "", .str "a", .str "map", .str "to", .tup [], .lst [], .tup [.int 0], .tup [.tup []], .lst [.int 1], .tup [.bl true], .tup [.non], .tup [.str "a"], .tup [.tup [.int 0], .tup []], .tup [.int 7], .tup [.int 0, .lst [.int 0]], .tup [.tup [.int 0], .tup [.tup [.int 0, .int 1]]], .lst [.tup [.int 0], .tup [.tup [.int 0, .int 0]]], .str "map 0", .int (10 ^ 20)]
theorem oddL_ok : oddL.all (fun d => d.sh 5 && decide (d.sz ≤ 300)) = true := by decide +kernel
theorem odd_ok {of : List D → P3 → Res D} (T : OfOk of) : OddOk (callF 2 1 (oddB of)) := by
  intro n p Q hp hn q
  rw [callF_ok (ds := [D.pot]) (np := 1) rfl]
  have key : outF (oddB of (env0 2 [.pot]) p) = of [.pot, .lst oddL] p := by
    have pw : D.powW (.int 10) (.int 20) = some (.int (10 ^ 20)) := rfl
    simp [oddB, env0, pw, sizeLine, oddL, D.add]
  rw [key]
  refine T n _ oddL p Q (.inl rfl) hp hn (by simp [oddL]) (by decide) fun d hd p' hp' => ?_
  have := List.all_eq_true.mp oddL_ok d hd
  simp only [Bool.and_eq_true, decide_eq_true_eq] at this
  exact q d p' this.1 this.2 hp'
/-- what can be bent: as what can be shown, numbers and texts not too great -/
def strB (x : Str) : Bool := decide (x.length ≤ 100000) && PyData.strOk x && PyData.strOk (Txt.upper x) && decide ((Txt.upper x).length ≤ 3 * x.length)
def D.nr : Nat → D → Bool
  | _, .non | _, .bl _ => true
  | _, .int i => decide (i.natAbs.log2 < 1000)
  | _, .str x => strB x
  | n + 1, .tup ds => ds.all (D.nr n)
  | n + 1, .lst ds => ds.all (D.nr n)
  | _, _ => false
@[simp] theorem nr_non (n : Nat) : D.nr n .non = true := by cases n <;> rfl
@[simp] theorem nr_bl (n : Nat) (b : Bool) : D.nr n (.bl b) = true := by cases n <;> rfl
@[simp] theorem nr_int (n : Nat) (i : Int) : D.nr n (.int i) = decide (i.natAbs.log2 < 1000) := by cases n <;> rfl
@[simp] theorem nr_str (n : Nat) (x : Str) : D.nr n (.str x) = strB x := by cases n <;> rfl
@[simp] theorem nr_tup (n : Nat) (ds : List D) : D.nr (n + 1) (.tup ds) = ds.all (D.nr n) := rfl
@[simp] theorem nr_lst (n : Nat) (ds : List D) : D.nr (n + 1) (.lst ds) = ds.all (D.nr n) := rfl
theorem Sm.nr {i : Int} (h : Sm i) (n : Nat) : D.nr n (.int i) = true := by
  rw [nr_int]; exact decide_eq_true (Nat.lt_trans h.log (by decide))
theorem nr_sh : ∀ (n : Nat) (d : D), d.nr n = true → d.sh n = true
  | n, .non, _ => by simp
  | n, .bl _, _ => by simp
  | n, .int i, h => by
    have h' : i.natAbs.log2 < 1000 := by simpa using h
    rw [sh_int]; exact decide_eq_true (Nat.lt_trans h' (by decide))
  | n, .str x, h => by
    rw [nr_str] at h
    unfold strB at h
    simp only [Bool.and_eq_true] at h
    rw [sh_str]
    exact h.1.1.2
  | n + 1, .tup ds, h => by
    simp only [nr_tup, sh_tup, List.all_eq_true] at h ⊢
    exact fun x hx => nr_sh n x (h x hx)
  | n + 1, .lst ds, h => by
    simp only [nr_lst, sh_lst, List.all_eq_true] at h ⊢
    exact fun x hx => nr_sh n x (h x hx)
  | 0, .tup _, h => by simp [D.nr] at h
  | 0, .lst _, h => by simp [D.nr] at h
  | n, .dct _, h => by cases n <;> simp [D.nr] at h
  | n, .glb _, h => by cases n <;> simp [D.nr] at h
  | n, .exc _ _, h => by cases n <;> simp [D.nr] at h
  | n, .clo _ _, h => by cases n <;> simp [D.nr] at h
  | n, .pot, h => by cases n <;> simp [D.nr] at h
  | n, .own _, h => by cases n <;> simp [D.nr] at h
  | n, .scr _, h => by cases n <;> simp [D.nr] at h
  | n, .rng _ _, h => by cases n <;> simp [D.nr] at h
theorem nr_mono : ∀ (n : Nat) (d : D), d.nr n = true → d.nr (n + 1) = true
  | 0, d, h => by cases d <;> simp_all [D.nr]
  | n + 1, d, h => by
    cases d with
    | tup ds =>
      simp only [nr_tup, List.all_eq_true] at h ⊢
      exact fun x hx => nr_mono n x (h x hx)
    | lst ds =>
      simp only [nr_lst, List.all_eq_true] at h ⊢
      exact fun x hx => nr_mono n x (h x hx)
    | _ => simpa [D.nr] using h
theorem nr_le {n m : Nat} {d : D} (h : d.nr n = true) (l : n ≤ m) : d.nr m = true := by
  induction m with
  | zero => rw [Nat.le_zero.mp l] at h; exact h
  | succ m ih =>
    by_cases e : n = m + 1
    · subst e; exact h
    · exact nr_mono m d (ih (by omega))
def BentOk (f : List D → P3 → Res D) (k : Nat) : Prop := ∀ (n : Nat) (v : D) (p : P3) (Q : D → P3 → Prop), Pot n p → n + 2 * k + 10 < 2 ^ 60 → v.nr k = true → k ≤ 50 → v.sz ≤ 1000000 → (∀ d p', d.sh (k + 5) = true → d.sz ≤ 12 * v.sz + 1000 → Pot (n + (2 * k + 2)) p' → Q d p') → (f [.pot, v] p).wp Q
@[simp] theorem eq_int' (a b : Int) : D.eq (.int a) (.int b) = some (.bl (a == b)) := by
  show D.eqP (.int a) (.int b) = _
  unfold D.eqP
  rw [if_pos (by simp [D.plain])]
  show some (D.bl (PyData.eqv (.int a) (.int b))) = _
  simp [PyData.eqv]
@[simp] theorem ne_int' (a b : Int) : D.ne (.int a) (.int b) = some (.bl (!(a == b))) := by
  show D.neP (.int a) (.int b) = _
  unfold D.neP
  rw [if_pos (by simp [D.plain])]
  show some (D.bl (!PyData.eqv (.int a) (.int b))) = _
  simp [PyData.eqv]
@[simp] theorem strOk_of (s : String) : PyData.strOk (Str.ofString s) = true := by
  unfold PyData.strOk
  rw [Str.ofString_eq_toList, Array.all_eq_true']
  intro x hx
  simp only [List.mem_toArray, List.mem_map] at hx
  obtain ⟨c, _, rfl⟩ := hx
  have h := c.valid
  simp only [UInt32.isValidChar, Nat.isValidChar] at h
  have : c.toNat = c.val.toNat := rfl
  simp only [decide_eq_true_eq]
  omega
theorem strOk_append {x y : Str} (h : PyData.strOk x = true) (h2 : PyData.strOk y = true) : PyData.strOk (x ++ y) = true := by
  unfold PyData.strOk at h h2 ⊢
  show Array.all (x.cps ++ y.cps) _ = true
  rw [Array.all_append, h, h2]
  rfl
theorem ne_tup_nil {ds : List D} (h : D.plain 60 (.tup ds) = true) : D.ne (.tup ds) (.tup []) = some (.bl (!ds.isEmpty)) := by
  show D.neP (.tup ds) (.tup []) = _
  unfold D.neP
  rw [if_pos (by rw [h]; rfl)]
  cases ds with
  | nil => simp [D.eqv, D.py, D.pys, PyData.eqv, PyData.eqvAll]
  | cons d ds => simp [D.eqv, D.py, D.pys, PyData.eqv, PyData.eqvAll]
theorem bent_ok {tk of odd rec : List D → P3 → Res D} (T : TkOk tk) (O : OfOk of) (W : OddOk odd) (k : Nat) (R : ∀ j, j + 1 = k → BentOk rec j) : BentOk (callF 4 2 (bentB tk of odd rec)) k := by
  intro n v p Q hp hn hv hk hz q
  rw [callF_ok (ds := [D.pot, v]) (np := 2) rfl]
  have toodd : (odd [.pot] p).wp Q := W n p Q hp (by omega) fun d p' h1 h2 h3 => q d p' (sh_le h1 (by omega)) (by omega) (h3.mono (by omega))
  cases v with
  | non => simp [bentB, env0]; exact toodd
  | lst ds => simp [bentB, env0]; exact toodd
  | bl b =>
    simp [bentB, env0, sizeLine]
    refine O n _ _ p Q (.inl rfl) hp (by omega) (by simp) (by simp) fun d hd p' hp' => ?_
    have : d.sh (k + 5) = true ∧ d.sz ≤ 1000 := by
      simp only [List.mem_cons, List.not_mem_nil, or_false] at hd
      rcases hd with rfl | rfl | rfl
      · simp [D.sz]
      · cases b <;> simp [D.sz] <;> decide
      · simp [D.sz]
    exact q d p' this.1 (by omega) (hp'.mono (by omega))
  | int i =>
    have hl : i.natAbs.log2 < 1000 := by simpa using hv
    have hs : dStr [.int i] = some (.str (toString i)) := if_pos (Nat.lt_trans hl (by decide))
    simp [bentB, env0, sizeLine, hs]
    refine O n _ _ p Q (.inl rfl) hp (by omega) (by simp) (by simp) fun d hd p' hp' => ?_
    have hi : i.natAbs < 2 ^ 1000 := lt_two_pow_of_log2_lt hl
    have big : ∀ j : Int, j.natAbs < 2 ^ 1000 + 2 → j.natAbs.log2 < 1001 := fun j h => log2_lt_of (by decide) (Nat.lt_trans h (by decide +kernel))
    have ok : ∀ j : Int, j.natAbs < 2 ^ 1000 + 2 → (D.int j).sh (k + 5) = true ∧ (D.int j).sz ≤ 1010 := fun j h => by
      have := big j h
      exact ⟨by rw [sh_int]; exact decide_eq_true (by omega), by simp only [D.sz]; omega⟩
    have : d.sh (k + 5) = true ∧ d.sz ≤ 12 * (D.int i).sz + 1000 := by
      have z : (D.int i).sz = i.natAbs.log2 + 3 := rfl
      simp only [List.mem_cons, List.not_mem_nil, or_false] at hd
      rcases hd with rfl | rfl | rfl | rfl | rfl | rfl | rfl
      · have := ok (i + 1) (by omega); exact ⟨this.1, by omega⟩
      · have := ok (i - 1) (by omega); exact ⟨this.1, by omega⟩
      · have := ok (-i) (by omega); exact ⟨this.1, by omega⟩
      · refine ⟨by rw [sh_str]; exact strOk_of _, ?_⟩
        have := int_text_length_le (a := i) (k := i.natAbs.log2 + 1) (Nat.succ_pos _) (Nat.lt_succ_self _)
        show 10 * (Str.ofString (toString i)).length + 2 ≤ _
        rw [PySem.ofString_length]
        omega
      · simp [D.sz]
      · simp [D.sz]
      · have := ok i (by omega)
        refine ⟨?_, ?_⟩
        · show ([D.int i] : List D).all (D.sh (k + 4)) = true
          simp only [List.all_cons, List.all_nil, Bool.and_true]
          have := big i (by omega)
          rw [sh_int]; exact decide_eq_true (by omega)
        · show 3 + (_ + 2 + 0) ≤ _
          omega
    exact q d p' this.1 this.2 (hp'.mono (by omega))
  | str x =>
    have hx : strB x = true := by simpa using hv
    unfold strB at hx
    simp only [Bool.and_eq_true, decide_eq_true_eq] at hx
    obtain ⟨⟨⟨h1, h2⟩, h3⟩, h4⟩ := hx
    have z : (D.str x).sz = 10 * x.length + 2 := rfl
    have e1 : ∀ w : Str, w.length ≤ 10 → D.add (.str x) (.str w) = some (.str (x ++ w)) := fun w h => if_pos (by have : sizeLine = 2 ^ 24 := rfl; omega)
    have e2 : ∀ w : Str, w.length ≤ 10 → D.add (.str w) (.str x) = some (.str (w ++ x)) := fun w h => if_pos (by have : sizeLine = 2 ^ 24 := rfl; omega)
    have e3 : D.slice (.str x) none (some (-1)) = some (.str (cutS x none (some (-1)))) := if_pos (by have : sizeLine = 2 ^ 24 := rfl; omega)
    have e4 : D.upper (.str x) = some (.str (Txt.upper x)) := if_pos (by omega)
    have l1 : (Str.ofString "a").length ≤ 10 := by decide
    have l2 : (Str.ofString "/").length ≤ 10 := by decide
    have l3 : (Str.ofString "b").length ≤ 10 := by decide
    simp [bentB, env0, sizeLine, e1 _ l1, e1 _ l2, e2 _ l3, e3, e4]
    refine O n _ _ p Q (.inl rfl) hp (by omega) (by simp) (by simp) fun d hd p' hp' => ?_
    have : d.sh (k + 5) = true ∧ d.sz ≤ 12 * (D.str x).sz + 1000 := by
      simp only [List.mem_cons, List.not_mem_nil, or_false] at hd
      rcases hd with rfl | rfl | rfl | rfl | rfl | rfl | rfl | rfl | rfl | rfl
      · refine ⟨by rw [sh_str]; exact strOk_append h2 (strOk_of _), ?_⟩
        show 10 * (x ++ Str.ofString "a").length + 2 ≤ _
        rw [strLen_append]; omega
      · refine ⟨?_, ?_⟩
        · rw [sh_str]
          unfold PyData.strOk at h2 ⊢
          rw [Array.all_eq_true'] at h2 ⊢
          intro c hc
          refine h2 c ?_
          have : c ∈ cutL x.cps.toList none (some (-1)) := by simpa [cutS, cutL, Str.length] using hc
          rw [cutL_m1] at this
          simpa using List.mem_of_mem_take this
        · have : (cutS x none (some (-1))).length ≤ x.length := by
            show (List.toArray _).size ≤ _
            rw [List.size_toArray, List.length_take, List.length_drop, Array.length_toList]
            show _ ≤ x.cps.size
            omega
          show 10 * _ + 2 ≤ _
          omega
      · refine ⟨by rw [sh_str]; exact h3, ?_⟩
        show 10 * _ + 2 ≤ _
        omega
      · refine ⟨?_, ?_⟩
        · show ([D.str x] : List D).all (D.sh (k + 4)) = true
          simp only [List.all_cons, List.all_nil, Bool.and_true, sh_str]
          exact h2
        · show 2 + (_ + 2 + 0) ≤ _
          omega
      · exact ⟨by rw [sh_str]; exact strOk_of _, by show 10 * (Str.ofString "a").length + 2 ≤ _; omega⟩
      · simp [D.sz]
      · exact ⟨by rw [sh_int]; decide, by simp [D.sz]⟩
      · refine ⟨by rw [sh_str]; exact strOk_of _, ?_⟩
        have e0 : (Str.ofString "").length = 0 := by decide
        show 10 * (Str.ofString "").length + 2 ≤ _
        omega
      · refine ⟨by rw [sh_str]; exact strOk_append (strOk_of _) h2, ?_⟩
        show 10 * (Str.ofString "b" ++ x).length + 2 ≤ _
        rw [strLen_append]; omega
      · refine ⟨by rw [sh_str]; exact strOk_append h2 (strOk_of _), ?_⟩
        show 10 * (x ++ Str.ofString "/").length + 2 ≤ _
        rw [strLen_append]; omega
    exact q d p' this.1 this.2 (hp'.mono (by omega))
  | tup ds =>
    cases k with
    | zero => simp [D.nr] at hv
    | succ k =>
    have hpl : D.plain 60 (.tup ds) = true := D.plain_le (sh_plain _ _ (nr_sh _ _ hv)) (by omega)
    have hall : ∀ d ∈ ds, d.nr k = true := by simpa [List.all_eq_true] using hv
    have hsz : (D.tup ds).sz = 3 + D.szs ds := rfl
    have hlen := len_szs ds
    have sl : sizeLine = 2 ^ 24 := rfl
    have alls : ∀ d ∈ ds, d.sh (k + 5) = true := fun d hd => sh_le (nr_sh _ _ (hall d hd)) (by omega)
    -- the way that takes the tuple whole
    have whole : ∀ m p, m ≤ n + 1 → Pot m p → (of [.pot, .lst [.lst ds, .tup ds.tail, .tup (ds.take (ds.length - 1)), .tup (ds ++ ds.drop (ds.length - 1)), .tup ds.reverse, .tup [], .non]] p).wp Q := fun m p hm hp => by
      refine O m _ _ p Q (.inl rfl) hp (by omega) (by simp) (by simp) fun d hd p' hp' => ?_
      rw [← List.drop_one] at hd
      have : d.sh (k + 1 + 5) = true ∧ d.sz ≤ 12 * (D.tup ds).sz + 1000 := by
        have t1 := szs_drop ds 1
        have t2 := szs_take ds (ds.length - 1)
        have t3 := szs_drop ds (ds.length - 1)
        have t4 := szs_append ds (ds.drop (ds.length - 1))
        have t5 := szs_reverse ds
        simp only [List.mem_cons, List.not_mem_nil, or_false] at hd
        rcases hd with rfl | rfl | rfl | rfl | rfl | rfl | rfl
        · exact ⟨List.all_eq_true.mpr alls, by simp only [D.sz]; omega⟩
        · exact ⟨List.all_eq_true.mpr fun d hd => alls d (List.mem_of_mem_drop hd), by simp only [D.sz]; omega⟩
        · exact ⟨List.all_eq_true.mpr fun d hd => alls d (List.mem_of_mem_take hd), by simp only [D.sz]; omega⟩
        · exact ⟨List.all_eq_true.mpr fun d hd => (List.mem_append.mp hd).elim (alls d) fun h => alls d (List.mem_of_mem_drop h), by simp only [D.sz]; omega⟩
        · exact ⟨List.all_eq_true.mpr fun d hd => alls d (List.mem_reverse.mp hd), by simp only [D.sz]; omega⟩
        · exact ⟨rfl, by simp only [D.sz, D.szs]; omega⟩
        · exact ⟨by simp, by simp only [D.sz]; omega⟩
      exact q d p' this.1 this.2 (hp'.mono (by omega))
    have la : D.add (.tup ds) (.tup (ds.drop (ds.length - 1))) = some (.tup (ds ++ ds.drop (ds.length - 1))) := if_pos (by rw [List.length_drop]; omega)
    cases ds with
    | nil =>
      simp [bentB, env0, ne_tup_nil hpl, sizeLine, la]
      exact whole n p (by omega) hp
    | cons d0 ds0 =>
    generalize hds : d0 :: ds0 = ds at *
    have hne : ds.isEmpty = false := by rw [← hds]; rfl
    have h0 : 0 < ds.length := by rw [← hds]; exact Nat.succ_pos _
    simp [bentB, env0, ne_tup_nil hpl, sizeLine, hne]
    refine T n 5 p _ hp (by omega) (by decide) (by decide) fun r p1 r0 r1 hp1 => ?_
    simp
    by_cases hr : 0 < r
    · simp [hr]
      refine T (n + 1) ds.length p1 _ hp1 (by omega) (by omega) (by omega) fun a p2 a0 a1 hp2 => ?_
      obtain ⟨e, he, hm⟩ := atI_mem a0 a1
      have ha : a.toNat < ds.length := by omega
      have hcut : cutL ds none (some a) = ds.take a.toNat := cutL_to ds a0
      have hcut2 : cutL ds (some (a + 1)) none = ds.drop (a + 1).toNat := cutL_from ds (by omega)
      have hez := sz_mem hm
      have heq : ds[a.toNat]? = some e := by
        have h2 : atI ds a = ds[a.toNat]? := by simp [atI, ixN, a0, a1]
        rw [← h2]; exact he
      simp [ix_tup, he, hcut, hcut2]
      refine R k rfl (n + 2) e p2 _ hp2 (by omega) (hall e hm) (by omega) (by omega) fun b p3 b1 b2 hp3 => ?_
      have ad1 : D.add (.tup (ds.take a.toNat)) (.tup [b]) = some (.tup (ds.take a.toNat ++ [b])) := if_pos (by rw [List.length_take]; simp; omega)
      have ad2 : D.add (.tup (ds.take a.toNat ++ [b])) (.tup (ds.drop (a + 1).toNat)) = some (.tup (ds.take a.toNat ++ [b] ++ ds.drop (a + 1).toNat)) := if_pos (by rw [List.length_append, List.length_take, List.length_drop]; simp; omega)
      simp [ad1, ad2]
      refine q _ _ ?_ ?_ (hp3.mono (by omega))
      · show List.all _ _ = true
        refine List.all_eq_true.mpr fun d hd => ?_
        simp only [List.mem_append, List.mem_cons, List.not_mem_nil, or_false] at hd
        rcases hd with hd | rfl | hd
        · exact alls d (List.mem_of_mem_take hd)
        · exact b1
        · exact alls d (List.mem_of_mem_drop hd)
      · have t : D.szs ds = D.szs (ds.take a.toNat) + (e.sz + 2) + D.szs (ds.drop (a + 1).toNat) := by
          have h3 : ds = ds.take a.toNat ++ e :: ds.drop (a + 1).toNat := by
            have : (a + 1).toNat = a.toNat + 1 := by omega
            rw [this]
            obtain ⟨hj, e2⟩ := List.getElem?_eq_some_iff.mp heq
            rw [← e2]
            rw [← List.drop_eq_getElem_cons hj, List.take_append_drop]
          conv => lhs; rw [h3]
          rw [szs_append]
          simp only [D.szs]
          omega
        simp only [D.sz, szs_append, D.szs]
        omega
    · simp [hr, la, sizeLine]
      exact whole (n + 1) p1 (by omega) hp1
  | _ => cases k <;> simp [D.nr] at hv
end VL

namespace VL
open PySem PySem.Spec PyProof.Rows L2 LamX
/-! ### comprehensions as maps -/
section
variable {α β : Type} {p : P3}
@[simp] theorem strict_ok (a : α) (p : P3) : strict (.ok a p) = .ok a p := rfl
@[simp] theorem strict_bad : strict (.bad : Res α) = .bad := rfl
@[simp] theorem strict_err (x : Str) (v : D) (p : P3) : strict (.err x v p : Res α) = .bad := rfl
@[simp] theorem strict_bind (r : Res α) (f : α → P3 → Res β) : strict (r.bind f) = (strict r).bind fun a p => strict (f a p) := by cases r <;> rfl
@[simp] theorem strict_ite (c : Prop) [Decidable c] (a b : Res α) : strict (if c then a else b) = if c then strict a else strict b := by split <;> rfl
@[simp] theorem wp_strict (r : Res α) (Q : α → P3 → Prop) : (strict r).wp Q = r.wp Q := by cases r <;> rfl
def lcM (g : α → P3 → Res (Option D)) : List α → P3 → Res (List D)
  | [], p => .ok [] p
  | x :: xs, p => (g x p).bind fun o p1 => match o with
    | none => lcM g xs p1
    | some y => (lcM g xs p1).bind fun ys p2 => .ok (y :: ys) p2
def onVw (o : Option Vw) (k : Vw → Res (Option D)) : Res (Option D) := match o with
  | none => .bad
  | some v => k v
@[simp] theorem onVw_some (v : Vw) (k : Vw → Res (Option D)) : onVw (some v) k = k v := rfl
@[simp] theorem ev_lcGo (bind : D → Vw → Option Vw) (mt : MB) (me : ME) (vw : Vw) : ∀ (ds : List D) (p : P3), lcGo bind mt me vw ds p = lcM (fun d p => onVw (bind d vw) fun v => (strict (mt v p)).bind fun k p1 => if k = true then (strict (me v p1)).bind fun y p2 => .ok (some y) p2 else .ok none p1) ds p
  | [], p => rfl
  | d :: ds, p => by
    unfold lcGo lcM
    cases bind d vw with
    | none => rfl
    | some v =>
      simp only [onVw_some]
      cases mt v p with
      | bad => rfl
      | err x v p => rfl
      | ok k p1 =>
        simp only [strict_ok, bind_ok]
        cases k with
        | false => simp only [Bool.false_eq_true, if_false, bind_ok]; exact ev_lcGo bind mt me vw ds p1
        | true =>
          simp only [if_true]
          cases me v p1 with
          | bad => rfl
          | err x v p => rfl
          | ok y p2 => simp only [strict_ok, bind_ok]; rw [ev_lcGo bind mt me vw ds p2]
@[simp] theorem lcM_nil (g : α → P3 → Res (Option D)) : lcM g [] p = .ok [] p := rfl
theorem lcM_cons (g : α → P3 → Res (Option D)) (x : α) (xs : List α) : lcM g (x :: xs) p = (g x p).bind fun o p1 => match o with
    | none => lcM g xs p1
    | some y => (lcM g xs p1).bind fun ys p2 => .ok (y :: ys) p2 := rfl
@[simp] theorem lcM_mapL (g : β → P3 → Res (Option D)) (h : α → β) : ∀ (xs : List α) (p : P3), lcM g (xs.map h) p = lcM (fun x => g (h x)) xs p
  | [], p => rfl
  | x :: xs, p => by
    simp only [List.map_cons, lcM_cons]
    congr
    funext o p1
    cases o with
    | none => exact lcM_mapL g h xs p1
    | some y => simp only [lcM_mapL g h xs p1]
@[simp] theorem lcM_pure (F : α → D) : ∀ (xs : List α) (p : P3), lcM (fun x p => .ok (some (F x)) p) xs p = .ok (xs.map F) p
  | [], p => rfl
  | x :: xs, p => by simp [lcM_cons, lcM_pure F xs p]
@[simp] theorem lcM_filt (c : α → Prop) [DecidablePred c] (F : α → D) : ∀ (xs : List α) (p : P3), lcM (fun x p => if c x then .ok (some (F x)) p else .ok none p) xs p = .ok ((xs.filter fun x => decide (c x)).map F) p
  | [], p => rfl
  | x :: xs, p => by
    by_cases h : c x
    · simp [lcM_cons, lcM_filt c F xs p, h]
    · simp [lcM_cons, lcM_filt c F xs p, h]
@[simp] theorem lcm_and (c c' : Prop) [Decidable c] [Decidable c'] (y : D) : (if c then (if c' then Res.ok (some y) p else Res.ok none p) else Res.ok none p) = if c ∧ c' then Res.ok (some y) p else Res.ok none p := by
  by_cases h : c <;> by_cases h' : c' <;> simp [h, h']
@[simp] theorem ite_okS_or (c : Prop) [Decidable c] (b : Bool) : (if c then Res.ok (some (D.bl true)) p else Res.ok (some (D.bl b)) p) = Res.ok (some (D.bl (decide c || b))) p := by split <;> simp [*]
@[simp] theorem ite_okS_and (c : Prop) [Decidable c] (b : Bool) : (if c then Res.ok (some (D.bl b)) p else Res.ok (some (D.bl false)) p) = Res.ok (some (D.bl (decide c && b))) p := by split <;> simp [*]
theorem lcM_congr {g g' : α → P3 → Res (Option D)} : ∀ {xs : List α} {p : P3}, (∀ x ∈ xs, ∀ p, g x p = g' x p) → lcM g xs p = lcM g' xs p
  | [], p, h => rfl
  | x :: xs, p, h => by
    have ih : ∀ p, lcM g xs p = lcM g' xs p := fun p => lcM_congr fun y hy => h y (List.mem_cons_of_mem _ hy)
    simp only [lcM_cons, h x List.mem_cons_self]
    congr
    funext o p1
    cases o with
    | none => exact ih p1
    | some y => simp only [ih p1]
/-- one that draws -/
theorem lcM_wp {g : α → P3 → Res (Option D)} {Q : List D → P3 → Prop} (I : List α → List D → P3 → Prop)
    (step : ∀ x xs ys p, I (x :: xs) ys p → (g x p).wp fun o p1 => match o with
      | none => I xs ys p1
      | some y => I xs (ys ++ [y]) p1) :
    ∀ (xs : List α) (acc : List D) (p : P3), I xs acc p → (∀ ys p, I [] (acc ++ ys) p → Q ys p) → (lcM g xs p).wp Q
  | [], acc, p, h, fin => fin [] p (by rw [List.append_nil]; exact h)
  | x :: xs, acc, p, h, fin => by
    have q := step x xs acc p h
    rw [lcM_cons]
    cases r : g x p with
    | bad => rw [r] at q; exact q
    | err x v p1 => rw [r] at q; exact q
    | ok o p1 =>
      rw [r] at q
      cases o with
      | none => exact lcM_wp I step xs acc p1 q fin
      | some y =>
        simp only [bind_ok, wp_bind, wp_ok]
        exact lcM_wp I step xs (acc ++ [y]) p1 q fun ys p h => fin (y :: ys) p (by rw [List.append_assoc] at h; exact h)
/-- each draw gives such a value -/
theorem lcM_each {g : α → P3 → Res (Option D)} {Q : List D → P3 → Prop} (c : Nat) (G : D → Prop) {N : Nat} (step : ∀ x n p, Pot n p → n ≤ N → (g x p).wp fun o p1 => ∃ y, o = some y ∧ G y ∧ Pot (n + c) p1) :
    ∀ (xs : List α) (n : Nat) (p : P3), Pot n p → n + c * xs.length ≤ N → (∀ ys p', (∀ y ∈ ys, G y) → ys.length = xs.length → Pot (n + c * xs.length) p' → Q ys p') → (lcM g xs p).wp Q
  | [], n, p, h, hn, fin => fin [] p (fun y hy => nomatch hy) rfl h
  | x :: xs, n, p, h, hn, fin => by
    have e : c * (x :: xs).length = c + c * xs.length := by rw [List.length_cons, Nat.mul_succ, Nat.add_comm]
    have q := step x n p h (by omega)
    rw [lcM_cons]
    cases r : g x p with
    | bad => rw [r] at q; exact q.elim
    | err x v p1 => rw [r] at q; exact q.elim
    | ok o p1 =>
      rw [r] at q
      obtain ⟨y, rfl, hy, hp⟩ := q
      simp only [bind_ok, wp_bind, wp_ok]
      refine lcM_each c G step xs (n + c) p1 hp (by omega) fun ys p' h1 h2 h3 => fin (y :: ys) p' (fun z hz => ?_) (by simp [h2]) (by rw [e, ← Nat.add_assoc]; exact h3)
      rcases List.mem_cons.mp hz with rfl | hz
      · exact hy
      · exact h1 z hz
end
/-! ### whole numbers of a range -/
def ir (lo hi : Int) : List Int := (List.range (hi - lo).toNat).map fun (i : Nat) => lo + (i : Int)
@[simp] theorem irange_ir (lo hi : Int) : irange lo hi = (ir lo hi).map D.int := by simp [irange, ir]
theorem mem_ir {lo hi i : Int} : i ∈ ir lo hi ↔ lo ≤ i ∧ i < hi := by
  unfold ir
  simp only [List.mem_map, List.mem_range]
  constructor
  · rintro ⟨j, h, rfl⟩
    omega
  · intro h
    exact ⟨(i - lo).toNat, by omega, by omega⟩
@[simp] theorem ir_length (lo hi : Int) : (ir lo hi).length = (hi - lo).toNat := by simp [ir]
theorem ir_cons {lo hi : Int} (h : lo < hi) : ir lo hi = lo :: ir (lo + 1) hi := by
  unfold ir
  have e : (hi - lo).toNat = (hi - (lo + 1)).toNat + 1 := by omega
  rw [e, List.range_succ_eq_map]
  simp only [List.map_cons, List.map_map]
  congr 1
  · simp
  · refine List.map_congr_left fun j _ => ?_
    simp only [Function.comp_apply]
    omega
theorem ir_nil {lo hi : Int} (h : hi ≤ lo) : ir lo hi = [] := by
  unfold ir
  rw [show (hi - lo).toNat = 0 by omega]
  rfl
/-! ### values of any kind: is it an integer, a tuple -/
def isI (lo hi : Int) : D → Bool
  | .int i => decide (lo ≤ i) && decide (i ≤ hi)
  | _ => false
@[simp] theorem isI_int (lo hi i : Int) : isI lo hi (.int i) = (decide (lo ≤ i) && decide (i ≤ hi)) := rfl
def isTB : MS := sRet (mAnd (mIsi "tuple" (mVar 0)) (mChain (D.cmp fLe) (D.cmp fLe) (mVar 1) (mN dLen (mCons (mVar 0) (mNil))) (mVar 2)))
def isT (a b : Int) : D → Bool
  | .tup ds => decide (a ≤ ds.length) && decide (ds.length ≤ b)
  | _ => false
@[simp] theorem isT_tup (a b : Int) (ds : List D) : isT a b (.tup ds) = (decide (a ≤ ds.length) && decide (ds.length ≤ b)) := rfl
theorem isT_ok {n : Nat} {d : D} (h : d.sh n = true) (a b : Int) (p : P3) : callF 3 3 isTB [d, .int a, .int b] p = .ok (.bl (isT a b d)) p := by
  rw [callF_ok (ds := [d, D.int a, D.int b]) (np := 3) rfl]
  cases d with
  | non => simp [isTB, env0, isT]
  | bl b => simp [isTB, env0, isT]
  | int i => simp [isTB, env0, isT]
  | str x => simp [isTB, env0, isT]
  | tup ds => simp [isTB, env0, isT]
  | lst ds => simp [isTB, env0, isT]
  | _ => cases n <;> simp [D.sh] at h
def isWB : MS := sRet (mAnd (mIsi "int" (mVar 0)) (mNot (mIsi "bool" (mVar 0))))
def isIB (w : List D → P3 → Res D) : MS := sRet (mAnd (mCall (w) (mCons (mVar 0) (mNil))) (mChain (D.cmp fLe) (D.cmp fLe) (mVar 1) (mVar 0) (mVar 2)))
def isW : D → Bool
  | .int _ => true
  | _ => false
theorem isW_ok {n : Nat} {d : D} (h : d.sh n = true) (p : P3) : callF 1 1 isWB [d] p = .ok (.bl (isW d)) p := by
  rw [callF_ok (ds := [d]) (np := 1) rfl]
  cases d with
  | non => simp [isWB, env0, isW]
  | bl b => simp [isWB, env0, isW]
  | int i => simp [isWB, env0, isW]
  | str x => simp [isWB, env0, isW]
  | tup ds => simp [isWB, env0, isW]
  | lst ds => simp [isWB, env0, isW]
  | _ => cases n <;> simp [D.sh] at h
theorem isI_ok {n : Nat} {d : D} (h : d.sh n = true) (a b : Int) (p : P3) : callF 3 3 (isIB (callF 1 1 isWB)) [d, .int a, .int b] p = .ok (.bl (isI a b d)) p := by
  rw [callF_ok (ds := [d, D.int a, D.int b]) (np := 3) rfl]
  have e := isW_ok h p
  unfold isIB
  cases d with
  | int i => simp [env0, -ev_callF, e, isI, isW]
  | _ => simp [env0, -ev_callF, e, isI, isW]
/-- the law's own -/
def lIB : MS := sRet (mAnd (mIsi "int" (mVar 0)) (mAnd (mNot (mIsi "bool" (mVar 0))) (mChain (D.cmp fLe) (D.cmp fLe) (mVar 1) (mVar 0) (mVar 2))))
theorem lI_ok {n : Nat} {d : D} (h : d.sh n = true) (a b : Int) (p : P3) : callF 3 3 lIB [d, .int a, .int b] p = .ok (.bl (isI a b d)) p := by
  rw [callF_ok (ds := [d, D.int a, D.int b]) (np := 3) rfl]
  cases d with
  | non => simp [lIB, env0, isI]
  | bl b => simp [lIB, env0, isI]
  | int i => simp [lIB, env0, isI]
  | str x => simp [lIB, env0, isI]
  | tup ds => simp [lIB, env0, isI]
  | lst ds => simp [lIB, env0, isI]
  | _ => cases n <;> simp [D.sh] at h
theorem shV {α : Type} (f : α → D) {n : Nat} (h : ∀ x, (f x).sh n = true) (l : List α) : (l.map f).all (D.sh n) = true := by
  simp [List.all_map, h]
@[simp] theorem allB {α : Type} (t : α → Bool) (l : List α) : dAll [.lst (l.map fun x => .bl (t x))] = some (.bl (l.all t)) := dAll_map t l
@[simp] theorem anyB {α : Type} (t : α → Bool) (l : List α) : dAny [.lst (l.map fun x => .bl (t x))] = some (.bl (l.any t)) := dAny_map t l
/-! texts that are written -/
theorem char_inj {a b : Char} (h : a.toNat = b.toNat) : a = b := by
  apply Char.ext
  apply UInt32.toNat_inj.mp
  exact h
@[simp] theorem ofString_inj {a b : String} : Str.ofString a = Str.ofString b ↔ a = b := by
  constructor
  · intro h
    rw [Str.ofString_eq_toList, Str.ofString_eq_toList] at h
    have h2 : (a.toList.map Char.toNat).toArray = (b.toList.map Char.toNat).toArray := congrArg Str.cps h
    have h3 : a.toList.map Char.toNat = b.toList.map Char.toNat := by simpa using h2
    have h4 : a.toList = b.toList := (List.map_inj_right fun x y e => char_inj e).mp h3
    exact String.toList_inj.mp h4
  · rintro rfl; rfl
@[simp] theorem ofString_beq {a b : String} : (Str.ofString a == Str.ofString b) = (a == b) := by
  rw [Bool.eq_iff_iff]; simp
end VL

namespace VL
open PySem PySem.Spec PyProof.Rows L2 LamX
/-! ### loops by what they do -/
section
variable {α : Type} {bind : D → En → Option En} {mb : MS} {Q : Fl × En → P3 → Prop}
/-- a search: the first that gives something is returned -/
theorem forL_find (h : α → D) (f : α → Option D) (E : En → Prop) {p : P3} : ∀ (xs : List α) (env : En),
    (∀ x ∈ xs, ∀ env, E env → ∃ env1, bind (h x) env = some env1 ∧ (mb env1 p).wp fun fe p1 => p1 = p ∧ match f x with
      | some d => ∃ e, fe = (.ret d, e)
      | none => ∃ e, fe = (.nx, e) ∧ E e) →
    E env → (match xs.findSome? f with
      | some d => ∀ e, Q (.ret d, e) p
      | none => ∀ e, E e → Q (.nx, e) p) → (forL bind mb (xs.map h) env p).wp Q
  | [], env, step, hE, q => q env hE
  | x :: xs, env, step, hE, q => by
    obtain ⟨env1, e, w⟩ := step x List.mem_cons_self env hE
    simp only [List.map_cons]
    unfold forL
    rw [e]
    dsimp only
    cases r : mb env1 p with
    | bad => rw [r] at w; exact w.elim
    | err x v p1 => rw [r] at w; exact w.elim
    | ok fe p1 =>
      rw [r] at w
      obtain ⟨rfl, w⟩ := w
      simp only [List.findSome?_cons] at q
      cases hf : f x with
      | some d =>
        rw [hf] at w q
        obtain ⟨e2, rfl⟩ := w
        exact q e2
      | none =>
        rw [hf] at w q
        obtain ⟨e2, rfl, hE2⟩ := w
        exact forL_find h f E xs e2 (fun y hy => step y (List.mem_cons_of_mem _ hy)) hE2 q
/-- each turn keeps what is said of the state; the loop may be left by return -/
theorem forL_each (h : α → D) (E : En → Prop) {p : P3} (fin : ∀ e, E e → Q (.nx, e) p) : ∀ (xs : List α) (env : En),
    (∀ x ∈ xs, ∀ env, E env → ∃ env1, bind (h x) env = some env1 ∧ (mb env1 p).wp (wpL Q fun e p1 => p1 = p ∧ E e)) → E env → (forL bind mb (xs.map h) env p).wp Q
  | [], env, step, hE => fin env hE
  | x :: xs, env, step, hE => by
    obtain ⟨env1, e, w⟩ := step x List.mem_cons_self env hE
    have go : ∀ e2, E e2 → (forL bind mb (xs.map h) e2 p).wp Q := fun e2 hE2 => forL_each h E fin xs e2 (fun y hy => step y (List.mem_cons_of_mem _ hy)) hE2
    simp only [List.map_cons]
    unfold forL
    rw [e]
    dsimp only
    cases r : mb env1 p with
    | bad => rw [r] at w; exact w.elim
    | err x v p1 => rw [r] at w; exact w.elim
    | ok fe p1 =>
      rw [r] at w
      obtain ⟨fl, e2⟩ := fe
      cases fl with
      | nx => obtain ⟨rfl, w⟩ := w; exact go e2 w
      | ct => obtain ⟨rfl, w⟩ := w; exact go e2 w
      | bk => exact w
      | ret d => exact w
      | rtl d => exact w.elim
/-- a fold over what is said of the state -/
theorem forL_fold {β : Type} (h : α → D) (E : β → En → Prop) (f : β → α → β) {p : P3} : ∀ (xs : List α) (b : β) (env : En),
    (∀ x ∈ xs, ∀ b env, E b env → ∃ env1, bind (h x) env = some env1 ∧ (mb env1 p).wp (wpL Q fun e p1 => p1 = p ∧ E (f b x) e)) → E b env → (∀ e, E (xs.foldl f b) e → Q (.nx, e) p) → (forL bind mb (xs.map h) env p).wp Q
  | [], b, env, step, hE, fin => fin env hE
  | x :: xs, b, env, step, hE, fin => by
    obtain ⟨env1, e, w⟩ := step x List.mem_cons_self b env hE
    have go : ∀ e2, E (f b x) e2 → (forL bind mb (xs.map h) e2 p).wp Q := fun e2 hE2 => forL_fold h E f xs (f b x) e2 (fun y hy => step y (List.mem_cons_of_mem _ hy)) hE2 fin
    simp only [List.map_cons]
    unfold forL
    rw [e]
    dsimp only
    cases r : mb env1 p with
    | bad => rw [r] at w; exact w.elim
    | err x v p1 => rw [r] at w; exact w.elim
    | ok fe p1 =>
      rw [r] at w
      obtain ⟨fl, e2⟩ := fe
      cases fl with
      | nx => obtain ⟨rfl, w⟩ := w; exact go e2 w
      | ct => obtain ⟨rfl, w⟩ := w; exact go e2 w
      | bk => exact w
      | ret d => exact w
      | rtl d => exact w.elim
/-- what is said goes by the turns that are done -/
theorem forL_pre (h : α → D) (E : List α → En → Prop) {p : P3} (xs : List α) (fin : ∀ e, E xs e → Q (.nx, e) p) (step : ∀ pre x post env, xs = pre ++ x :: post → E pre env → ∃ env1, bind (h x) env = some env1 ∧ (mb env1 p).wp (wpL Q fun e p1 => p1 = p ∧ E (pre ++ [x]) e)) :
    ∀ (post pre : List α) (env : En), xs = pre ++ post → E pre env → (forL bind mb (post.map h) env p).wp Q
  | [], pre, env, hx, hE => fin env (by rw [hx, List.append_nil]; exact hE)
  | x :: post, pre, env, hx, hE => by
    obtain ⟨env1, e, w⟩ := step pre x post env hx hE
    have go : ∀ e2, E (pre ++ [x]) e2 → (forL bind mb (post.map h) e2 p).wp Q := fun e2 hE2 => forL_pre h E xs fin step post (pre ++ [x]) e2 (by rw [hx]; simp) hE2
    simp only [List.map_cons]
    unfold forL
    rw [e]
    dsimp only
    cases r : mb env1 p with
    | bad => rw [r] at w; exact w.elim
    | err x v p1 => rw [r] at w; exact w.elim
    | ok fe p1 =>
      rw [r] at w
      obtain ⟨fl, e2⟩ := fe
      cases fl with
      | nx => obtain ⟨rfl, w⟩ := w; exact go e2 w
      | ct => obtain ⟨rfl, w⟩ := w; exact go e2 w
      | bk => exact w
      | ret d => exact w
      | rtl d => exact w.elim
/-- turns that draw, at most c draws each; what is said goes by the number of turns -/
theorem forL_draw (c N M : Nat) (E : Nat → En → Prop) : ∀ (ds : List D) (i n : Nat) (env : En) (p : P3), i + ds.length ≤ M →
    (∀ d ∈ ds, ∀ i n env p, i < M → E i env → Pot n p → n ≤ N → ∃ env1, bind d env = some env1 ∧ (mb env1 p).wp (wpL Q fun e p1 => E (i + 1) e ∧ Pot (n + c) p1)) → E i env → Pot n p → n + c * ds.length ≤ N → (∀ e p1, E (i + ds.length) e → Pot (n + c * ds.length) p1 → Q (.nx, e) p1) → (forL bind mb ds env p).wp Q
  | [], i, n, env, p, hM, step, hE, hp, hn, fin => fin env p hE hp
  | d :: ds, i, n, env, p, hM, step, hE, hp, hn, fin => by
    have el : c * (d :: ds).length = c + c * ds.length := by rw [List.length_cons, Nat.mul_succ, Nat.add_comm]
    obtain ⟨env1, e, w⟩ := step d List.mem_cons_self i n env p (by rw [List.length_cons] at hM; omega) hE hp (by omega)
    have go : ∀ e2 p1, E (i + 1) e2 → Pot (n + c) p1 → (forL bind mb ds e2 p1).wp Q := fun e2 p1 hE2 hp1 => forL_draw c N M E ds (i + 1) (n + c) e2 p1 (by rw [List.length_cons] at hM; omega) (fun y hy => step y (List.mem_cons_of_mem _ hy)) hE2 hp1 (by omega) fun e p2 h1 h2 => fin e p2 (by rw [List.length_cons, show i + (ds.length + 1) = i + 1 + ds.length by omega]; exact h1) (by rw [el, ← Nat.add_assoc]; exact h2)
    unfold forL
    rw [e]
    dsimp only
    cases r : mb env1 p with
    | bad => rw [r] at w; exact w.elim
    | err x v p1 => rw [r] at w; exact w.elim
    | ok fe p1 =>
      rw [r] at w
      obtain ⟨fl, e2⟩ := fe
      cases fl with
      | nx => obtain ⟨w1, w2⟩ := w; exact go e2 p1 w1 w2
      | ct => obtain ⟨w1, w2⟩ := w; exact go e2 p1 w1 w2
      | bk => exact w
      | ret d => exact w
      | rtl d => exact w.elim
end
/-- from well to an equation -/
theorem eq_of_wp {α : Type} {r : Res α} {a : α} {p : P3} (h : r.wp fun b p1 => b = a ∧ p1 = p) : r = .ok a p := h.eq
@[simp] theorem ne_lst_nil {ds : List D} (h : D.plain 60 (.lst ds) = true) : D.ne (.lst ds) (.lst []) = some (.bl (!ds.isEmpty)) := by
  show D.neP (.lst ds) (.lst []) = _
  unfold D.neP
  rw [if_pos (by rw [h]; rfl)]
  cases ds with
  | nil => simp [D.eqv, D.py, D.pys, PyData.eqv, PyData.eqvAll]
  | cons d ds => simp [D.eqv, D.py, D.pys, PyData.eqv, PyData.eqvAll]
@[simp] theorem plain_ints (n : Nat) (l : List Int) : D.plain (n + 1) (.lst (l.map D.int)) = true := by
  show List.all _ _ = true
  simp only [List.all_map, List.all_eq_true, Function.comp_apply]
  intro x _
  cases n <;> rfl
@[simp] theorem ne_ints_nil (l : List Int) : D.ne (.lst (l.map D.int)) (.lst []) = some (.bl (!l.isEmpty)) := by
  rw [ne_lst_nil (plain_ints 59 l)]
  simp
/-- the last of some numbers -/
theorem ix_last {l : List Int} (h : l ≠ []) : ∃ v ∈ l, D.ix (.lst (l.map D.int)) (.int (-1)) = some (.int v) := by
  refine ⟨l.getLast h, List.getLast_mem h, ?_⟩
  have h0 : 0 < l.length := List.length_pos_iff.mpr h
  show atI (l.map D.int) (-1) = _
  have e : (l.map D.int)[l.length - 1]? = some (.int (l.getLast h)) := by
    rw [List.getElem?_map, List.getLast_eq_getElem]
    simp [List.getElem?_eq_getElem (show l.length - 1 < l.length by omega)]
  unfold atI ixN
  rw [List.length_map, if_neg (by decide), if_pos (by omega)]
  simp only [Option.bind_some]
  rw [show (-1 + (l.length : Int)).toNat = l.length - 1 by omega]
  exact e
theorem snoc_ints (l : List Int) (i : Int) : l.map D.int ++ [D.int i] = (l ++ [i]).map D.int := by simp
/-! what repr serves, of rows -/
theorem rp_of {d : D} (h : d.sh 60 = true) (hs : d.sz ≤ 16777216) : d.rp = true := by
  unfold D.rp
  rw [h, decide_eq_true hs]
  rfl
theorem rp_tup_map {α : Type} {f : α → D} {l : List α} {n m : Nat} (h : ∀ x ∈ l, (f x).sh n = true) (hn : n < 60) (hs : ∀ x ∈ l, (f x).sz ≤ m) (hl : l.length * (m + 2) ≤ 16777200) : (D.tup (l.map f)).rp = true := by
  refine rp_of ?_ ?_
  · refine sh_le (n := n + 1) ?_ (by omega)
    simp only [sh_tup, List.all_map, List.all_eq_true, Function.comp_apply]
    exact h
  · have := szs_le (l := l.map f) (m := m) (by simpa using hs)
    rw [List.length_map] at this
    show 3 + D.szs _ ≤ _
    omega
theorem rp_ints {l : List Int} (h : ∀ i ∈ l, Sm i) (hl : l.length ≤ 200000) : (D.tup (l.map D.int)).rp = true :=
  rp_tup_map (n := 0) (m := 64) (fun i hi => (h i hi).sh 0) (by decide) (fun i hi => (h i hi).sz) (by omega)
theorem add_lst {a b : List D} (h : a.length + b.length ≤ 16777216) : D.add (.lst a) (.lst b) = some (.lst (a ++ b)) := if_pos h
theorem add_tup {a b : List D} (h : a.length + b.length ≤ 16777216) : D.add (.tup a) (.tup b) = some (.tup (a ++ b)) := if_pos h
section
variable {bind : D → En → Option En} {mb : MS} {Q : Fl × En → P3 → Prop}
theorem forL_eachD (E : En → Prop) {p : P3} (fin : ∀ e, E e → Q (.nx, e) p) (xs : List D) (env : En)
    (step : ∀ x ∈ xs, ∀ env, E env → ∃ env1, bind x env = some env1 ∧ (mb env1 p).wp (wpL Q fun e p1 => p1 = p ∧ E e)) (hE : E env) : (forL bind mb xs env p).wp Q := by
  have := forL_each (bind := bind) (mb := mb) (Q := Q) (fun x : D => x) E fin xs env step hE
  simpa using this
end
@[simp] theorem rp_bl (b : Bool) : (D.bl b).rp = true := by cases b <;> rfl
theorem ints_of {P : Int → Prop} : ∀ (ys : List D), (∀ y ∈ ys, ∃ i, y = .int i ∧ P i) → ∃ r : List Int, ys = r.map D.int ∧ ∀ i ∈ r, P i
  | [], _ => ⟨[], rfl, fun _ h => nomatch h⟩
  | y :: ys, h => by
    obtain ⟨i, rfl, hi⟩ := h y List.mem_cons_self
    obtain ⟨r, e, hr⟩ := ints_of ys fun z hz => h z (List.mem_cons_of_mem _ hz)
    refine ⟨i :: r, by rw [e]; rfl, fun j hj => ?_⟩
    rcases List.mem_cons.mp hj with rfl | hj
    · exact hi
    · exact hr j hj
end VL

namespace VL
open PySem PySem.Spec PyProof.Rows L2 LamX
/-! ### the law's own frame -/
theorem dAll_true {bs : List D} (h : ∀ y ∈ bs, y = .bl true) : dAll [.lst bs] = some (.bl true) := by
  have e : bs = bs.map fun _ => D.bl true := by
    induction bs with
    | nil => rfl
    | cons b bs ih =>
      rw [List.map_cons, ← ih fun y hy => h y (List.mem_cons_of_mem _ hy), h b List.mem_cons_self]
  rw [e]
  have := allB (fun _ : D => true) bs
  rw [this]
  simp
/-- places, a pot for each, so many laps -/
def lawB (ref : ME) (pl : List D → P3 → Res D) (pt : List D → P3 → Res (List D)) (right : List D → P3 → Res D) (most laps : Int) : MS := sSeq (xIf [] (bNot (toB ref)) (sRet (mC (.bl false))) (sNil)) (sSeq (sFor (eName 1) (mIter (mCall pl (mCons (mVar 0) (mCons (mC (.int most)) (mNil))))) (sPot 2 (mCallN pt (mCons (mVar 0) (mCons (mVar 1) (mNil)))) (xIf [] (bNot (toB (mN dAll (mCons (mLst (mLc [3] (bName 3) (mRange1 (mCons (mC (.int laps)) (mNil))) (bTrue) (mCall right (mCons (mVar 2) (mNil))))) (mNil))))) (sRet (mC (.bl false))) (sNil)))) (sRet (mC (.bl true))))
theorem law_ok {ref : ME} {pl : List D → P3 → Res D} {pt : List D → P3 → Res (List D)} {right : List D → P3 → Res D} {most laps : Int} (c : Nat) (hr : ∀ vw, ref vw none = .ok (.bl true) none)
    (hpl : ∀ (ns : List Int) (p : P3), ns.length ≤ 63 → ∃ k : Int, 1 ≤ k ∧ k ≤ 1000 ∧ pl [.scr ns, .int most] p = .ok (.lst (irange 0 k)) p) (hpt : PtOk pt) (hl0 : 0 ≤ laps) (hl : laps ≤ 100) (hc : c * 100 ≤ 2 ^ 50)
    (hright : ∀ n p, Pot n p → n ≤ c * 100 → (right [.pot] p).wp fun d p' => d = .bl true ∧ Pot (n + c) p') :
    ∀ ns : List Int, ns.length ≤ 63 → ∃ p, callF 4 1 (lawB ref pl pt right most laps) [.scr ns] none = .ok (.bl true) p := by
  intro ns hns
  suffices h : (callF 4 1 (lawB ref pl pt right most laps) [.scr ns] none).wp fun d p => d = .bl true by
    revert h
    cases callF 4 1 (lawB ref pl pt right most laps) [.scr ns] none with
    | ok d p => intro h; exact ⟨p, by rw [show d = .bl true from h]⟩
    | err x v p => intro h; exact h.elim
    | bad => intro h; exact h.elim
  obtain ⟨k, k0, k1, e⟩ := hpl ns none hns
  have hlr : rgOk 0 laps = true := rgOk_i (by decide) (by omega) (by omega) hl0
  rw [callF_ok (ds := [D.scr ns]) (np := 1) rfl]
  simp [lawB, env0, hr, e]
  refine forL_each D.int (fun env => ∃ o1 o2 o3, env = [some (.p (.scr ns)), o1, o2, o3]) ?_ _ _ ?_ ⟨_, _, _, rfl⟩
  · rintro e ⟨o1, o2, o3, rfl⟩
    simp
  · rintro i hi env ⟨o1, o2, o3, rfl⟩
    refine ⟨_, rfl, ?_⟩
    obtain ⟨i0, i1⟩ := mem_ir.mp hi
    obtain ⟨x, y, x0, y0, y1, ep⟩ := hpt ns i none i0 (by omega)
    refine sPot_wp (x := x) (y := y) (z := 0) (by simp [ep]) ?_
    simp [hlr]
    refine lcM_each c (fun d => d = .bl true) (N := c * 100) ?_ _ 0 _ (pot0 x0 y0 y1) ?_ fun bs p4 hb hbl hp4 => ?_
    · intro x n' p hp hn'
      simp only [wp_bind, wp_strict, wp_ok]
      exact (hright n' p hp hn').mono fun d p' h => ⟨d, rfl, h.1, h.2⟩
    · simp only [ir_length, Int.sub_zero, Nat.zero_add]
      exact Nat.mul_le_mul_left c (by omega)
    · obtain ⟨a, b, z, rfl, _⟩ := hp4
      simp [dAll_true hb, wpP, keepS]
end VL

namespace VL
open PySem PySem.Spec PyProof.Rows L2 LamX
/-! ### enumerate(list), enumerate(tuple) -/
def enO (it : Addr) : Obj := { cls := .type "enumerate", data := .fields #[.none, .bool false, .ref it, rawInt 0, .none, .none] }
theorem meets_enumB {v : Value} {o : Obj} {H : Heap → Prop} (B : Begins v o H) :
    Meets (Builtin.«enumerate.__new__» ⟨[.type "enumerate", v], []⟩) (fun _ R s => H s.heap ∧ R (.ok (.ret (.ref (s.heap.push o).objs.size))) { s with heap := (s.heap.push o).push (enO s.heap.objs.size) }) :=
  .of_wp fun prog w A R s hs => by
    obtain ⟨hp, gs, dr, tk, os⟩ := s
    obtain ⟨h1, hh⟩ := hs
    have hsub := sub_enumerate
    have q1 : ∀ {A' : Around} {E Q : Value → Shared → Prop}, Q (.ref hp.objs.size) ⟨hp.push o, gs, dr, tk, os⟩ → wpAny (model prog w) A' (pyIter v) Q E ⟨hp, gs, dr, tk, os⟩ := fun {A' E Q} q => B.iter prog w A' E ⟨hp, gs, dr, tk, os⟩ Q h1 q
    wp_walk using q1
    refine wpAny_stack_any fun st => wpAny_pure ?_
    split
    · rename_i c _ _ _ _ _
      cases (c == Value.type "enumerate") <;> (wp_walk using q1; exact ⟨_, rfl, hh⟩)
    · wp_walk using q1
      exact ⟨_, rfl, hh⟩
theorem enum1_begins {prog : Program} {w : World} {A : Around} {E : Value → Shared → Prop} {s : Shared} {v : Value} {o : Obj} {H : Heap → Prop} {Q : Value → Shared → Prop} (B : Begins v o H) (h1 : H s.heap)
    (q : ∀ h', IsEnum h' (s.heap.objs.size + 1) s.heap.objs.size 0 .none → h'.get? s.heap.objs.size = some o → h'.objs.size = s.heap.objs.size + 2 → (∀ b ob, s.heap.get? b = some ob → h'.get? b = some ob) → Q (.ref (s.heap.objs.size + 1)) { s with heap := h' }) :
    wpAny (model prog w) A (call (.type "enumerate") [v]) Q E s := by
  refine callType_new F.called_enumerate (by decide) (F.typeCall_enumerate_1 _) (F.newCall_enumerate_1 _) (fun obj => F.args_object_init_2 obj _) F.entry_enumerate_new (meets_enumB B) ⟨h1, ?_⟩
  have hz : (s.heap.push o).objs.size = s.heap.objs.size + 1 := Heap.size_push ..
  show _ ∧ _
  rw [hz]
  have he : IsEnum ((s.heap.push o).push (enO s.heap.objs.size)) (s.heap.objs.size + 1) s.heap.objs.size 0 .none := by
    have := Heap.get?_push_size (s.heap.push o) (o := enO s.heap.objs.size) rfl
    rw [hz] at this
    exact this
  refine ⟨⟨_, he, rfl⟩, q _ he (Heap.get?_push_of_some _ (Heap.get?_push_size _ B.free)) ?_ fun b ob x => Heap.get?_push_of_some _ (Heap.get?_push_of_some _ x)⟩
  rw [Heap.size_push, hz]
def yen (xs : List V) (i : Nat) : List V := [.int (i : Nat), xs.getD i .non]
theorem turn_en {P : Program} {w : World} {K : PySem.W.Frag} {elts : List Expr} {kk : Nat} {tpos : Pos} {N a : Addr} {k : Bool} {xs : List V} (h1 : a < N) :
    Turn P w K (.Tuple elts kk tpos) ⟨fun i H => i < xs.length ∧ SqK K k H a xs, fun i H v H' => ∃ T, v = .ref T ∧ H T = none ∧ H' = upd H T (.tup (yen xs i)), fun i H => i = xs.length ∧ SqK K k H a xs⟩
      [N + 1, N] (N + 1) (fun i h => (∃ old, IsEnum h (N + 1) N (0 + (i : Int)) old) ∧ HIt k h N a i) := by
  refine turn_ofT (by simp) (fun i h ⟨⟨old, he⟩, s1⟩ b hb => ?_) (fun i h h' ⟨⟨old, he⟩, s1⟩ hk => ?_) (fun A i s Q E st h => ?_) (fun i => by show 2 ≤ 3; decide) fun X pins σ H s i hP hw hK hc I f1 st => ?_
  · have e' : b = N + 1 ∨ b = N := by simpa using hb
    rcases e' with q | q
    · rw [q]; exact ⟨_, he, fun v q => nomatch q⟩
    · rw [q]; exact hit_obj s1
  · exact ⟨⟨old, hk _ (by simp) _ he⟩, hit_keep s1 (hk _ (by simp))⟩
  · obtain ⟨⟨old, he⟩, _⟩ := st
    exact wpAny_pyIter_enum he h
  · subst hP hw hK
    obtain ⟨its1, r1, q1, l1⟩ := sqk_at I f1
    have hh : X.A.in1.handled = none := I.ok.hd hc
    have D1 := draws_k (P := X.prog) (w := X.w) (A := X.A.in1) hh k N a (Nat.ne_of_lt h1) its1.toArray
    have W := WalksT.enumFrom 0 D1 (N + 1) (Nat.succ_ne_self _) (by simp only [List.mem_cons, List.not_mem_nil, or_false, not_or]; exact ⟨Nat.succ_ne_self _, fun z => absurd h1 (by rw [← z]; exact Nat.not_lt.mpr (Nat.le_succ _))⟩) (by simp)
    obtain ⟨he, s1⟩ := st
    rw [List.size_toArray, ← r1.length] at W
    refine ⟨_, _, _, _, _, W, fun b hb => by simpa using hb, ⟨he, s1, q1⟩, fun i h ⟨a, b⟩ => ⟨a, b.1⟩, fun i vals hi ⟨t, x, px, e⟩ => ⟨[.int (0 + (i : Int)) t, x], e, .cons ⟨t, by rw [Int.zero_add]⟩ (.cons (vals_at r1 px) .nil)⟩⟩
/-- places and items -/
def enumD : Nat → List D → List D
  | _, [] => []
  | i, d :: ds => .tup [.int (i : Nat), d] :: enumD (i + 1) ds
theorem enumD_len : ∀ (i : Nat) (ds : List D), (enumD i ds).length = ds.length
  | _, [] => rfl
  | i, d :: ds => by simp [enumD, enumD_len (i + 1) ds]
theorem enumD_get : ∀ {k i : Nat} {ds : List D} {d : D}, (enumD k ds)[i]? = some d → ∃ x, d = .tup [.int ((k + i : Nat) : Int), x] ∧ ds[i]? = some x
  | k, i, [], d, h => by simp [enumD] at h
  | k, 0, x :: ds, d, h => by simp [enumD] at h; exact ⟨x, by simpa using h.symm, rfl⟩
  | k, i + 1, x :: ds, d, h => by
    simp only [enumD, List.getElem?_cons_succ] at h
    obtain ⟨y, h1, h2⟩ := enumD_get h
    exact ⟨y, by rw [h1, show k + 1 + i = k + (i + 1) by omega], by simpa using h2⟩
def mEnum (ms : MA) : MA := fun vw p => (ms vw p).bind fun ds p1 => match ds with
  | [a] => match a.items with
    | some xs => szOk (enumD 0 xs) p1
    | none => .bad
  | _ => .bad
section
variable {X : Cx} {J : Jc} {pos : Pos} {ms : MA}
theorem vi_enum {e : Expr} {p pos tpos : Pos} {elts : List Expr} {kk : Nat} (hK : J.g.K = X.K) (hm : X.mg "enumerate" = none) (ha : VA X J [e] ms) (hg : Gl X "enumerate" := by rfl) (hs : starEach [e] X.env = [(false, eval e X.env)] := by rfl) :
    VI X J (.Tuple elts kk tpos) (.Call (.Name "enumerate" p) [e] [] pos) (mEnum ms) := by
  refine ⟨fun pins s σ H R I ⟨vw, p0, rr, st, q⟩ => ?_⟩
  refine Call_ (ld_blt I hg hm boot_enumerate (PyProof.Rows.callWith_type1 (thn (ha.run pos pins s σ H (fun vs H1 => ∃ a xs p1, Ext J.g H H1 ∧ StR J.g H1 p1 ∧ J.RL σ H1 vs [a] ∧ a.items = some xs ∧ PI3 J σ H R (szOk (enumD 0 xs) p1)) I ⟨vw, p0, rr, st, ?_⟩) fun us s1 ⟨vs, H1, I1, r1, a, xs, p1, x1, st1, rl, ea, q1⟩ => ?_) hs rfl))
  · unfold mEnum at q
    cases e1 : ms vw p0 with
    | bad => rw [e1] at q; exact q.elim
    | err x dv p1 => rw [e1] at q; exact q
    | ok ds p1 =>
      rw [e1] at q
      intro H1 vs x1 s1 rl
      simp only [Res.bind] at q
      split at q
      · split at q
        · rename_i h1
          exact ⟨_, _, p1, x1, s1, rl, h1, q⟩
        · exact q.elim
      · exact q.elim
  · cases rl with
    | cons ra rl =>
      cases rl
      obtain ⟨a1, k1, vs1, rfl, f1, rl1⟩ := rep_items hK ra ea
      cases r1 with
      | cons r rr =>
        cases rr
        cases r
        obtain ⟨its1, v1, g1, l1⟩ := sqk_at I1 (f1 H1 .refl)
        refine enum1_begins (begins_k k1 a1 its1.toArray) g1 fun h' hz h1 hsz hk => wpAny_pyIter_enum hz ?_
        have I2 : Inv X pins σ H1 { s1 with heap := h' } := I1.kept (t' := s1.toks) hk
        unfold szOk at q1
        split at q1
        · rename_i hzz
          refine ⟨s1.heap.objs.size + 1, _, _, _, H1, rfl, I2, turn_en (N := s1.heap.objs.size) (a := a1) (k := k1) (xs := vs1) l1, ⟨⟨.none, hz⟩, oIt_it h1⟩, fun c hc => ?_, q1 H1 _ x1 st1 ⟨fun i H e hi => ?_, fun H e => ?_, fun i H x H' d e hd ⟨T, e1, e2, e3⟩ => ?_⟩ hzz⟩
          · have hle : s1.heap.objs.size ≤ c := by
              simp only [List.mem_cons, List.not_mem_nil, or_false] at hc
              rcases hc with e | e <;> subst e <;> first | exact Nat.le_refl _ | exact Nat.le_add_right _ _
            exact I1.fpOk hle (I1.hok.fresh hle)
          · rw [enumD_len, ← rl1.length] at hi
            exact ⟨hi, f1 H e⟩
          · exact ⟨by rw [enumD_len, rl1.length], f1 H e⟩
          · subst e1 e3
            obtain ⟨x', rfl, hx⟩ := enumD_get hd
            have gr : Grow H (upd H T (.tup (yen vs1 i))) := Grow.upd e2
            refine ⟨gr, .tup (SqT.of upd_same) (.cons ?_ (.cons (J.ext1 (e.trans (Grow.ext (g := J.g) gr).hard) (σ := σ) (getD_rep rl1 hx)) .nil))⟩
            rw [Nat.zero_add]
            exact .int _
        · exact q1.elim
end
end VL

namespace VL
open PySem PySem.Spec PyProof.Rows L2 LamX
/-! ### sorted(ints), sorted(set(ints)) -/
def insI (x : Int) : List Int → List Int
  | [] => [x]
  | y :: l => if x ≤ y then x :: y :: l else y :: insI x l
def sortI : List Int → List Int
  | [] => []
  | x :: l => insI x (sortI l)
theorem insI_perm (x : Int) : ∀ l : List Int, (insI x l).Perm (x :: l)
  | [] => .refl _
  | y :: l => by
    unfold insI
    split
    · exact .refl _
    · exact ((insI_perm x l).cons y).trans (.swap x y l)
theorem sortI_perm : ∀ l : List Int, (sortI l).Perm l
  | [] => .refl _
  | x :: l => (insI_perm x (sortI l)).trans ((sortI_perm l).cons x)
theorem insI_asc (x : Int) : ∀ l : List Int, l.Pairwise (· ≤ ·) → (insI x l).Pairwise (· ≤ ·)
  | [], _ => by simp [insI]
  | y :: l, h => by
    obtain ⟨h1, h2⟩ := List.pairwise_cons.mp h
    unfold insI
    split
    · rename_i hxy
      refine List.pairwise_cons.mpr ⟨fun z hz => ?_, h⟩
      rcases List.mem_cons.mp hz with rfl | hz
      · exact hxy
      · exact Int.le_trans hxy (h1 z hz)
    · rename_i hxy
      refine List.pairwise_cons.mpr ⟨fun z hz => ?_, insI_asc x l h2⟩
      rcases List.mem_cons.mp ((insI_perm x l).mem_iff.mp hz) with rfl | hz
      · omega
      · exact h1 z hz
theorem sortI_asc : ∀ l : List Int, (sortI l).Pairwise (· ≤ ·)
  | [] => .nil
  | x :: l => insI_asc x _ (sortI_asc l)
theorem asc_uniq : ∀ (l m : List Int), l.Pairwise (· ≤ ·) → m.Pairwise (· ≤ ·) → l.Perm m → l = m
  | [], m, _, _, p => (List.nil_perm.mp p).symm
  | x :: l, [], _, _, p => absurd p.length_eq (by simp)
  | x :: l, y :: m, h, k, p => by
    obtain ⟨h1, h2⟩ := List.pairwise_cons.mp h
    obtain ⟨k1, k2⟩ := List.pairwise_cons.mp k
    have exy : x = y := by
      have a : y ∈ x :: l := p.mem_iff.mpr List.mem_cons_self
      have b : x ∈ y :: m := p.mem_iff.mp List.mem_cons_self
      rcases List.mem_cons.mp a with a | a
      · exact a.symm
      · rcases List.mem_cons.mp b with b | b
        · exact b
        · have := h1 y a
          have := k1 x b
          omega
    subst exy
    rw [asc_uniq l m h2 k2 (List.Perm.cons_inv p)]
/-- without repetition -/
def insU (x : Int) : List Int → List Int
  | [] => [x]
  | y :: l => if x < y then x :: y :: l else if x = y then y :: l else y :: insU x l
def sortU : List Int → List Int
  | [] => []
  | x :: l => insU x (sortU l)
theorem mem_insU {x z : Int} : ∀ {l : List Int}, z ∈ insU x l ↔ z = x ∨ z ∈ l
  | [] => by simp [insU]
  | y :: l => by
    unfold insU
    split
    · simp
    · split
      · rename_i h; subst h; simp
      · simp [mem_insU (l := l)]
        constructor
        · rintro (h | h | h) <;> simp [h]
        · rintro (h | h | h) <;> simp [h]
theorem mem_sortU {z : Int} : ∀ {l : List Int}, z ∈ sortU l ↔ z ∈ l
  | [] => by simp [sortU]
  | x :: l => by
    unfold sortU
    rw [mem_insU, mem_sortU (l := l)]
    simp
theorem insU_asc (x : Int) : ∀ l : List Int, l.Pairwise (· < ·) → (insU x l).Pairwise (· < ·)
  | [], _ => by simp [insU]
  | y :: l, h => by
    obtain ⟨h1, h2⟩ := List.pairwise_cons.mp h
    unfold insU
    split
    · rename_i hxy
      refine List.pairwise_cons.mpr ⟨fun z hz => ?_, h⟩
      rcases List.mem_cons.mp hz with rfl | hz
      · exact hxy
      · exact Int.lt_trans hxy (h1 z hz)
    · split
      · exact h
      · refine List.pairwise_cons.mpr ⟨fun z hz => ?_, insU_asc x l h2⟩
        rcases mem_insU.mp hz with rfl | hz
        · omega
        · exact h1 z hz
theorem sortU_asc : ∀ l : List Int, (sortU l).Pairwise (· < ·)
  | [] => .nil
  | x :: l => insU_asc x _ (sortU_asc l)
theorem lt_uniq : ∀ (l m : List Int), l.Pairwise (· < ·) → m.Pairwise (· < ·) → (∀ z, z ∈ l ↔ z ∈ m) → l = m
  | [], [], _, _, _ => rfl
  | [], y :: m, _, _, p => absurd ((p y).mpr List.mem_cons_self) (by simp)
  | x :: l, [], _, _, p => absurd ((p x).mp List.mem_cons_self) (by simp)
  | x :: l, y :: m, h, k, p => by
    obtain ⟨h1, h2⟩ := List.pairwise_cons.mp h
    obtain ⟨k1, k2⟩ := List.pairwise_cons.mp k
    have exy : x = y := by
      rcases List.mem_cons.mp ((p y).mpr List.mem_cons_self) with a | a
      · exact a.symm
      · rcases List.mem_cons.mp ((p x).mp List.mem_cons_self) with b | b
        · exact b
        · have := h1 y a
          have := k1 x b
          omega
    subst exy
    rw [lt_uniq l m h2 k2 fun z => ?_]
    constructor
    · intro hz
      rcases List.mem_cons.mp ((p z).mp (List.mem_cons_of_mem _ hz)) with rfl | q
      · exact absurd (h1 z hz) (Int.lt_irrefl z)
      · exact q
    · intro hz
      rcases List.mem_cons.mp ((p z).mpr (List.mem_cons_of_mem _ hz)) with rfl | q
      · exact absurd (k1 z hz) (Int.lt_irrefl z)
      · exact q
def dSorted : List D → Option (List D)
  | [.lst ds] => (D.ints ds).map fun ns => (sortI ns).map D.int
  | _ => none
def dSortSet : List D → Option (List D)
  | [.tup ds] => (D.ints ds).bind fun ns => if ns.length < 64 then some ((sortU ns).map D.int) else none
  | _ => none
section
variable {X : Cx} {J : Jc} {k : Nat} {e : Expr} {es : List Expr} {m : ME} {ms : MA} {pos p p2 p3 : Pos}
theorem on_sorted (hK : J.g.K = X.K) : OpNL J dSorted (rSortedI X.K) := fun σ H Q xs ds ys r e q => by
  unfold dSorted at e
  split at e
  · rename_i ds
    cases r with
    | cons r1 r2 =>
      cases r2
      cases h : D.ints ds with
      | none => rw [h] at e; cases e
      | some ns =>
        rw [h] at e
        cases e
        cases r1 with
        | lst fz rl =>
          have ev := rl.ints h
          subst ev
          refine ⟨_, ns, rfl, fz.sq, fun ns' p h1 h2 hp => ?_⟩
          rw [asc_uniq ns' (sortI ns) h2 (sortI_asc ns) (h1.trans (sortI_perm ns).symm)]
          exact q H p _ (fun _ _ z => z) hp (scrL _ _ _ _)
  · cases e
def rSetTup (K : PySem.W.Frag) (w : World) : List V → Hp → VK → Prop := fun vs H Q => ∃ (a : Addr) (ns : List Int), vs = [V.ref a] ∧ SqT K H a (ns.map V.int) ∧ ns.length < 1000 ∧
  ∀ (p : Addr) (c : Nat), H p = none → c ≤ ns.length → Q (.ref p) (upd H p (SetO w p (fun j => decide (j ∈ ns)) c))
theorem cr_setTup (hc : X.calm = true) : CallR X (.type "set") (rSetTup X.K X.w) := by
  intro pins s σ H vs us Q I r h
  obtain ⟨a, ns, rfl, hs, hl, q⟩ := h
  obtain ⟨its, rv, hp, hz⟩ := I.tuple hs
  rw [Vals.ref1 r]
  refine call_set_tupI (P := X.prog) (w := X.w) ns (I.ok.hd hc) hp (by simpa using rv.ints) (Nat.lt_of_le_of_lt (Nat.succ_le_of_lt hl) (by decide)) fun h' tk c R hc' hk => ?_
  exact ⟨.ref _, upd H s.heap.objs.size (SetO X.w s.heap.objs.size (fun j => decide (j ∈ ns)) c), I.laid hk (Nat.le_refl _) (setO_new R), rfl, q _ c (I.hok.fresh (Nat.le_refl _)) hc'⟩
def rSortTup (K : PySem.W.Frag) (w : World) : List V → Hp → VK → Prop := fun vs H Q => rSetTup K w vs H fun v H1 => rSortedSet w [v] H1 Q
theorem on_sortSet (hK : J.g.K = X.K) : OpNL J dSortSet (rSortTup X.K X.w) := fun σ H Q xs ds ys r e q => by
  unfold dSortSet at e
  split at e
  · rename_i ds
    cases r with
    | cons r1 r2 =>
      cases r2
      cases h : D.ints ds with
      | none => rw [h] at e; cases e
      | some ns =>
        rw [h] at e
        simp only [Option.bind_some] at e
        split at e
        · rename_i hl
          cases e
          cases r1 with
          | tup sq rl =>
            have ev := rl.ints h
            subst ev
            refine ⟨_, ns, rfl, hK ▸ sq, Nat.lt_trans hl (by decide), fun p c hp hc => ⟨p, _, c, rfl, upd_same, Nat.lt_of_le_of_lt hc hl, fun ns' p' h1 h2 _ hp' => ?_⟩⟩
            rw [lt_uniq ns' (sortU ns) h1 (sortU_asc ns) fun z => by rw [h2 z, mem_sortU]; simp]
            exact q _ p' _ (Grow.upd hp) hp' (scrL _ _ _ _)
        · cases e
  · cases e
theorem n_sorted (F : Fx X J k) (hm : X.mg "sorted" = none) (ha : VA X J (e :: es) ms) (hg : Gl X "sorted" := by rfl) (he : starEach (e :: es) X.env = (false, eval e X.env) :: starEach es X.env := by rfl) (hpl : (backTo pos (starEach es X.env)).any (·.1) = false := by rfl) : VN X J (.Call (.Name "sorted" p) (e :: es) [] pos) (mNL dSorted ms) :=
  vn_N (pe_callB cr_sortedI hg hm (by decide +kernel) ha (by decide) (by decide) he hpl) (on_sorted F.K)
theorem n_sortSet (F : Fx X J k) (hm : X.mg "sorted" = none) (hm2 : X.mg "set" = none) (ha : VA X J [e] ms) (hg : Gl X "sorted" := by rfl) (hg2 : Gl X "set" := by rfl) (hs : starEach [e] X.env = [(false, eval e X.env)] := by rfl)
    (hs2 : starEach [.Call (.Name "set" p2) [e] [] p3] X.env = [(false, eval (.Call (.Name "set" p2) [e] [] p3) X.env)] := by rfl) : VN X J (.Call (.Name "sorted" p) [.Call (.Name "set" p2) [e] [] p3] [] pos) (mNL dSortSet ms) :=
  have h := pe_callB (id := "sorted") (pos := pos) (p := p) (cr_sortedSet (X := X) F.F.calm) hg hm (by decide +kernel) (pa_cons (pe_callTy (T := "set") (cr_setTup (X := X) F.F.calm) hg2 hm2 (by decide +kernel) ha (by decide) (by decide) hs rfl) pa_nil hs2) (by decide) (by decide) hs2 rfl
  vn_N (r := rSortTup X.K X.w) (pe_imp h fun σ H Q q => q) (on_sortSet F.K)
end
end VL

namespace VL
open PySem PySem.Spec PyProof.Rows L2 LamX
section
variable {X : Cx} {J : Jc} {k : Nat} {e : Expr} {es : List Expr} {m : ME} {ms : MA} {pos p p2 p3 : Pos} {g : Gx}
theorem fr_x {x : Str} (F : Fx X J k) (fr : g.mg x = none) (eg : J.g = g) : X.mg x = none := by
  rw [← F.F.mg, eg]
  exact fr
theorem i_enum {tpos : Pos} {elts : List Expr} {kk : Nat} (F : Fx X J k) (fr : g.mg "enumerate" = none) (ha : VA X J [e] ms) (eg : J.g = g := by rfl) (hg : Gl X "enumerate" := by rfl) (hs : starEach [e] X.env = [(false, eval e X.env)] := by rfl) :
    VI X J (.Tuple elts kk tpos) (.Call (.Name "enumerate" p) [e] [] pos) (mEnum ms) := vi_enum F.K (fr_x F fr eg) ha hg hs
theorem n_sortedG (F : Fx X J k) (fr : g.mg "sorted" = none) (ha : VA X J (e :: es) ms) (eg : J.g = g := by rfl) (hg : Gl X "sorted" := by rfl) (he : starEach (e :: es) X.env = (false, eval e X.env) :: starEach es X.env := by rfl) (hpl : (backTo pos (starEach es X.env)).any (·.1) = false := by rfl) : VN X J (.Call (.Name "sorted" p) (e :: es) [] pos) (mNL dSorted ms) :=
  n_sorted F (fr_x F fr eg) ha hg he hpl
theorem n_sortSetG (F : Fx X J k) (fr : g.mg "sorted" = none) (fr2 : g.mg "set" = none) (ha : VA X J [e] ms) (eg : J.g = g := by rfl) (hg : Gl X "sorted" := by rfl) (hg2 : Gl X "set" := by rfl) (hs : starEach [e] X.env = [(false, eval e X.env)] := by rfl)
    (hs2 : starEach [.Call (.Name "set" p2) [e] [] p3] X.env = [(false, eval (.Call (.Name "set" p2) [e] [] p3) X.env)] := by rfl) : VN X J (.Call (.Name "sorted" p) [.Call (.Name "set" p2) [e] [] p3] [] pos) (mNL dSortSet ms) :=
  n_sortSet F (fr_x F fr eg) (fr_x F fr2 eg) ha hg hg2 hs hs2
end
end VL

namespace VL
open PySem PySem.Spec PyProof.Rows L2 LamX
/-! ### min and max of a list or a tuple of numbers -/
section
variable {prog : Program} {w : World} {A : Around} {E : Value → Shared → Prop} {s : Shared} {l : Addr} {xs : Array (Int × Tok)}
theorem iter_intTup {Q : Value → Shared → Prop} (hl : s.heap.IsTuple l (intItems xs))
    (h : ∀ s₂ : Shared, s₂ = { s with heap := s.heap.push { cls := .type "tuple_iterator", data := .fields #[.ref l, .int 0 0] } } →
      (s₂.heap.IsTupleIter s.heap.objs.size l 0 ∧ s₂.heap.IsTuple l (intItems xs)) → (∀ b ∈ [s.heap.objs.size, l], b < s₂.heap.objs.size) → l ≠ s.heap.objs.size → Q (.ref s.heap.objs.size) s₂) :
    wpAny (model prog w) A (pyIter (.ref l)) Q E s := by
  have hlt : l < s.heap.objs.size := by obtain ⟨_, e, _⟩ := hl; exact Heap.lt_size e
  refine wpAny_pyIter_tuple hl (h _ rfl ⟨⟨_, Heap.get?_push_size _ rfl, rfl, rfl⟩, hl.push _⟩ (fun b hb => ?_) (Nat.ne_of_lt hlt))
  show b < (s.heap.push _).objs.size
  rw [Heap.size_push]
  rcases List.mem_cons.mp hb with rfl | hb
  · exact Nat.lt_succ_self _
  · rcases List.mem_cons.mp hb with rfl | hb
    · exact Nat.lt_succ_of_lt hlt
    · cases hb
theorem old_keptT {h' : Heap} (hk : ∀ b o, b ∉ [s.heap.objs.size] → (s.heap.push { cls := .type "tuple_iterator", data := .fields #[.ref l, .int 0 0] }).get? b = some o → h'.get? b = some o) :
    ∀ b o, s.heap.get? b = some o → h'.get? b = some o := fun b o e => by
  refine hk b o (fun hm => ?_) (Heap.get?_push_of_some _ e)
  rcases List.mem_cons.mp hm with e1 | hm
  · exact absurd (e1 ▸ Heap.lt_size e) (Nat.lt_irrefl _)
  · cases hm
theorem max_intTup {Q : Value → Shared → Prop} (hh : A.handled = none) (hl : s.heap.IsTuple l (intItems xs)) (hne : 0 < xs.size)
    (h : ∀ v h' tk, (intItems xs)[argBest (fun i j => decide (numAt xs i > numAt xs j)) (xs.size - 1)]? = some v → (∀ b o, s.heap.get? b = some o → h'.get? b = some o) → Q v { s with heap := h', toks := tk }) :
    wpAny (model prog w) A (call (.builtin "max") [.ref l]) Q E s := by
  refine call_max_walk (iter_intTup hl fun s₂ e st hfp hlI => ?_)
  subst e
  refine ⟨_, _, _, _, _, _, _, rfl, Walks.tuple (A := A.in1) hh _ l hlI (intItems xs), st, hfp, by simpa [intItems] using hne, CmpOf.ints_gt (numAt xs) (fun _ _ => intItems_at), fun v h' tk hP hk => ?_⟩
  exact h v h' tk (by simpa [intItems] using hP) (old_keptT hk)
theorem min_intTup {Q : Value → Shared → Prop} (hh : A.handled = none) (hl : s.heap.IsTuple l (intItems xs)) (hne : 0 < xs.size)
    (h : ∀ v h' tk, (intItems xs)[argBest (fun i j => decide (numAt xs i < numAt xs j)) (xs.size - 1)]? = some v → (∀ b o, s.heap.get? b = some o → h'.get? b = some o) → Q v { s with heap := h', toks := tk }) :
    wpAny (model prog w) A (call (.builtin "min") [.ref l]) Q E s := by
  refine call_min_walk (iter_intTup hl fun s₂ e st hfp hlI => ?_)
  subst e
  refine ⟨_, _, _, _, _, _, _, rfl, Walks.tuple (A := A.in1) hh _ l hlI (intItems xs), st, hfp, by simpa [intItems] using hne, CmpOf.ints_lt (numAt xs) (fun _ _ => intItems_at), fun v h' tk hP hk => ?_⟩
  exact h v h' tk (by simpa [intItems] using hP) (old_keptT hk)
end
section
variable {prog : Program} {w : World} {A : Around} {E : Value → Shared → Prop} {s : Shared} {l : Addr} {its : List Value} {ns : List Int} {Q : Value → Shared → Prop}
theorem max_rawT (hh : A.handled = none) (hl : s.heap.IsTuple l its.toArray) (hi : IntsAre its ns) (hne : 0 < ns.length)
    (h : ∀ h' tk M t', (∀ b o, s.heap.get? b = some o → h'.get? b = some o) → M ∈ ns → (∀ a, a ∈ ns → a ≤ M) → Q (.int M t') { s with heap := h', toks := tk }) : wpAny (model prog w) A (call (.builtin "max") [.ref l]) Q E s := by
  obtain ⟨xs, e⟩ := hi.allInts.items
  have hn : numsOf (intItems xs).toList = ns := by rw [← e]; exact hi.numsOf
  rw [nums_intItems] at hn
  subst hn
  rw [e] at hl
  have hsz : 0 < xs.size := by simpa using hne
  refine max_intTup hh hl hsz fun v h' tk hv hk => ?_
  obtain ⟨t, rfl⟩ := intItems_at hv
  obtain ⟨h1, h2⟩ := argBest_gt (numAt xs) (xs.size - 1)
  refine h h' tk _ t hk ?_ fun a ha => ?_
  · rw [numAt_eq]; exact PySem.getD_mem (by rw [List.length_map, Array.length_toList]; omega)
  · obtain ⟨j, hj, rfl⟩ := mem_getD ha
    rw [List.length_map, Array.length_toList] at hj
    rw [← numAt_eq]; exact h2 j (by omega)
theorem min_rawT (hh : A.handled = none) (hl : s.heap.IsTuple l its.toArray) (hi : IntsAre its ns) (hne : 0 < ns.length)
    (h : ∀ h' tk M t', (∀ b o, s.heap.get? b = some o → h'.get? b = some o) → M ∈ ns → (∀ a, a ∈ ns → M ≤ a) → Q (.int M t') { s with heap := h', toks := tk }) : wpAny (model prog w) A (call (.builtin "min") [.ref l]) Q E s := by
  obtain ⟨xs, e⟩ := hi.allInts.items
  have hn : numsOf (intItems xs).toList = ns := by rw [← e]; exact hi.numsOf
  rw [nums_intItems] at hn
  subst hn
  rw [e] at hl
  have hsz : 0 < xs.size := by simpa using hne
  refine min_intTup hh hl hsz fun v h' tk hv hk => ?_
  obtain ⟨t, rfl⟩ := intItems_at hv
  obtain ⟨h1, h2⟩ := argBest_lt (numAt xs) (xs.size - 1)
  refine h h' tk _ t hk ?_ fun a ha => ?_
  · rw [numAt_eq]; exact PySem.getD_mem (by rw [List.length_map, Array.length_toList]; omega)
  · obtain ⟨j, hj, rfl⟩ := mem_getD ha
    rw [List.length_map, Array.length_toList] at hj
    rw [← numAt_eq]; exact h2 j (by omega)
end
section
variable {X : Cx}
def rMaxB (K : PySem.W.Frag) : List V → Hp → VK → Prop := fun vs H Q => ∃ (a : Addr) (ns : List Int), vs = [V.ref a] ∧ (SqL K H a (ns.map V.int) ∨ SqT K H a (ns.map V.int)) ∧ 0 < ns.length ∧ ∀ m, m ∈ ns → (∀ y, y ∈ ns → y ≤ m) → Q (.int m) H
def rMinB (K : PySem.W.Frag) : List V → Hp → VK → Prop := fun vs H Q => ∃ (a : Addr) (ns : List Int), vs = [V.ref a] ∧ (SqL K H a (ns.map V.int) ∨ SqT K H a (ns.map V.int)) ∧ 0 < ns.length ∧ ∀ m, m ∈ ns → (∀ y, y ∈ ns → m ≤ y) → Q (.int m) H
theorem cr_maxB (hc : X.calm = true) : CallR X (.builtin "max") (rMaxB X.K) := by
  intro pins s σ H vs us Q I r h
  obtain ⟨a, ns, rfl, hs | hs, hne, q⟩ := h
  · obtain ⟨its, rv, hl, _⟩ := I.list hs
    rw [Vals.ref1 r]
    exact max_raw (I.ok.hd hc) hl.isList rv.ints hne fun h' tk m t' hk h1 h2 => ⟨.int _, H, I.kept hk, ⟨_, rfl⟩, q m h1 h2⟩
  · obtain ⟨its, rv, hl, _⟩ := I.tuple hs
    rw [Vals.ref1 r]
    exact max_rawT (I.ok.hd hc) hl rv.ints hne fun h' tk m t' hk h1 h2 => ⟨.int _, H, I.kept hk, ⟨_, rfl⟩, q m h1 h2⟩
theorem cr_minB (hc : X.calm = true) : CallR X (.builtin "min") (rMinB X.K) := by
  intro pins s σ H vs us Q I r h
  obtain ⟨a, ns, rfl, hs | hs, hne, q⟩ := h
  · obtain ⟨its, rv, hl, _⟩ := I.list hs
    rw [Vals.ref1 r]
    exact min_raw (I.ok.hd hc) hl.isList rv.ints hne fun h' tk m t' hk h1 h2 => ⟨.int _, H, I.kept hk, ⟨_, rfl⟩, q m h1 h2⟩
  · obtain ⟨its, rv, hl, _⟩ := I.tuple hs
    rw [Vals.ref1 r]
    exact min_rawT (I.ok.hd hc) hl rv.ints hne fun h' tk m t' hk h1 h2 => ⟨.int _, H, I.kept hk, ⟨_, rfl⟩, q m h1 h2⟩
end
def dMaxB : List D → Option D
  | [.lst ds] => (D.ints ds).bind fun ns => (maxI ns).map D.int
  | [.tup ds] => (D.ints ds).bind fun ns => (maxI ns).map D.int
  | _ => none
def dMinB : List D → Option D
  | [.lst ds] => (D.ints ds).bind fun ns => (minI ns).map D.int
  | [.tup ds] => (D.ints ds).bind fun ns => (minI ns).map D.int
  | _ => none
section
variable {X : Cx} {J : Jc} {k : Nat} {e : Expr} {es : List Expr} {ms : MA} {pos p : Pos}
theorem on_maxB (hK : J.g.K = X.K) : OpN J dMaxB (rMaxB X.K) := fun σ H Q xs ds d r e q => by
  rw [← hK]
  unfold dMaxB at e
  split at e
  · rename_i ds
    cases r with
    | cons r1 r2 =>
      cases r2
      cases r1 with
      | lst s t =>
        cases h : D.ints ds with
        | none => rw [h] at e; cases e
        | some bs =>
          rw [h] at e
          cases bs with
          | nil => cases e
          | cons n ns =>
            cases e
            refine ⟨_, n :: ns, rfl, .inl ((t.ints h) ▸ s.sq), Nat.succ_pos _, fun m hm hall => ?_⟩
            rw [foldl_max ns n m (List.mem_cons.mp hm) fun y hy => hall y (List.mem_cons.mpr hy)] at q
            exact g0 q (.int _)
  · rename_i ds
    cases r with
    | cons r1 r2 =>
      cases r2
      cases r1 with
      | tup s t =>
        cases h : D.ints ds with
        | none => rw [h] at e; cases e
        | some bs =>
          rw [h] at e
          cases bs with
          | nil => cases e
          | cons n ns =>
            cases e
            refine ⟨_, n :: ns, rfl, .inr ((t.ints h) ▸ s), Nat.succ_pos _, fun m hm hall => ?_⟩
            rw [foldl_max ns n m (List.mem_cons.mp hm) fun y hy => hall y (List.mem_cons.mpr hy)] at q
            exact g0 q (.int _)
  · cases e
theorem on_minB (hK : J.g.K = X.K) : OpN J dMinB (rMinB X.K) := fun σ H Q xs ds d r e q => by
  rw [← hK]
  unfold dMinB at e
  split at e
  · rename_i ds
    cases r with
    | cons r1 r2 =>
      cases r2
      cases r1 with
      | lst s t =>
        cases h : D.ints ds with
        | none => rw [h] at e; cases e
        | some bs =>
          rw [h] at e
          cases bs with
          | nil => cases e
          | cons n ns =>
            cases e
            refine ⟨_, n :: ns, rfl, .inl ((t.ints h) ▸ s.sq), Nat.succ_pos _, fun m hm hall => ?_⟩
            rw [foldl_min ns n m (List.mem_cons.mp hm) fun y hy => hall y (List.mem_cons.mpr hy)] at q
            exact g0 q (.int _)
  · rename_i ds
    cases r with
    | cons r1 r2 =>
      cases r2
      cases r1 with
      | tup s t =>
        cases h : D.ints ds with
        | none => rw [h] at e; cases e
        | some bs =>
          rw [h] at e
          cases bs with
          | nil => cases e
          | cons n ns =>
            cases e
            refine ⟨_, n :: ns, rfl, .inr ((t.ints h) ▸ s), Nat.succ_pos _, fun m hm hall => ?_⟩
            rw [foldl_min ns n m (List.mem_cons.mp hm) fun y hy => hall y (List.mem_cons.mpr hy)] at q
            exact g0 q (.int _)
  · cases e
theorem x_maxB (F : Fx X J k) (ha : VA X J (e :: es) ms) (hg : Gl X "max" := by rfl) (he : starEach (e :: es) X.env = (false, eval e X.env) :: starEach es X.env := by rfl) (hpl : (backTo pos (starEach es X.env)).any (·.1) = false := by rfl) : VE X J (.Call (.Name "max" p) (e :: es) [] pos) (mN dMaxB ms) :=
  ve_callB (cr_maxB F.F.calm) (on_maxB F.K) F.bt.max (by decide +kernel) ha hg (by decide) (by decide) he hpl
theorem x_minB (F : Fx X J k) (ha : VA X J (e :: es) ms) (hg : Gl X "min" := by rfl) (he : starEach (e :: es) X.env = (false, eval e X.env) :: starEach es X.env := by rfl) (hpl : (backTo pos (starEach es X.env)).any (·.1) = false := by rfl) : VE X J (.Call (.Name "min" p) (e :: es) [] pos) (mN dMinB ms) :=
  ve_callB (cr_minB F.F.calm) (on_minB F.K) F.bt.min (by decide +kernel) ha hg (by decide) (by decide) he hpl
end
end VL

namespace VL
open PySem PySem.Spec PyProof.Rows L2 LamX
/-! ### more reckoning: enumerate, sorted, equal rows of numbers -/
section
variable {vw : Vw} {env : En} {p : P3}
def enumOn : List D → P3 → Res (List D) := fun ds p1 => match ds with
  | [a] => match a.items with
    | some xs => szOk (enumD 0 xs) p1
    | none => .bad
  | _ => .bad
@[simp] theorem ev_enum (ms : MA) : mEnum ms vw p = (ms vw p).bind enumOn := rfl
theorem enumOn_ok {a : D} {xs : List D} (h : a.items = some xs) (hl : xs.length ≤ 16777216) : enumOn [a] p = .ok (enumD 0 xs) p := by
  have : (enumD 0 xs).length ≤ sizeLine := by rw [enumD_len]; exact hl
  simp [enumOn, h, szOk, this]
theorem enumD_map {α : Type} (f : α → D) : ∀ (k : Nat) (l : List α), enumD k (l.map f) = (l.zipIdx k).map fun x => .tup [.int (x.2 : Nat), f x.1]
  | k, [] => rfl
  | k, x :: l => by simp [enumD, enumD_map f (k + 1) l]
end
theorem eqvAll_ints : ∀ a b : List Int, PyData.eqvAll (D.pys (a.map D.int)) (D.pys (b.map D.int)) = decide (a = b)
  | [], [] => by simp [D.pys, PyData.eqvAll]
  | [], _ :: _ => by simp [D.pys, PyData.eqvAll]
  | _ :: _, [] => by simp [D.pys, PyData.eqvAll]
  | x :: a, y :: b => by
    simp only [List.map_cons, D.pys, D.py, PyData.eqvAll, PyData.eqv, eqvAll_ints a b]
    rw [Bool.eq_iff_iff]
    simp
@[simp] theorem eq_lints (a b : List Int) : D.eq (.lst (a.map D.int)) (.lst (b.map D.int)) = some (.bl (decide (a = b))) := by
  show D.eqP _ _ = _
  unfold D.eqP
  rw [plain_ints, plain_ints]
  simp only [Bool.and_self, if_true]
  show some (D.bl (PyData.eqv (.list (D.pys (a.map D.int))) (.list (D.pys (b.map D.int))))) = _
  rw [PyData.eqv, eqvAll_ints]
@[simp] theorem eq_lints_nil (a : List Int) : D.eq (.lst (a.map D.int)) (.lst []) = some (.bl a.isEmpty) := by
  have := eq_lints a []
  simp only [List.map_nil] at this
  rw [this]
  cases a <;> simp
theorem ints_int (l : List Int) : D.ints (l.map D.int) = some l := by
  have := ints_map (fun i => i) l
  simpa using this
theorem dSortSet_ints {l : List Int} (h : l.length < 64) : dSortSet [.tup (l.map D.int)] = some ((sortU l).map D.int) := by
  simp [dSortSet, ints_int, h]
theorem sortU_id {l : List Int} (h : l.Pairwise (· < ·)) : sortU l = l := lt_uniq _ _ (sortU_asc l) h fun z => mem_sortU
theorem isin_tints (i : Int) (l : List Int) : D.isin (.int i) (.tup (l.map D.int)) = some (.bl (decide (i ∈ l))) := by
  have h1 : D.plain 60 (.int i) = true := rfl
  have h2 : D.plain 60 (.tup (l.map D.int)) = true := by
    show List.all _ _ = true
    simp [List.all_map, D.plain, Function.comp_def]
  unfold D.isin
  dsimp only
  rw [h1, h2]
  simp only [Bool.and_self, if_true, List.any_map, Function.comp_def]
  congr 2
  rw [Bool.eq_iff_iff, List.any_eq_true]
  simp only [D.eqv, D.py, PyData.eqv, beq_iff_eq, decide_eq_true_eq]
  constructor
  · rintro ⟨x, h, rfl⟩; exact h
  · intro h; exact ⟨i, h, rfl⟩
theorem isin_lints (i : Int) (l : List Int) : D.isin (.int i) (.lst (l.map D.int)) = some (.bl (decide (i ∈ l))) := by
  have h1 : D.plain 60 (.int i) = true := rfl
  have h2 : D.plain 60 (.lst (l.map D.int)) = true := by
    show List.all _ _ = true
    simp [List.all_map, D.plain, Function.comp_def]
  unfold D.isin
  dsimp only
  rw [h1, h2]
  simp only [Bool.and_self, if_true, List.any_map, Function.comp_def]
  congr 2
  rw [Bool.eq_iff_iff, List.any_eq_true]
  simp only [D.eqv, D.py, PyData.eqv, beq_iff_eq, decide_eq_true_eq]
  constructor
  · rintro ⟨x, h, rfl⟩; exact h
  · intro h; exact ⟨i, h, rfl⟩
theorem eq_tup_nil {ds : List D} (h : D.plain 60 (.tup ds) = true) : D.eq (.tup ds) (.tup []) = some (.bl ds.isEmpty) := by
  show D.eqP (.tup ds) (.tup []) = _
  unfold D.eqP
  rw [if_pos (by rw [h]; rfl)]
  cases ds with
  | nil => simp [D.eqv, D.py, D.pys, PyData.eqv, PyData.eqvAll]
  | cons d ds => simp [D.eqv, D.py, D.pys, PyData.eqv, PyData.eqvAll]
theorem plain_tints (n : Nat) (l : List Int) : D.plain (n + 1) (.tup (l.map D.int)) = true := by
  show List.all _ _ = true
  simp only [List.all_map, List.all_eq_true, Function.comp_apply]
  intro x _
  cases n <;> rfl
@[simp] theorem eq_tints_nil (l : List Int) : D.eq (.tup (l.map D.int)) (.tup []) = some (.bl l.isEmpty) := by
  rw [eq_tup_nil (plain_tints 59 l)]; simp
@[simp] theorem ne_tints_nil (l : List Int) : D.ne (.tup (l.map D.int)) (.tup []) = some (.bl (!l.isEmpty)) := by
  rw [ne_tup_nil (plain_tints 59 l)]; simp
theorem cutL_both {α : Type} (xs : List α) {i j : Int} (h : 0 ≤ i) (h2 : 0 ≤ j) : cutL xs (some i) (some j) = (xs.drop i.toNat).take (j.toNat - i.toNat) := by
  unfold cutL
  rw [sIx_pos _ _ h, sIx_pos _ _ h2]
  by_cases hi : i.toNat ≤ xs.length
  · rw [Nat.min_eq_left hi]
    by_cases hj : j.toNat ≤ xs.length
    · rw [Nat.min_eq_left hj]
    · rw [Nat.min_eq_right (by omega), List.take_of_length_le (by simp), List.take_of_length_le (by simp; omega)]
  · rw [show min i.toNat xs.length = xs.length by omega, List.drop_of_length_le (Nat.le_refl _), List.drop_of_length_le (show xs.length ≤ i.toNat by omega)]
    simp
theorem ix_map {α : Type} (f : α → D) (l : List α) {i : Nat} {a : α} (h : l[i]? = some a) : D.ix (.tup (l.map f)) (.int (i : Int)) = some (f a) :=
  atI_nat (j := i) rfl (by rw [List.getElem?_map, h]; rfl)
theorem ixl_map {α : Type} (f : α → D) (l : List α) {i : Nat} {a : α} (h : l[i]? = some a) : D.ix (.lst (l.map f)) (.int (i : Int)) = some (f a) :=
  atI_nat (j := i) rfl (by rw [List.getElem?_map, h]; rfl)
end VL

namespace VL
open PySem PySem.Spec PyProof.Rows L2 LamX
/-! ### loops over range(n) -/
section
variable {bind : D → En → Option En} {mb : MS} {Q : Fl × En → P3 → Prop}
theorem forL_rngA (E : Nat → En → Prop) {p : P3} (n : Nat) (fin : ∀ e, E n e → Q (.nx, e) p) (step : ∀ (k : Nat) (K : Int) env, K = k → k < n → E k env → ∃ env1, bind (.int K) env = some env1 ∧ (mb env1 p).wp (wpL Q fun e p1 => p1 = p ∧ E (k + 1) e)) :
    ∀ (m k : Nat) (env : En), k + m = n → E k env → (forL bind mb ((ir (k : Int) n).map D.int) env p).wp Q
  | 0, k, env, h, hE => by
    rw [ir_nil (by omega)]
    have : k = n := by omega
    subst this
    exact fin env hE
  | m + 1, k, env, h, hE => by
    obtain ⟨env1, e, w⟩ := step k k env rfl (by omega) hE
    have go : ∀ e2, E (k + 1) e2 → (forL bind mb ((ir ((k : Int) + 1) n).map D.int) e2 p).wp Q := fun e2 hE2 => by
      have := forL_rngA E n fin step m (k + 1) e2 (by omega) hE2
      rwa [show ((k + 1 : Nat) : Int) = (k : Int) + 1 from rfl] at this
    rw [ir_cons (by omega)]
    simp only [List.map_cons]
    unfold forL
    rw [e]
    dsimp only
    cases r : mb env1 p with
    | bad => rw [r] at w; exact w.elim
    | err x v p1 => rw [r] at w; exact w.elim
    | ok fe p1 =>
      rw [r] at w
      obtain ⟨fl, e2⟩ := fe
      cases fl with
      | nx => obtain ⟨rfl, w⟩ := w; exact go e2 w
      | ct => obtain ⟨rfl, w⟩ := w; exact go e2 w
      | bk => exact w
      | ret d => exact w
      | rtl d => exact w.elim
theorem forL_rng (E : Nat → En → Prop) {p : P3} (n : Nat) {N : Int} (hN : N = n) (env : En) (h : E 0 env) (fin : ∀ e, E n e → Q (.nx, e) p) (step : ∀ (k : Nat) (K : Int) env, K = k → k < n → E k env → ∃ env1, bind (.int K) env = some env1 ∧ (mb env1 p).wp (wpL Q fun e p1 => p1 = p ∧ E (k + 1) e)) :
    (forL bind mb ((ir 0 N).map D.int) env p).wp Q := by subst hN; exact forL_rngA E n fin step n 0 env (by omega) h
end
theorem rg_n {n : Nat} (h : n ≤ 16777216) : rgOk 0 (n : Int) = true := rgOk_i (by decide) (by omega) (by omega) (by omega)
theorem minI_of {l : List Int} {m : Int} (h : m ∈ l) (h2 : ∀ y ∈ l, m ≤ y) : minI l = some m := by
  cases l with
  | nil => cases h
  | cons a l =>
    show some _ = _
    rw [foldl_min l a m (List.mem_cons.mp h) fun y hy => h2 y (List.mem_cons.mpr hy)]
theorem maxI_of {l : List Int} {m : Int} (h : m ∈ l) (h2 : ∀ y ∈ l, y ≤ m) : maxI l = some m := by
  cases l with
  | nil => cases h
  | cons a l =>
    show some _ = _
    rw [foldl_max l a m (List.mem_cons.mp h) fun y hy => h2 y (List.mem_cons.mpr hy)]
theorem dMin1_ints (l : List Int) : dMinB [.lst (l.map D.int)] = (minI l).map D.int := by simp [dMinB, ints_int]
theorem dMinT_ints (l : List Int) : dMinB [.tup (l.map D.int)] = (minI l).map D.int := by simp [dMinB, ints_int]
theorem dMax1_ints (l : List Int) : dMaxB [.lst (l.map D.int)] = (maxI l).map D.int := by simp [dMaxB, ints_int]
theorem dMaxT_ints (l : List Int) : dMaxB [.tup (l.map D.int)] = (maxI l).map D.int := by simp [dMaxB, ints_int]
theorem ixl_last {ds : List D} {d : D} {n : Nat} (h : ds.length = n + 1) (e : ds[n]? = some d) : D.ix (.lst ds) (.int (-1)) = some d := by
  show atI ds (-1) = _
  unfold atI ixN
  rw [if_neg (by decide), if_pos (by omega)]
  simp only [Option.bind_some]
  rw [show (-1 + (ds.length : Int)).toNat = n by omega]
  exact e
theorem ixt_last {ds : List D} {d : D} {n : Nat} (h : ds.length = n + 1) (e : ds[n]? = some d) : D.ix (.tup ds) (.int (-1)) = some d := by
  have := ixl_last h e
  rw [← this]
  rfl
@[simp] theorem le_sl1 : (1 ≤ sizeLine) = True := eq_true (by unfold sizeLine; decide)
@[simp] theorem le_sl2 : (2 ≤ sizeLine) = True := eq_true (by unfold sizeLine; decide)
@[simp] theorem le_sl3 : (3 ≤ sizeLine) = True := eq_true (by unfold sizeLine; decide)
@[simp] theorem le_sl4 : (4 ≤ sizeLine) = True := eq_true (by unfold sizeLine; decide)
@[simp] theorem le_sl5 : (5 ≤ sizeLine) = True := eq_true (by unfold sizeLine; decide)
@[simp] theorem le_sl6 : (6 ≤ sizeLine) = True := eq_true (by unfold sizeLine; decide)
@[simp] theorem le_sl7 : (7 ≤ sizeLine) = True := eq_true (by unfold sizeLine; decide)
@[simp] theorem le_sl8 : (8 ≤ sizeLine) = True := eq_true (by unfold sizeLine; decide)
@[simp] theorem le_sl9 : (9 ≤ sizeLine) = True := eq_true (by unfold sizeLine; decide)
@[simp] theorem le_sl10 : (10 ≤ sizeLine) = True := eq_true (by unfold sizeLine; decide)
@[simp] theorem le_sl11 : (11 ≤ sizeLine) = True := eq_true (by unfold sizeLine; decide)
@[simp] theorem le_sl12 : (12 ≤ sizeLine) = True := eq_true (by unfold sizeLine; decide)
@[simp] theorem le_sl13 : (13 ≤ sizeLine) = True := eq_true (by unfold sizeLine; decide)
@[simp] theorem le_sl14 : (14 ≤ sizeLine) = True := eq_true (by unfold sizeLine; decide)
@[simp] theorem le_sl15 : (15 ≤ sizeLine) = True := eq_true (by unfold sizeLine; decide)
@[simp] theorem le_sl16 : (16 ≤ sizeLine) = True := eq_true (by unfold sizeLine; decide)
@[simp] theorem le_sl17 : (17 ≤ sizeLine) = True := eq_true (by unfold sizeLine; decide)
@[simp] theorem le_sl18 : (18 ≤ sizeLine) = True := eq_true (by unfold sizeLine; decide)
@[simp] theorem le_sl19 : (19 ≤ sizeLine) = True := eq_true (by unfold sizeLine; decide)
@[simp] theorem le_sl20 : (20 ≤ sizeLine) = True := eq_true (by unfold sizeLine; decide)
@[simp] theorem le_sl21 : (21 ≤ sizeLine) = True := eq_true (by unfold sizeLine; decide)
@[simp] theorem le_sl22 : (22 ≤ sizeLine) = True := eq_true (by unfold sizeLine; decide)
@[simp] theorem le_sl23 : (23 ≤ sizeLine) = True := eq_true (by unfold sizeLine; decide)
@[simp] theorem le_sl24 : (24 ≤ sizeLine) = True := eq_true (by unfold sizeLine; decide)
@[simp] theorem le_sl25 : (25 ≤ sizeLine) = True := eq_true (by unfold sizeLine; decide)
@[simp] theorem le_sl26 : (26 ≤ sizeLine) = True := eq_true (by unfold sizeLine; decide)
@[simp] theorem le_sl27 : (27 ≤ sizeLine) = True := eq_true (by unfold sizeLine; decide)
@[simp] theorem le_sl28 : (28 ≤ sizeLine) = True := eq_true (by unfold sizeLine; decide)
@[simp] theorem le_sl29 : (29 ≤ sizeLine) = True := eq_true (by unfold sizeLine; decide)
@[simp] theorem le_sl30 : (30 ≤ sizeLine) = True := eq_true (by unfold sizeLine; decide)
@[simp] theorem le_sl31 : (31 ≤ sizeLine) = True := eq_true (by unfold sizeLine; decide)
@[simp] theorem le_sl0 : (0 ≤ sizeLine) = True := eq_true (Nat.zero_le _)
/-! as lemmas that the kernel need not reckon -/
@[simp high] theorem bindS_nx' (env : En) (p : P3) (f : MS) : (Res.ok (Fl.nx, env) p).bindS f = f env p := Eq.trans rfl rfl
@[simp high] theorem wpS_nx' (Q : Fl × En → P3 → Prop) (f : MS) (env : En) (p : P3) : wpS Q f (.nx, env) p = (f env p).wp Q := Eq.trans rfl rfl
end VL

namespace VL
open PySem PySem.Spec PyProof.Rows L2 LamX
/-! ### defs with closures: what is heard -/
section
variable {α : Type} {p : P3} {vw : Vw} {env : En}
@[simp] theorem outV_ret (d : D) (env : En) (p : P3) : outV (.ok (.ret d, env) p) = .ok d p := rfl
@[simp] theorem outV_nx (env : En) (p : P3) : outV (.ok (.nx, env) p) = .ok .non p := rfl
@[simp] theorem outV_bind (r : Res α) (f : α → P3 → Res (Fl × En)) (h : ∀ x v p1, r ≠ .err x v p1) : outV (r.bind f) = r.bind fun a p => outV (f a p) := by
  cases r with
  | ok a p => rfl
  | err x v p => exact absurd rfl (h x v p)
  | bad => rfl
theorem callV_ok {n np : Nat} {m : MS} {ds : List D} (h : ds.length = np) : callV n np m ds p = outV (m (env0 n ds) p) := if_pos h
def retV (d : D) (env : En) (p : P3) : Res (Fl × En) := if d.pl = true then .ok (.ret d, env) p else .bad
@[simp] theorem ev_sRetV (m : ME) : sRetV m env p = (m (vwOf env) p).bind fun d p1 => retV d env p1 := onV_bind m _
@[simp] theorem retV_pl {d : D} (h : d.pl = true) (env : En) (p : P3) : retV d env p = .ok (.ret d, env) p := if_pos h
def onPl (ds : List D) (p : P3) : Res (List D) := if D.pls ds = true then .ok ds p else .bad
@[simp] theorem ev_mPl (ms : MA) : mPl ms vw p = (ms vw p).bind onPl := rfl
theorem onPl_pl {ds : List D} (h : D.pls ds = true) (p : P3) : onPl ds p = .ok ds p := if_pos h
def capOn (mf : List D → P3 → Res D) (p1 : P3) : Option (List D) → Res D := fun o => match o with
  | some ds => mf ds p1
  | none => .bad
@[simp] theorem capOn_some (mf : List D → P3 → Res D) (p1 : P3) (ds : List D) : capOn mf p1 (some ds) = mf ds p1 := rfl
@[simp] theorem ev_mCallV (caps : CapT) (mf : List D → P3 → Res D) (ms : MA) : mCallV caps mf ms vw p = (ms vw p).bind fun ds p1 => capOn mf p1 (capDs caps vw ds) := rfl
/-- well, with defs that get closures -/
def wpV (Q : D → P3 → Prop) : Fl × En → P3 → Prop
  | (.ret d, _), p => Q d p
  | (.nx, _), p => Q .non p
  | _, _ => False
theorem wp_outV {r : Res (Fl × En)} {Q : D → P3 → Prop} (h : r.wp (wpV Q)) : (outV r).wp Q := by
  cases r with
  | ok fe p =>
    obtain ⟨fl, env⟩ := fe
    cases fl <;> exact h
  | err x v p => exact h.elim
  | bad => exact h.elim
@[simp] theorem wpV_ret (Q : D → P3 → Prop) (d : D) (env : En) (p : P3) : wpV Q (.ret d, env) p = Q d p := rfl
@[simp] theorem wpV_nx (Q : D → P3 → Prop) (env : En) (p : P3) : wpV Q (.nx, env) p = Q .non p := rfl
theorem dIsE_exc {exs : List Str} {sub : Str → Bool} {x : Str} {b : Bool} (h : exs.contains x = true) (hb : sub x = b) (v : D) : dIsE exs sub (.exc x v) = some (.bl b) := by subst hb; exact if_pos h
theorem dVal_exc {exs : List Str} {x : Str} (h : exs.contains x = true) (v : D) : dVal exs (.exc x v) = some v := if_pos h
theorem fApp_sm {ds : List D} {d : D} (h : ds.length < 1000) : fApp ds d = some (ds ++ [d]) := fApp_ok (by have : sizeLine = 2 ^ 24 := rfl; omega)
def heardB (exs : List Str) (mls : Nat → List D → P3 → Res D) : MS := sSeq (sPar [1, 2] [.inl ([], mC .non), .inl ([], mC .non)]) (sSeq (sHeard 2 1 3 exs (mCallC 0 mls)) (sRetV (mTup (mCons (mVar 1) (mCons (mVar 2) (mNil))))))
theorem heard_err {exs : List Str} {mls : Nat → List D → P3 → Res D} {i : Nat} {ds : List D} {x : Str} {v : D} (hd : D.pls ds = true) (h : mls i ds p = .err x v p) (hx : exs.contains x = true) (hv : v.pl = true) :
    callV 4 1 (heardB exs mls) [.clo i ds] p = .ok (.tup [.exc x v, .non]) p := by
  rw [callV_ok (ds := [D.clo i ds]) (np := 1) rfl]
  have e1 : ∀ e1 e2 e3, sHeard 2 1 3 exs (mCallC 0 mls) [some (.p (.clo i ds)), e1, e2, e3] p = .ok (.nx, [some (.p (.clo i ds)), some (.p (.exc x v)), e2, none]) p := fun e1 e2 e3 => by
    have : mCallC 0 mls (vwOf [some (.p (.clo i ds)), e1, e2, e3]) p = .err x v p := by
      show (if D.pls ds = true then mls i ds p else .bad) = _
      rw [if_pos hd, h]
    unfold sHeard
    rw [this]
    dsimp only
    rw [hx]
    rfl
  have h2 : D.pl (.tup [.exc x v, .non]) = true := by simp [D.pl, D.pls, hv]
  unfold heardB
  generalize sHeard 2 1 3 exs (mCallC 0 mls) = hd2 at e1
  simp [env0, e1, retV_pl h2]
end
end VL

namespace VL
open PySem PySem.Spec PyProof.Rows L2 LamX
/-! ### the greatest common divisor -/
def cdB : MS := sSeq (whileL (toB (m2 D.ne (mVar 1) (mC (.int 0)))) (sPar [0, 1] [.inl ([], mVar 1), .inl ([], m2 D.fmod (mVar 0) (mVar 1))]) 1000) (sRet (mVar 0))
/-- how many turns are left at most -/
def cdN (a b : Nat) : Nat := if b = 0 then 0 else if b ≤ a then (a * b).log2 + 1 else (b * a).log2 + 2
theorem cdN_next {a b : Nat} (hb : b ≠ 0) : cdN b (a % b) < cdN a b := by
  have hm : a % b < b := Nat.mod_lt _ (Nat.pos_of_ne_zero hb)
  unfold cdN
  rw [if_neg hb]
  by_cases h0 : a % b = 0
  · rw [if_pos h0]
    split <;> omega
  · rw [if_neg h0, if_pos (Nat.le_of_lt hm)]
    by_cases h : b ≤ a
    · rw [if_pos h]
      have h1 : 2 * (b * (a % b)) ≤ a * b := by
        have h2 : b * (a / b) + a % b = a := Nat.div_add_mod a b
        have h3 : 1 ≤ a / b := (Nat.one_le_div_iff (Nat.pos_of_ne_zero hb)).mpr h
        have h4 : b ≤ b * (a / b) := Nat.le_mul_of_pos_right b h3
        have h5 : 2 * (a % b) ≤ a := by omega
        have := Nat.mul_le_mul_right b h5
        rw [Nat.mul_comm b (a % b), ← Nat.mul_assoc]
        exact this
      have hp : b * (a % b) ≠ 0 := Nat.mul_ne_zero hb h0
      have h6 : (b * (a % b)).log2 + 1 ≤ (a * b).log2 := by
        rw [Nat.le_log2 (by omega)]
        have := Nat.log2_self_le hp
        rw [Nat.pow_succ]
        omega
      omega
    · rw [if_neg h]
      have : a % b = a := Nat.mod_eq_of_lt (by omega)
      rw [this]
      omega
theorem cd_ok {a b : Int} {p : P3} (ha : 0 ≤ a) (hb : 0 ≤ b) (h : a.natAbs * b.natAbs < 2 ^ 980) : callF 2 2 cdB [.int a, .int b] p = .ok (.int (Int.gcd a b : Nat)) p := by
  refine eq_of_wp ?_
  rw [callF_ok (ds := [D.int a, D.int b]) (np := 2) rfl]
  simp [cdB, env0]
  refine whileL_wp (fun n env p1 => p1 = p ∧ ∃ (x y : Nat), cdN x y ≤ n ∧ Nat.gcd x y = Int.gcd a b ∧ env = [some (.p (.int (x : Nat))), some (.p (.int (y : Nat)))]) ?_ 990 _ _ ⟨rfl, a.natAbs, b.natAbs, ?_, rfl, ?_⟩ 1000 (by decide)
  · rintro n env p1 ⟨rfl, x, y, hn, hg, rfl⟩
    simp
    by_cases hy : y = 0
    · subst hy
      rw [if_pos rfl]
      rw [Nat.gcd_zero_right] at hg
      rw [hg]
    · rw [if_neg hy]
      have h1 := cdN_next (a := x) hy
      refine ⟨n - 1, by omega, ?_⟩
      have e : (x : Int).fmod y = ((x % y : Nat) : Int) := by
        rw [Int.fmod_eq_emod_of_nonneg _ (by omega)]
        simp
      rw [fmod_int (by omega), e]
      simp only [ofO_some, wp_ok, true_and]
      refine ⟨y, x % y, by omega, ?_, rfl, rfl⟩
      rw [← hg, Nat.gcd_comm y, ← Nat.gcd_rec, Nat.gcd_comm]
  · unfold cdN
    split
    · omega
    · split
      · have := log2_lt_of (k := 980) (by decide) h
        omega
      · have h4 : b.natAbs * a.natAbs < 2 ^ 980 := by rw [Nat.mul_comm]; exact h
        have := log2_lt_of (k := 980) (by decide) h4
        omega
  · rw [Int.natAbs_of_nonneg ha, Int.natAbs_of_nonneg hb]
/-! ### fractions in lowest terms -/
def fr (a b : Int) : Int × Int := (a / (Int.gcd a b : Int), b / (Int.gcd a b : Int))
def frD (a b : Int) : D := .tup [.int (fr a b).1, .int (fr a b).2]
theorem gcd_pos {a b : Int} (hb : 0 < b) : 0 < Int.gcd a b := Int.gcd_pos_of_ne_zero_right a (by omega)
theorem fr_cross {a b : Int} (hb : 0 < b) : (fr a b).1 * b = a * (fr a b).2 := by
  have h1 : (Int.gcd a b : Int) ∣ a := Int.gcd_dvd_left ..
  have h2 : (Int.gcd a b : Int) ∣ b := Int.gcd_dvd_right ..
  obtain ⟨x, hx⟩ := h1
  obtain ⟨y, hy⟩ := h2
  have hg : (Int.gcd a b : Int) ≠ 0 := by have := gcd_pos (a := a) hb; omega
  have e1 : a / (Int.gcd a b : Int) = x := by rw [Int.ediv_eq_of_eq_mul_right hg hx]
  have e2 : b / (Int.gcd a b : Int) = y := by rw [Int.ediv_eq_of_eq_mul_right hg hy]
  show a / (Int.gcd a b : Int) * b = a * (b / (Int.gcd a b : Int))
  rw [e1, e2]
  generalize (Int.gcd a b : Int) = g at *
  subst hx
  subst hy
  grind
theorem fr_pos {a b : Int} (hb : 0 < b) : 0 < (fr a b).2 ∧ (fr a b).2 ≤ b := by
  have hg := gcd_pos (a := a) hb
  obtain ⟨y, hy⟩ : (Int.gcd a b : Int) ∣ b := Int.gcd_dvd_right ..
  have e2 : b / (Int.gcd a b : Int) = y := by rw [Int.ediv_eq_of_eq_mul_right (by omega) hy]
  show 0 < b / (Int.gcd a b : Int) ∧ b / (Int.gcd a b : Int) ≤ b
  constructor
  · rw [e2]
    by_cases h : 0 < y
    · exact h
    · have : (Int.gcd a b : Int) * y ≤ 0 := Int.mul_nonpos_of_nonneg_of_nonpos (by omega) (by omega)
      omega
  · exact Int.ediv_le_self _ (by omega)
theorem fr_cop {a b : Int} (hb : 0 < b) : Int.gcd (fr a b).1 (fr a b).2 = 1 := by
  show Int.gcd (a / (Int.gcd a b : Int)) (b / (Int.gcd a b : Int)) = 1
  exact Int.gcd_ediv_gcd_ediv_gcd (gcd_pos hb)
theorem dvd_cop {x y z : Int} (h : x ∣ y * z) (g : Int.gcd x y = 1) : x ∣ z := by
  have h1 : x.natAbs ∣ y.natAbs * z.natAbs := by rw [← Int.natAbs_mul]; exact Int.natAbs_dvd_natAbs.mpr h
  have g1 : Nat.Coprime x.natAbs y.natAbs := g
  exact Int.natAbs_dvd_natAbs.mp (g1.dvd_of_dvd_mul_left h1)
theorem fr_eq {a b c d : Int} (hb : 0 < b) (hd : 0 < d) (h : a * d = c * b) : fr a b = fr c d := by
  have h1 := fr_cross (a := a) hb
  have h2 := fr_cross (a := c) hd
  have p1 := fr_pos (a := a) hb
  have p2 := fr_pos (a := c) hd
  have c1 := fr_cop (a := a) hb
  have c2 := fr_cop (a := c) hd
  generalize fr a b = x at *
  generalize fr c d = y at *
  obtain ⟨x1, x2⟩ := x
  obtain ⟨y1, y2⟩ := y
  simp only at *
  have e : x1 * y2 = y1 * x2 := by
    have h3 : (x1 * y2) * (b * d) = (y1 * x2) * (b * d) := by grind
    exact Int.eq_of_mul_eq_mul_right (by have := Int.mul_pos hb hd; omega) h3
  have d1 : x2 ∣ y2 := by
    have : x2 ∣ x1 * y2 := ⟨y1, by rw [e, Int.mul_comm]⟩
    exact dvd_cop this (by rw [Int.gcd_comm]; exact c1)
  have d2 : y2 ∣ x2 := by
    have : y2 ∣ y1 * x2 := ⟨x1, by rw [← e, Int.mul_comm]⟩
    exact dvd_cop this (by rw [Int.gcd_comm]; exact c2)
  have e2 : x2 = y2 := Int.dvd_antisymm (by omega) (by omega) d1 d2
  subst e2
  have e3 : x1 = y1 := Int.eq_of_mul_eq_mul_right (by omega) e
  rw [e3]
/-! ### the program's and the law's fractions -/
section
variable {p : P3} {a b : Int}
theorem fr_abs {a b : Int} (hb : 0 < b) : (fr a b).1.natAbs ≤ a.natAbs := by
  have h1 : (Int.gcd a b : Int) ∣ a := Int.gcd_dvd_left ..
  obtain ⟨x, hx⟩ := h1
  have hg := gcd_pos (a := a) hb
  have e1 : a / (Int.gcd a b : Int) = x := by rw [Int.ediv_eq_of_eq_mul_right (by omega) hx]
  show (a / (Int.gcd a b : Int)).natAbs ≤ a.natAbs
  rw [e1]
  have h2 : a.natAbs = Int.gcd a b * x.natAbs := by
    have := congrArg Int.natAbs hx
    rwa [Int.natAbs_mul, Int.natAbs_natCast] at this
  rw [h2]
  exact Nat.le_mul_of_pos_left _ hg
def frB (cm : List D → P3 → Res D) : MS := sSeq (xIf [] (toB (m2 (D.cmp fLt) (mVar 1) (mC (.int 0)))) (sPar [0, 1] [.inl ([], m1 D.usub (mVar 0)), .inl ([], m1 D.usub (mVar 1))]) (sNil)) (sSeq (xSet [] 2 (mCall cm (mCons (mN dAbs (mCons (mVar 0) (mNil))) (mCons (mVar 1) (mNil))))) (sRet (mTup (mCons (m2 D.fdiv (mVar 0) (mVar 2)) (mCons (m2 D.fdiv (mVar 1) (mVar 2)) (mNil))))))
theorem fr_ok (hb : 0 < b) (h1 : a.natAbs < 2 ^ 240) (h2 : b.natAbs < 2 ^ 240) : callF 3 2 (frB (callF 2 2 cdB)) [.int a, .int b] p = .ok (frD a b) p := by
  have hn : ¬ b < 0 := by omega
  have ha : 0 ≤ (if a < 0 then -a else a) := by split <;> omega
  have ha2 : (if a < 0 then -a else a).natAbs < 2 ^ 240 := by split <;> omega
  have hg : Int.gcd (if a < 0 then -a else a) b = Int.gcd a b := by split <;> simp [Int.gcd]
  have hpr : (if a < 0 then -a else a).natAbs * b.natAbs < 2 ^ 980 := by
    have := Nat.mul_lt_mul'' ha2 h2
    exact Nat.lt_of_lt_of_le this (by rw [← Nat.pow_add]; exact Nat.pow_le_pow_right (by decide) (by decide))
  have hc := cd_ok (p := p) ha (by omega) hpr
  rw [hg] at hc
  have gp := gcd_pos (a := a) hb
  have gle : Int.gcd a b ≤ b.natAbs := Nat.le_of_dvd (by omega) (Int.gcd_dvd_natAbs_right a b)
  have hd : okDiv (Int.gcd a b : Int) = true := by
    unfold okDiv
    have : (Int.gcd a b : Int).natAbs.log2 < 9000 := by
      rw [Int.natAbs_natCast]
      exact Nat.lt_trans (log2_lt_of (k := 240) (by decide) (by omega)) (by decide)
    rw [decide_eq_true this, decide_eq_true (show (0 : Int) < (Int.gcd a b : Int) by omega)]
    rfl
  have e1 : a.fdiv (Int.gcd a b : Int) = a / (Int.gcd a b : Int) := Int.fdiv_eq_ediv_of_nonneg _ (by omega)
  have e2 : b.fdiv (Int.gcd a b : Int) = b / (Int.gcd a b : Int) := Int.fdiv_eq_ediv_of_nonneg _ (by omega)
  rw [callF_ok (ds := [D.int a, D.int b]) (np := 2) rfl]
  unfold frB
  generalize hcm : callF 2 2 cdB = cm at *
  simp [env0, hn, hc, fdiv_int hd, e1, e2, frD, fr]
end
end VL

namespace VL
open PySem PySem.Spec PyProof.Rows L2 LamX
/-! ### rows, grids -/
def rD (r : List Int) : D := .tup (r.map D.int)
def mD (R : List (List Int)) : D := .tup (R.map rD)
def dotI (a b : List Int) : Int := ((a.zip b).map fun t => t.1 * t.2).sum
theorem zip2_ii : ∀ a b : List Int, zip2 (a.map D.int) (b.map D.int) = (a.zip b).map fun t => .tup [.int t.1, .int t.2]
  | [], _ => by simp [zip2]
  | _ :: _, [] => by simp [zip2]
  | x :: a, y :: b => by simp [zip2, zip2_ii a b]
theorem zipii {A B : D} {a b : List Int} {p : P3} (ha : A.items = some (a.map D.int)) (hb : B.items = some (b.map D.int)) (hl : a.length ≤ 16777216) : zip2On [A, B] p = .ok ((a.zip b).map fun t => .tup [.int t.1, .int t.2]) p := by
  rw [← zip2_ii]
  refine zip2On_ok ha hb ?_
  rw [zip2_ii, List.length_map, List.length_zip]
  exact Nat.le_trans (Nat.min_le_left _ _) hl
def dotB : MS := sRet (mN dSum (mCons (mLst (mLc [2, 3] (bTup [2, 3]) (mZip2 (mCons (mVar 0) (mCons (mVar 1) (mNil)))) (bTrue) (m2 D.mul (mVar 2) (mVar 3)))) (mNil)))
theorem dSum_ints (l : List Int) : dSum [.lst (l.map D.int)] = some (.int l.sum) := by
  show (D.ints _).map _ = _
  rw [ints_int]
  rfl
theorem dSum_map {α : Type} (f : α → Int) (l : List α) : dSum [.lst (l.map fun x => .int (f x))] = some (.int (l.map f).sum) := by
  have := dSum_ints (l.map f)
  rwa [List.map_map] at this
section
variable {p : P3}
theorem dot_ok {A B : D} {a b : List Int} (ha : A.items = some (a.map D.int)) (hb : B.items = some (b.map D.int)) (hl : a.length ≤ 1000) (hm : ∀ x ∈ a, Sm x) : callF 4 2 dotB [A, B] p = .ok (.int (dotI a b)) p := by
  rw [callF_ok (ds := [A, B]) (np := 2) rfl]
  unfold dotB
  simp [env0, zipii ha hb (by omega)]
  rw [lcM_congr (g' := fun t p => .ok (some (.int (t.1 * t.2))) p), lcM_pure]
  · simp [dSum_map, dotI]
  · rintro ⟨x, y⟩ ht p
    have := hm x (List.of_mem_zip ht).1
    simp [this.mul]
def appliedB (dot : List D → P3 → Res D) : MS := sRet (mN dTuple2 (mCons (mLst (mLc [2] (bName 2) (mIter (mVar 0)) (bTrue) (mCall dot (mCons (mVar 2) (mCons (mVar 1) (mNil)))))) (mNil)))
theorem applied_ok {R : List (List Int)} {B : D} {b : List Int} (hb : B.items = some (b.map D.int)) (hR : ∀ r ∈ R, r.length ≤ 1000 ∧ ∀ x ∈ r, Sm x) : callF 3 2 (appliedB (callF 4 2 dotB)) [mD R, B] p = .ok (rD (R.map fun r => dotI r b)) p := by
  rw [callF_ok (ds := [mD R, B]) (np := 2) rfl]
  have it : iterOn (mD R) p = .ok (R.map rD) p := rfl
  have hd : ∀ r ∈ R, ∀ p, callF 4 2 dotB [rD r, B] p = .ok (.int (dotI r b)) p := fun r hr p => dot_ok rfl hb (hR r hr).1 (hR r hr).2
  unfold appliedB
  generalize callF 4 2 dotB = dt at hd
  simp [env0, it]
  rw [lcM_congr (g' := fun r p => .ok (some (.int (dotI r b))) p), lcM_pure]
  · simp [rD]
  · intro r hr p
    simp [hd r hr]
/-- a grid of m rows of m numbers each -/
structure Sq (m : Nat) (R : List (List Int)) : Prop where
  n : R.length = m
  r : ∀ r ∈ R, r.length = m
def gi (l : List Int) (i : Nat) : Int := l.getD i 0
def gw (R : List (List Int)) (i : Nat) : List Int := R.getD i []
def col (R : List (List Int)) (j : Nat) : List Int := R.map fun r => gi r j
def mulM (m : Nat) (A B : List (List Int)) : List (List Int) := A.map fun r => (List.range m).map fun j => dotI r (col B j)
theorem ir_nat (n : Nat) : ir 0 (n : Int) = (List.range n).map fun (i : Nat) => (i : Int) := by
  unfold ir
  simp
theorem ix_row {l : List Int} {j : Nat} (h : j < l.length) : D.ix (rD l) (.int (j : Int)) = some (.int (gi l j)) := by
  refine ix_map D.int l ?_
  unfold gi
  rw [List.getElem?_eq_getElem h, List.getD_eq_getElem?_getD, List.getElem?_eq_getElem h]
  rfl
theorem ix_grid {R : List (List Int)} {j : Nat} (h : j < R.length) : D.ix (mD R) (.int (j : Int)) = some (rD (gw R j)) := by
  refine ix_map rD R ?_
  unfold gw
  rw [List.getElem?_eq_getElem h, List.getD_eq_getElem?_getD, List.getElem?_eq_getElem h]
  rfl
def timesB (dot : List D → P3 → Res D) : MS := sSeq (xSet [] 2 (mLst (mLc [3] (bName 3) (mRange1 (mCons (mN dLen (mCons (m2 D.ix (mVar 1) (mC (.int 0))) (mNil))) (mNil))) (bTrue) (mLst (mLc [4] (bName 4) (mIter (mVar 1)) (bTrue) (m2 D.ix (mVar 4) (mVar 3))))))) (sRet (mN dTuple2 (mCons (mLst (mLc [4] (bName 4) (mIter (mVar 0)) (bTrue) (mN dTuple2 (mCons (mLst (mLc [5] (bName 5) (mIter (mVar 2)) (bTrue) (mCall dot (mCons (mVar 4) (mCons (mVar 5) (mNil)))))) (mNil))))) (mNil))))
theorem times_ok {m : Nat} {A B : List (List Int)} (hm : m ≤ 100) (hB : Sq m B) (hm0 : 0 < m) (hA : ∀ r ∈ A, r.length ≤ 1000 ∧ ∀ x ∈ r, Sm x) : callF 6 2 (timesB (callF 4 2 dotB)) [mD A, mD B] p = .ok (mD (mulM m A B)) p := by
  rw [callF_ok (ds := [mD A, mD B]) (np := 2) rfl]
  have itA : ∀ p, iterOn (mD A) p = .ok (A.map rD) p := fun _ => rfl
  have itB : ∀ p, iterOn (mD B) p = .ok (B.map rD) p := fun _ => rfl
  have hd : ∀ r ∈ A, ∀ j p, callF 4 2 dotB [rD r, .lst ((col B j).map D.int)] p = .ok (.int (dotI r (col B j))) p := fun r hr j p => dot_ok rfl rfl (hA r hr).1 (hA r hr).2
  unfold timesB
  generalize callF 4 2 dotB = dt at hd
  have h0 : D.ix (mD B) (.int 0) = some (rD (gw B 0)) := ix_grid (j := 0) (by have := hB.n; omega)
  have hl0 : (gw B 0).length = m := by
    refine hB.r _ ?_
    unfold gw
    rw [List.getD_eq_getElem?_getD, List.getElem?_eq_getElem (by have := hB.n; omega)]
    exact List.getElem_mem _
  obtain ⟨N, hN⟩ : ∃ N : Int, N = m := ⟨_, rfl⟩
  have hln : dLen [rD (gw B 0)] = some (.int N) := by rw [hN, ← hl0]; simp [rD]
  generalize gw B 0 = b0 at *
  have hr : rgOk 0 N = true := by rw [hN]; exact rg_n (by omega)
  have hcol : ∀ j p, j < m → lcM (fun (r : List Int) p => (strict (ofO ((rD r).ix (.int (j : Nat))) p)).bind fun y p2 => .ok (some y) p2) B p = .ok ((col B j).map D.int) p := fun j p hj => by
    rw [lcM_congr (g' := fun r p => .ok (some (.int (gi r j))) p), lcM_pure]
    · simp [col]
    · intro r hr p
      rw [ix_row (by rw [hB.r r hr]; exact hj)]
      rfl
  simp [env0, itA, itB, h0, hln, hr]
  rw [show ir 0 N = (List.range m).map fun (i : Nat) => (i : Int) by rw [hN]; exact ir_nat m]
  simp only [lcM_mapL]
  rw [lcM_congr (g' := fun j p => .ok (some (.lst ((col B j).map D.int))) p), lcM_pure]
  · simp
    rw [lcM_congr (g' := fun r p => .ok (some (rD ((List.range m).map fun j => dotI r (col B j)))) p), lcM_pure]
    · simp [mD, mulM]
    · intro r hr p
      rw [lcM_congr (g' := fun j p => .ok (some (.int (dotI r (col B j)))) p), lcM_pure]
      · simp [rD]
      · intro j hj p
        simp [hd r hr]
  · intro j hj p
    have := hcol j p (List.mem_range.mp hj)
    rw [this]
    rfl
theorem mulM_sq {m : Nat} {A B : List (List Int)} (hA : A.length = m) : Sq m (mulM m A B) := ⟨by simp [mulM, hA], fun r hr => by
  obtain ⟨x, _, rfl⟩ := List.mem_map.mp hr
  simp⟩
def unitB : MS := sRet (mN dTuple2 (mCons (mLst (mLc [1] (bName 1) (mRange1 (mCons (mVar 0) (mNil))) (bTrue) (mN dTuple2 (mCons (mLst (mLc [2] (bName 2) (mRange1 (mCons (mVar 0) (mNil))) (bTrue) (mN dInt (mCons (m2 D.eq (mVar 1) (mVar 2)) (mNil))))) (mNil))))) (mNil)))
def unitM (m : Nat) : List (List Int) := (List.range m).map fun i => (List.range m).map fun j => if i = j then 1 else 0
theorem unitM_sq (m : Nat) : Sq m (unitM m) := ⟨by simp [unitM], fun r hr => by
  obtain ⟨x, _, rfl⟩ := List.mem_map.mp hr
  simp⟩
theorem unit_ok {m : Nat} {N : Int} (hN : N = m) (hm : m ≤ 100) : callF 3 1 unitB [.int N] p = .ok (mD (unitM m)) p := by
  rw [callF_ok (ds := [D.int N]) (np := 1) rfl]
  have hr : rgOk 0 N = true := by rw [hN]; exact rg_n (by omega)
  have hir : ir 0 N = (List.range m).map fun (i : Nat) => (i : Int) := by rw [hN]; exact ir_nat m
  simp [unitB, env0, hr]
  rw [hir]
  simp [mD, unitM, rD, Function.comp_def]
  intro a _ b _
  by_cases h : a = b
  · subst h; simp
  · rw [if_neg h, if_neg (by omega)]
def powerB : MS := sSeq (xSet [] 2 (mC (.int 1))) (sSeq (sFor (eName 3) (mRange1 (mCons (mVar 1) (mNil))) (xSet [] 2 (m2 D.mul (mVar 2) (mVar 0)))) (sRet (mVar 2)))
theorem power_ok {q N : Int} {n : Nat} (hN : N = n) (hn : n ≤ 1000) (hq : Sm q) : callF 4 2 powerB [.int q, .int N] p = .ok (.int (q ^ n)) p := by
  refine eq_of_wp ?_
  rw [callF_ok (ds := [D.int q, D.int N]) (np := 2) rfl]
  have hr : rgOk 0 N = true := by rw [hN]; exact rg_n (by omega)
  simp [powerB, env0, hr]
  refine forL_rng (fun k env => ∃ o, env = [some (.p (.int q)), some (.p (.int N)), some (.p (.int (q ^ k))), o]) n hN _ ⟨none, by rw [Int.pow_zero]⟩ ?_ ?_
  · rintro e ⟨o, rfl⟩
    simp
  · rintro k K env hK hk ⟨o, rfl⟩
    refine ⟨_, rfl, ?_⟩
    simp [hq.mul']
    rw [Int.pow_succ]
end
end VL

namespace VL
open PySem PySem.Spec PyProof.Rows L2 LamX
/-! ### a row by its divisor; is a polynomial within the circle; what a grid's rows keep -/
def gl (l : List Int) : Nat := l.foldl (fun g x => Nat.gcd g x.natAbs) 0
def thin (l : List Int) : List Int := if gl l > 1 then l.map fun x => x.fdiv (gl l) else l
def thinnedB (cm : List D → P3 → Res D) : MS := sSeq (xSet [] 1 (mC (.int 0))) (sSeq (sFor (eName 2) (mIter (mVar 0)) (xSet [] 1 (mCall cm (mCons (mVar 1) (mCons (mN dAbs (mCons (mVar 2) (mNil))) (mNil)))))) (sRet (mIf (toB (m2 (D.cmp fGt) (mVar 1) (mC (.int 1)))) (mLst (mLc [2] (bName 2) (mIter (mVar 0)) (bTrue) (m2 D.fdiv (mVar 2) (mVar 1)))) (mLst (mNL dList2 (mCons (mVar 0) (mNil)))))))
theorem gl_lt {n : Nat} (hn : 0 < n) : ∀ (l : List Int) (g : Nat), g < n → (∀ x ∈ l, x.natAbs < n) → l.foldl (fun g x => Nat.gcd g x.natAbs) g < n
  | [], g, hg, _ => hg
  | x :: l, g, hg, h => by
    refine gl_lt hn l _ ?_ fun y hy => h y (List.mem_cons_of_mem _ hy)
    have hx := h x List.mem_cons_self
    show Nat.gcd g x.natAbs < n
    by_cases h0 : g = 0
    · subst h0; rw [Nat.gcd_zero_left]; exact hx
    · exact Nat.lt_of_le_of_lt (Nat.gcd_le_left _ (Nat.pos_of_ne_zero h0)) hg
section
variable {p : P3}
theorem thin_ok {l : List Int} (h : ∀ x ∈ l, x.natAbs < 2 ^ 480) (hl : l.length ≤ 16777216) : callF 3 1 (thinnedB (callF 2 2 cdB)) [.lst (l.map D.int)] p = .ok (.lst ((thin l).map D.int)) p := by
  refine eq_of_wp ?_
  have hcd : ∀ (g : Nat) (x : Int) p, g < 2 ^ 480 → x.natAbs < 2 ^ 480 → callF 2 2 cdB [.int (g : Nat), .int (if x < 0 then -x else x)] p = .ok (.int (Nat.gcd g x.natAbs : Nat)) p := fun g x p hg hx => by
    have h1 : (if x < 0 then -x else x).natAbs = x.natAbs := by split <;> omega
    have := cd_ok (p := p) (a := (g : Nat)) (b := if x < 0 then -x else x) (by omega) (by split <;> omega) (by
      rw [h1, Int.natAbs_natCast]
      exact Nat.lt_of_lt_of_le (Nat.mul_lt_mul'' hg hx) (by rw [← Nat.pow_add]; exact Nat.pow_le_pow_right (by decide) (by decide)))
    rw [this]
    unfold Int.gcd
    rw [h1, Int.natAbs_natCast]
  rw [callF_ok (ds := [D.lst (l.map D.int)]) (np := 1) rfl]
  unfold thinnedB
  generalize callF 2 2 cdB = cm at hcd
  simp [env0]
  refine forL_fold D.int (fun (g : Nat) env => g < 2 ^ 480 ∧ ∃ o, env = [some (.p (.lst (l.map D.int))), some (.p (.int (g : Nat))), o]) (fun g x => Nat.gcd g x.natAbs) l 0 _ ?_ ⟨Nat.two_pow_pos _, _, rfl⟩ ?_
  · rintro x hx g env ⟨hg, o, rfl⟩
    refine ⟨_, rfl, ?_⟩
    simp [hcd g x _ hg (h x hx)]
    by_cases h0 : g = 0
    · subst h0; rw [Nat.gcd_zero_left]; exact h x hx
    · exact Nat.lt_of_le_of_lt (Nat.gcd_le_left _ (Nat.pos_of_ne_zero h0)) hg
  · rintro e ⟨hg, o, rfl⟩
    show Res.wp (sRet _ _ p) _
    have e0 : l.foldl (fun g x => Nat.gcd g x.natAbs) 0 = gl l := rfl
    rw [e0] at hg ⊢
    by_cases h1 : gl l > 1
    · have hd : okDiv (gl l : Nat) = true := by
        unfold okDiv
        have : ((gl l : Nat) : Int).natAbs.log2 < 9000 := by
          rw [Int.natAbs_natCast]
          exact Nat.lt_trans (log2_lt_of (k := 480) (by decide) hg) (by decide)
        rw [decide_eq_true this, decide_eq_true (show (0 : Int) < (gl l : Nat) by omega)]
        rfl
      have h2 : (1 : Int) < (gl l : Nat) := by omega
      simp [h2, fdiv_int hd, thin, h1]
    · have h2 : ¬ (1 : Int) < (gl l : Nat) := by omega
      simp [h2, thin, h1]
def withinB (th : List D → P3 → Res D) : MS := sSeq (xSet [] 1 (mLst (mNL dList2 (mCons (mVar 0) (mNil))))) (sSeq (whileL (toB (m2 (D.cmp fGt) (mN dLen (mCons (mVar 1) (mNil))) (mC (.int 1)))) (sSeq (xIf [] (toB (m2 (D.cmp fGe) (mN dAbs (mCons (m2 D.ix (mVar 1) (mC (.int 0))) (mNil))) (mN dAbs (mCons (m2 D.ix (mVar 1) (m1 D.usub (mC (.int 1)))) (mNil))))) (sRet (mC (.bl false))) (sNil)) (xSet [] 1 (mCall th (mCons (mSl (mLst (mLc [2, 3] (bTup [2, 3]) (mZip2 (mCons (mVar 1) (mCons (m1 D.rev (mVar 1)) (mNil)))) (bTrue) (m2 D.sub (m2 D.mul (m2 D.ix (mVar 1) (m1 D.usub (mC (.int 1)))) (mVar 2)) (m2 D.mul (m2 D.ix (mVar 1) (mC (.int 0))) (mVar 3))))) (oSome (mC (.int 1))) (oNo)) (mNil))))) 1000) (sRet (mC (.bl true))))
def wstep (l : List Int) : List Int := ((l.zip l.reverse).map fun t => l.getLastD 0 * t.1 - l.headD 0 * t.2).drop 1
def wth : Nat → List Int → Bool
  | 0, _ => true
  | n + 1, l => if l.length ≤ 1 then true else if (l.getLastD 0).natAbs ≤ (l.headD 0).natAbs then false else wth n (thin (wstep l))
theorem thin_len (l : List Int) : (thin l).length = l.length := by unfold thin; split <;> simp
theorem fdiv_abs (a : Int) (k : Nat) : (a.fdiv (k : Int)).natAbs ≤ a.natAbs := by
  rw [Int.fdiv_eq_ediv_of_nonneg _ (by omega)]
  exact Int.natAbs_ediv_le_natAbs a k
theorem thin_abs {l : List Int} {n : Nat} (h : ∀ x ∈ l, x.natAbs < n) : ∀ x ∈ thin l, x.natAbs < n := by
  unfold thin
  split
  · intro x hx
    obtain ⟨y, hy, rfl⟩ := List.mem_map.mp hx
    exact Nat.lt_of_le_of_lt (fdiv_abs y _) (h y hy)
  · exact h
theorem wstep_len (l : List Int) : (wstep l).length = l.length - 1 := by simp [wstep]
theorem lastD_mem {l : List Int} (h : l ≠ []) : l.getLastD 0 ∈ l := by
  rw [List.getLastD_eq_getLast?, List.getLast?_eq_some_getLast h, Option.getD_some]; exact List.getLast_mem _
theorem headD_mem {l : List Int} (h : l ≠ []) : l.headD 0 ∈ l := by
  cases l with
  | nil => exact absurd rfl h
  | cons a l => exact List.mem_cons_self
theorem wstep_abs {l : List Int} {b : Nat} (hne : l ≠ []) (h : ∀ x ∈ l, x.natAbs < 2 ^ b) : ∀ x ∈ wstep l, x.natAbs < 2 ^ (2 * b + 1) := by
  intro x hx
  obtain ⟨⟨y, z⟩, hm, rfl⟩ := List.mem_map.mp (List.mem_of_mem_drop hx)
  have h1 := h y (List.of_mem_zip hm).1
  have h2 := h z (List.mem_reverse.mp (List.of_mem_zip hm).2)
  have h3 := h _ (lastD_mem hne)
  have h4 := h _ (headD_mem hne)
  have a1 : (l.getLastD 0 * y).natAbs < 2 ^ b * 2 ^ b := by rw [Int.natAbs_mul]; exact Nat.mul_lt_mul'' h3 h1
  have a2 : (l.headD 0 * z).natAbs < 2 ^ b * 2 ^ b := by rw [Int.natAbs_mul]; exact Nat.mul_lt_mul'' h4 h2
  have e : 2 ^ (2 * b + 1) = 2 * (2 ^ b * 2 ^ b) := by rw [Nat.pow_succ, Nat.mul_comm 2 b, Nat.pow_mul, Nat.pow_two, Nat.mul_comm]
  rw [e]
  show (l.getLastD 0 * y - l.headD 0 * z).natAbs < _
  generalize l.getLastD 0 * y = s at *
  generalize l.headD 0 * z = t at *
  generalize 2 ^ b * 2 ^ b = u at *
  omega
theorem okMul_lg {a b : Int} (h1 : a.natAbs < 2 ^ 1000) (h2 : b.natAbs < 2 ^ 1000) : okMul a b = true := by
  unfold okMul
  have h3 := log2_lt_of (by decide) h1
  have h4 := log2_lt_of (by decide) h2
  rw [show decide (a.natAbs.log2 + b.natAbs.log2 < 1000000) = true from decide_eq_true (by omega)]
  simp
theorem ix_lastD {l : List Int} (h : l ≠ []) : D.ix (.lst (l.map D.int)) (.int (-1)) = some (.int (l.getLastD 0)) := by
  have h0 : 0 < l.length := List.length_pos_iff.mpr h
  refine ixl_last (n := l.length - 1) (by simp; omega) ?_
  rw [List.getElem?_map, List.getLastD_eq_getLast?, List.getLast?_eq_getElem?]
  rw [List.getElem?_eq_getElem (by omega)]
  rfl
theorem ix_headD {l : List Int} (h : l ≠ []) : D.ix (.lst (l.map D.int)) (.int 0) = some (.int (l.headD 0)) := by
  cases l with
  | nil => exact absurd rfl h
  | cons a l => simp
theorem within_ok {l0 : List Int} {b0 : Nat} {A : D} (hA : dList2 [A] = some (l0.map D.int)) (h : ∀ x ∈ l0, x.natAbs < 2 ^ b0) {n0 : Nat} (hl : l0.length ≤ n0 + 1) (hn : n0 < 100) (hb : (b0 + 1) * 2 ^ n0 ≤ 480) : callF 4 1 (withinB (callF 3 1 (thinnedB (callF 2 2 cdB)))) [A] p = .ok (.bl (wth n0 l0)) p := by
  refine eq_of_wp ?_
  have hth : ∀ (l : List Int) p, (∀ x ∈ l, x.natAbs < 2 ^ 480) → l.length ≤ 16777216 → callF 3 1 (thinnedB (callF 2 2 cdB)) [.lst (l.map D.int)] p = .ok (.lst ((thin l).map D.int)) p := fun l p a b => thin_ok a b
  rw [callF_ok (ds := [A]) (np := 1) rfl]
  unfold withinB
  generalize callF 3 1 (thinnedB (callF 2 2 cdB)) = th at hth
  simp [env0, hA]
  obtain ⟨W, hW⟩ : ∃ W, wth n0 l0 = W := ⟨_, rfl⟩
  rw [hW]
  generalize hQ : wpS _ _ = Q
  refine whileL_wp (fun n env p1 => p1 = p ∧ ∃ (l : List Int) (b : Nat), env = [some (.p A), some (.p (.lst (l.map D.int))), none, none] ∧ l.length ≤ n + 1 ∧ n < 100 ∧ (∀ x ∈ l, x.natAbs < 2 ^ b) ∧ (b + 1) * 2 ^ n ≤ 480 ∧ wth n l = W) ?_ n0 _ _ ⟨rfl, l0, b0, rfl, hl, hn, h, hb, hW⟩ 1000 (by omega)
  rintro n env p1 ⟨rfl, l, b, rfl, h1, h2, h3, h4, h5⟩
  simp only [vwOf_p, vwOf_n, vwOf_nil, ev_toB, ev_m2, ev_mN, ev_cons, ev_nil, ev_varS, ev_var0, bind_ok, dLen_lst, ofO_some, ev_c, cmp_int, asB_bl, wp_ok, List.length_map]
  by_cases hc : 1 < l.length
  · obtain ⟨m, rfl⟩ : ∃ m, n = m + 1 := ⟨n - 1, by omega⟩
    have hne : l ≠ [] := by intro e; subst e; simp at hc
    have hg : fGt (l.length : Nat) 1 = true := by show decide _ = true; exact decide_eq_true (by omega)
    rw [if_pos hg]
    refine ⟨m, rfl, ?_⟩
    unfold wth at h5
    rw [if_neg (by omega)] at h5
    have hpw : 2 ^ (m + 1) = 2 * 2 ^ m := by rw [Nat.pow_succ, Nat.mul_comm]
    have hp1 : 1 ≤ 2 ^ m := Nat.one_le_two_pow
    have hb2 : (2 * b + 1 + 1) * 2 ^ m ≤ 480 := by
      rw [hpw] at h4
      have : (b + 1) * (2 * 2 ^ m) = (2 * b + 1 + 1) * 2 ^ m := by rw [← Nat.mul_assoc]; congr 1; omega
      omega
    have hb3 : 2 * b + 1 ≤ 480 := by
      have := Nat.le_mul_of_pos_right (2 * b + 1 + 1) hp1
      omega
    have hbb : ∀ x ∈ l, x.natAbs < 2 ^ 1000 := fun x hx => Nat.lt_of_lt_of_le (h3 x hx) (Nat.pow_le_pow_right (by decide) (by omega))
    have ws := wstep_abs hne h3
    have habs : ∀ x : Int, (if x < 0 then -x else x) = (x.natAbs : Int) := fun x => by split <;> omega
    by_cases hge : (l.getLastD 0).natAbs ≤ (l.headD 0).natAbs
    · rw [if_pos hge] at h5
      have e1 : ((l.getLastD 0).natAbs : Int) ≤ ((l.headD 0).natAbs : Int) := by omega
      subst hQ
      simp only [ev_seq, ev_xIf, frzE_nil, onEnv_some, vwOf_p, vwOf_n, vwOf_nil, ev_toB, ev_m2, ev_mN, ev_cons, ev_nil, ev_varS, ev_var0, bind_ok, ix_headD hne, ix_lastD hne, ev_m1, usub_int, ofO_some, ev_c, dAbs_int, habs, cmp_int, asB_bl]
      rw [if_pos (show fGe _ _ = true from decide_eq_true e1)]
      simp only [ev_sRet, ev_c, bind_ok, bindS_ret, wp_ok, wpL_ret, wpS_ret, wpF_ret, h5, and_self]
    · rw [if_neg hge] at h5
      have e1 : ¬ ((l.getLastD 0).natAbs : Int) ≤ ((l.headD 0).natAbs : Int) := by omega
      simp only [ev_seq, ev_xIf, frzE_nil, onEnv_some, vwOf_p, vwOf_n, vwOf_nil, ev_toB, ev_m2, ev_mN, ev_cons, ev_nil, ev_varS, ev_var0, bind_ok, ix_headD hne, ix_lastD hne, ev_m1, usub_int, ofO_some, ev_c, dAbs_int, habs, cmp_int, asB_bl]
      rw [if_neg (show ¬ fGe _ _ = true from by show ¬ decide _ = true; simpa using e1)]
      have hz : ∀ p, zip2On [.lst (l.map D.int), .lst (l.map D.int).reverse] p = .ok ((l.zip l.reverse).map fun t => .tup [.int t.1, .int t.2]) p := fun p => by
        rw [← List.map_reverse]
        exact zipii (a := l) (b := l.reverse) rfl rfl (by omega)
      simp only [ev_sNil, bindS_nx, ev_xSet, onX_nil, vwOf_p, vwOf_n, vwOf_nil, ev_call, ev_cons, ev_nil, ev_sl, ev_lst, ev_lc, ev_zip2, ev_varS, ev_var0, bind_ok, ev_m1, rev_lst, ofO_some, hz, ev_oNo, ev_oSome, ev_c, slOnO_int, bind_bind, ev_lcGo, lcM_mapL]
      rw [lcM_congr (g' := fun t p => .ok (some (.int (l.getLastD 0 * t.1 - l.headD 0 * t.2))) p), lcM_pure]
      · have hw : List.drop 1 ((l.zip l.reverse).map fun t => D.int (l.getLastD 0 * t.1 - l.headD 0 * t.2)) = (wstep l).map D.int := by
          unfold wstep
          rw [List.map_drop, List.map_map]
          rfl
        simp only [bind_ok, slice_lst, ofO_some, cutL_1, hw]
        rw [hth (wstep l) _ (fun x hx => Nat.lt_of_lt_of_le (ws x hx) (Nat.pow_le_pow_right (by decide) hb3)) (by rw [wstep_len]; omega)]
        simp only [bind_ok, setE_S, setE_0, wp_ok, wpL_nx, true_and]
        exact ⟨_, 2 * b + 1, rfl, by rw [thin_len, wstep_len]; omega, by omega, thin_abs ws, hb2, h5⟩
      · rintro ⟨x, y⟩ ht p
        have hx := hbb x (List.of_mem_zip ht).1
        have hy := hbb y (List.mem_reverse.mp (List.of_mem_zip ht).2)
        have m1 := mul_int (okMul_lg (hbb _ (lastD_mem hne)) hx)
        have m2 := mul_int (okMul_lg (hbb _ (headD_mem hne)) hy)
        have i1 := ix_headD hne
        have i2 := ix_lastD hne
        clear hz hQ h5 h3 ws hbb hge e1 ht hg
        generalize l.getLastD 0 = la at *
        generalize l.headD 0 = hd at *
        simp [i1, i2, m1, m2]
  · have hg : ¬ fGt (l.length : Nat) 1 = true := by show ¬ decide _ = true; simp; omega
    rw [if_neg hg]
    have : W = true := by
      rw [← h5]
      cases n with
      | zero => rfl
      | succ n => unfold wth; rw [if_pos (by omega)]
    subst hQ
    simp only [wpS_nx, ev_sRet, ev_c, bind_ok, wp_ok, wpF_ret, this, and_self]
end
end VL

namespace VL
open PySem PySem.Spec PyProof.Rows L2 LamX
/-! ### the row that a grid keeps -/
def ent (B : List (List Int)) (i j : Nat) : Int := gi (gw B i) j
def trM (m : Nat) (B : List (List Int)) : Int := ((List.range m).map fun i => ent B i i).sum
def addM (m : Nat) (B : List (List Int)) (c : Int) : List (List Int) := (List.range m).map fun i => (List.range m).map fun j => ent B i j + c * (if i = j then 1 else 0)
def lrH (m : Nat) (R : List (List Int)) : Nat → List (List Int)
  | 0 => unitM m
  | k + 1 => addM m (mulM m R (lrH m R k)) ((-(trM m (mulM m R (lrH m R k)))).fdiv (k + 1 : Nat))
def lrN (m : Nat) (R : List (List Int)) (k : Nat) : Int := (-(trM m (mulM m R (lrH m R k)))).fdiv (k + 1 : Nat)
def charL (m : Nat) (R : List (List Int)) : List Int := (1 :: (List.range m).map (lrN m R)).reverse
theorem addM_sq (m : Nat) (B : List (List Int)) (c : Int) : Sq m (addM m B c) := ⟨by simp [addM], fun r hr => by
  obtain ⟨x, _, rfl⟩ := List.mem_map.mp hr
  simp⟩
theorem lrH_sq (m : Nat) (R : List (List Int)) : ∀ k, Sq m (lrH m R k)
  | 0 => unitM_sq m
  | k + 1 => addM_sq _ _ _
theorem Sq.row {m : Nat} {B : List (List Int)} (h : Sq m B) {i : Nat} (hi : i < m) : (gw B i).length = m := by
  refine h.r _ ?_
  unfold gw
  rw [List.getD_eq_getElem?_getD, List.getElem?_eq_getElem (by rw [h.n]; exact hi)]
  exact List.getElem_mem _
theorem ix_ent {m : Nat} {B : List (List Int)} (h : Sq m B) {i j : Nat} (hi : i < m) (hj : j < m) : D.ix (mD B) (.int (i : Int)) = some (rD (gw B i)) ∧ D.ix (rD (gw B i)) (.int (j : Int)) = some (.int (ent B i j)) :=
  ⟨ix_grid (by rw [h.n]; exact hi), ix_row (by rw [h.row hi]; exact hj)⟩
def lastB (un tm : List D → P3 → Res D) : MS := sSeq (xSet [] 1 (mN dLen (mCons (mVar 0) (mNil)))) (sSeq (sPar [2, 3] [.inr (lenOk (mCons (mC (.int 1)) (mNil))), .inl ([], mCall un (mCons (mVar 1) (mNil)))]) (sSeq (sFor (eName 4) (mRange2 (mCons (mC (.int 1)) (mCons (m2 D.add (mVar 1) (mC (.int 1))) (mNil)))) (sSeq (xSet [] 5 (mCall tm (mCons (mVar 0) (mCons (mVar 3) (mNil))))) (sSeq (xSet [] 6 (m2 D.fdiv (m1 D.usub (mN dSum (mCons (mLst (mLc [8] (bName 8) (mRange1 (mCons (mVar 1) (mNil))) (bTrue) (m2 D.ix (m2 D.ix (mVar 5) (mVar 8)) (mVar 8)))) (mNil)))) (mVar 4))) (sSeq (xApp [] 2 (mVar 6)) (xSet [] 3 (mN dTuple2 (mCons (mLst (mLc [7] (bName 7) (mRange1 (mCons (mVar 1) (mNil))) (bTrue) (mN dTuple2 (mCons (mLst (mLc [8] (bName 8) (mRange1 (mCons (mVar 1) (mNil))) (bTrue) (m2 D.add (m2 D.ix (m2 D.ix (mVar 5) (mVar 7)) (mVar 8)) (m2 D.mul (mVar 6) (mN dInt (mCons (m2 D.eq (mVar 7) (mVar 8)) (mNil))))))) (mNil))))) (mNil)))))))) (sFreeze 2 (sRet (mN dTuple2 (mCons (m1 D.rev (mVar 2)) (mNil)))))))
section
variable {p : P3}
theorem last_ok {m : Nat} {R : List (List Int)} (hm0 : 0 < m) (hm : m ≤ 100) (hR : Sq m R) (hs : ∀ r ∈ R, ∀ x ∈ r, Sm x) :
    callF 9 1 (lastB (callF 3 1 unitB) (callF 6 2 (timesB (callF 4 2 dotB)))) [mD R] p = .ok (rD (charL m R)) p := by
  obtain ⟨N, hN⟩ : ∃ N : Int, N = m := ⟨_, rfl⟩
  refine eq_of_wp ?_
  have ht : ∀ (k : Nat) p, callF 6 2 (timesB (callF 4 2 dotB)) [mD R, mD (lrH m R k)] p = .ok (mD (mulM m R (lrH m R k))) p := fun k p => times_ok hm (lrH_sq m R k) hm0 fun r hr => ⟨by rw [hR.r r hr]; omega, hs r hr⟩
  have hu : ∀ p, callF 3 1 unitB [.int N] p = .ok (mD (unitM m)) p := fun p => unit_ok hN hm
  rw [callF_ok (ds := [mD R]) (np := 1) rfl]
  unfold lastB
  generalize callF 6 2 (timesB (callF 4 2 dotB)) = tm at ht
  generalize callF 3 1 unitB = un at hu
  have hl : dLen [mD R] = some (.int N) := by rw [hN, ← hR.n]; simp [mD]
  have hr : rgOk 0 N = true := by rw [hN]; exact rg_n (by omega)
  have hr1 : rgOk 1 (N + 1) = true := rgOk_i (by decide) (by omega) (by omega) (by omega)
  have hir : ir 0 N = (List.range m).map fun (i : Nat) => (i : Int) := by rw [hN]; exact ir_nat m
  have hir1 : ir 1 (N + 1) = ir ((1 : Nat) : Int) ((m + 1 : Nat) : Int) := by congr 1; omega
  simp [env0, hl, hu, hr1]
  rw [hir1]
  refine forL_rngA (fun k env => 1 ≤ k ∧ ∃ o4 o5 o6, env = [some (.p (mD R)), some (.p (.int N)), some (.l ((1 :: (List.range (k - 1)).map (lrN m R)).map D.int)), some (.p (mD (lrH m R (k - 1)))), o4, o5, o6, none, none]) (m + 1) ?_ ?_ m 1 _ (by omega) ⟨Nat.le_refl _, _, _, _, rfl⟩
  · rintro e ⟨_, o4, o5, o6, rfl⟩
    simp [rD, charL]
  · rintro k K env hK hk ⟨k0, o4, o5, o6, rfl⟩
    refine ⟨_, rfl, ?_⟩
    obtain ⟨j, rfl⟩ : ∃ j, k = j + 1 := ⟨k - 1, by omega⟩
    have hd : okDiv K = true := okDiv_i (by omega) (by omega)
    simp only [Nat.add_sub_cancel]
    have sq := mulM_sq (m := m) (A := R) (B := lrH m R j) hR.n
    have htr : ∀ p, lcM (fun (i : Nat) p => (strict (ofO ((mD (mulM m R (lrH m R j))).ix (.int (i : Nat))) p)).bind fun a p => (strict (ofO (a.ix (.int (i : Nat))) p)).bind fun y p2 => .ok (some y) p2) (List.range m) p = .ok ((List.range m).map fun i => .int (ent (mulM m R (lrH m R j)) i i)) p := fun p => by
      rw [← lcM_pure]
      refine lcM_congr fun i hi p => ?_
      obtain ⟨e1, e2⟩ := ix_ent sq (List.mem_range.mp hi) (List.mem_range.mp hi)
      rw [e1]
      simp [e2]
    simp [ht, hr, hir]
    rw [htr]
    have hsum : dSum [.lst ((List.range m).map fun i => .int (ent (mulM m R (lrH m R j)) i i))] = some (.int (trM m (mulM m R (lrH m R j)))) := dSum_map _ _
    have hK' : (-(trM m (mulM m R (lrH m R j)))).fdiv K = lrN m R j := by rw [hK]; rfl
    have happ : ∀ d, fApp (D.int 1 :: List.map (D.int ∘ lrN m R) (List.range j)) d = some ((D.int 1 :: List.map (D.int ∘ lrN m R) (List.range j)) ++ [d]) := fun d => fApp_ok (by
      have : sizeLine = 2 ^ 24 := rfl
      simp only [List.length_cons, List.length_map, List.length_range]
      omega)
    have hm01 : ∀ (c : Int) (P : Prop) [Decidable P], D.mul (.int c) (.int (if P then 1 else 0)) = some (.int (c * if P then 1 else 0)) := fun c P _ => mul_int (okMul_r (by split <;> decide) (by split <;> decide))
    simp only [wp_ok, hsum, ofO_some, usub_int, fdiv_int hd, hK', happ, stOn_some, setE_S, setE_0, wpS_nx]
    simp [hr, hir, hm01]
    rw [lcM_congr (g' := fun i p => .ok (some (rD ((List.range m).map fun l => ent (mulM m R (lrH m R j)) i l + lrN m R j * if i = l then 1 else 0))) p), lcM_pure]
    · simp [mD, List.range_succ]
      show _ = List.map rD (addM m (mulM m R (lrH m R j)) (lrN m R j))
      simp [addM]
    · intro i hi p
      rw [lcM_congr (g' := fun l p => .ok (some (.int (ent (mulM m R (lrH m R j)) i l + lrN m R j * if i = l then 1 else 0))) p), lcM_pure]
      · simp [rD, Function.comp_def]
      · intro l hl p
        obtain ⟨e1, e2⟩ := ix_ent sq (List.mem_range.mp hi) (List.mem_range.mp hl)
        rw [e1]
        by_cases h : i = l
        · subst h
          simp [e2]
        · have : ¬ (i : Int) = l := by omega
          simp [e2, h, this]
end
end VL

namespace VL
open PySem PySem.Spec PyProof.Rows L2 LamX
/-! ### answers to a push, the worst weather -/
def itM (R : List (List Int)) (x : List Int) : Nat → List Int
  | 0 => x
  | k + 1 => R.map fun r => dotI r (itM R x k)
def ansL (R : List (List Int)) (x a : List Int) (n : Nat) : List Int := (List.range n).map fun k => dotI a (itM R x k)
def hor (q : Int) (l : List Int) : Int := l.foldl (fun t x => t * q + x) 0
theorem hor_snoc (q : Int) (l : List Int) (x : Int) : hor q (l ++ [x]) = hor q l * q + x := by simp [hor]
theorem hor_at (q : Int) : ∀ (l : List Int) (c : Int), l.foldl (fun t x => t * q + x) c = c * q ^ l.length + hor q l
  | [], c => by simp [hor]
  | x :: l, c => by
    have h1 := hor_at q l (c * q + x)
    have h2 := hor_at q l (0 * q + x)
    have e : hor q (x :: l) = l.foldl (fun t x => t * q + x) (0 * q + x) := rfl
    rw [List.foldl_cons, h1, e, h2, List.length_cons, Int.pow_succ]
    grind
theorem hor_cons (q : Int) (x : Int) (l : List Int) : hor q (x :: l) = x * q ^ l.length + hor q l := by
  have e : hor q (x :: l) = l.foldl (fun t x => t * q + x) (0 * q + x) := rfl
  rw [e, hor_at]
  simp
theorem hor_rev (q : Int) (l : List Int) : l.reverse.foldl (fun (s : Int × Int) x => (s.1 + x * s.2, s.2 * q)) (0, 1) = (hor q l, q ^ l.length) := by
  induction l with
  | nil => simp [hor]
  | cons x l ih =>
    rw [List.reverse_cons, List.foldl_append, ih, hor_cons]
    simp only [List.foldl_cons, List.foldl_nil, List.length_cons, Int.pow_succ]
    rw [Int.add_comm]
theorem hor_mul (q c : Int) (l : List Int) : hor q (l.map fun x => x * c) = hor q l * c := by
  induction l with
  | nil => simp [hor]
  | cons x l ih =>
    rw [List.map_cons, hor_cons, ih, hor_cons, List.length_map]
    grind
theorem zip_map_self {α β : Type} (f : α → β) : ∀ l : List α, l.zip (l.map f) = l.map fun x => (x, f x)
  | [] => rfl
  | x :: l => by rw [List.map_cons, List.zip_cons_cons, zip_map_self f l, List.map_cons]
def answersB (dot ap : List D → P3 → Res D) : MS := sSeq (sPar [4, 5] [.inr (lenOk (mNil)), .inl ([], mVar 1)]) (sSeq (sFor (eName 6) (mRange1 (mCons (mVar 3) (mNil))) (sSeq (xApp [] 4 (mCall dot (mCons (mVar 2) (mCons (mVar 5) (mNil))))) (xSet [] 5 (mCall ap (mCons (m2 D.ix (mVar 0) (mC (.int 0))) (mCons (mVar 5) (mNil))))))) (sFreeze 4 (sRet (mVar 4))))
section
variable {p : P3}
theorem answers_ok {R : List (List Int)} {x a : List Int} {q N : Int} {n : Nat} (hN : N = n) (hn : n ≤ 1000) (hR : ∀ r ∈ R, r.length ≤ 1000 ∧ ∀ x ∈ r, Sm x) (ha : a.length ≤ 1000 ∧ ∀ x ∈ a, Sm x) :
    callF 7 4 (answersB (callF 4 2 dotB) (callF 3 2 (appliedB (callF 4 2 dotB)))) [.tup [mD R, .int q], rD x, rD a, .int N] p = .ok (.lst ((ansL R x a n).map D.int)) p := by
  refine eq_of_wp ?_
  have h1 : ∀ (y : List Int) p, callF 4 2 dotB [rD a, rD y] p = .ok (.int (dotI a y)) p := fun y p => dot_ok rfl rfl ha.1 ha.2
  have h2 : ∀ (y : List Int) p, callF 3 2 (appliedB (callF 4 2 dotB)) [mD R, rD y] p = .ok (rD (R.map fun r => dotI r y)) p := fun y p => applied_ok rfl hR
  rw [callF_ok (ds := [D.tup [mD R, .int q], rD x, rD a, D.int N]) (np := 4) rfl]
  unfold answersB
  generalize callF 3 2 (appliedB (callF 4 2 dotB)) = ap at h2
  generalize callF 4 2 dotB = dt at h1
  have hr : rgOk 0 N = true := by rw [hN]; exact rg_n (by omega)
  simp [env0, hr]
  refine forL_rng (fun k env => ∃ o, env = [some (.p (.tup [mD R, .int q])), some (.p (rD x)), some (.p (rD a)), some (.p (.int N)), some (.l ((ansL R x a k).map D.int)), some (.p (rD (itM R x k))), o]) n hN _ ⟨_, rfl⟩ ?_ ?_
  · rintro e ⟨o, rfl⟩
    simp
  · rintro k K env hK hk ⟨o, rfl⟩
    refine ⟨_, rfl, ?_⟩
    have happ : ∀ d, fApp ((ansL R x a k).map D.int) d = some ((ansL R x a k).map D.int ++ [d]) := fun d => fApp_ok (by rw [List.length_map]; have : sizeLine = 2 ^ 24 := rfl; simp [ansL]; omega)
    simp [h1, h2, happ]
    have e1 : (ansL R x a k).map D.int ++ [.int (dotI a (itM R x k))] = (ansL R x a (k + 1)).map D.int := by simp [ansL, List.range_succ]
    rw [e1]
    exact ⟨rfl, rfl⟩
def sumofB (frc pw : List D → P3 → Res D) : MS := sSeq (sPar [2, 3] [.inl ([], mC (.int 0)), .inl ([], mC (.int 1))]) (sSeq (sFor (eName 4) (mIter (m1 D.rev (mVar 1))) (sPar [2, 3] [.inl ([], m2 D.add (mVar 2) (m2 D.mul (mVar 4) (mVar 3))), .inl ([], m2 D.mul (mVar 3) (m2 D.ix (mVar 0) (mC (.int 1))))])) (sRet (mCall frc (mCons (mVar 2) (mCons (mCall pw (mCons (m2 D.ix (mVar 0) (mC (.int 1))) (mCons (mN dMax2 (mCons (mC (.int 0)) (mCons (m2 D.sub (mN dLen (mCons (mVar 1) (mNil))) (mC (.int 1))) (mNil)))) (mNil)))) (mNil))))))
theorem sumof_ok {q : Int} {g : D} {l : List Int} (hq : Sm q) (hq0 : 0 < q) (hl : ∀ x ∈ l, Sm x) (hn : l.length ≤ 1000) (h1 : (hor q l).natAbs < 2 ^ 240) (h2 : (q ^ (l.length - 1)).natAbs < 2 ^ 240) :
    callF 5 2 (sumofB (callF 3 2 (frB (callF 2 2 cdB))) (callF 4 2 powerB)) [.tup [g, .int q], .lst (l.map D.int)] p = .ok (frD (hor q l) (q ^ (l.length - 1))) p := by
  refine eq_of_wp ?_
  obtain ⟨N, hN⟩ : ∃ N : Int, N = l.length := ⟨_, rfl⟩
  obtain ⟨M, hM⟩ : ∃ M : Int, M = (l.length - 1 : Nat) := ⟨_, rfl⟩
  have e1 : ∀ p, callF 3 2 (frB (callF 2 2 cdB)) [.int (hor q l), .int (q ^ (l.length - 1))] p = .ok (frD (hor q l) (q ^ (l.length - 1))) p := fun p => fr_ok (Int.pow_pos hq0) h1 h2
  have e2 : ∀ p, callF 4 2 powerB [.int q, .int M] p = .ok (.int (q ^ (l.length - 1))) p := fun p => power_ok hM (by omega) hq
  rw [callF_ok (ds := [D.tup [g, .int q], D.lst (l.map D.int)]) (np := 2) rfl]
  unfold sumofB
  generalize callF 3 2 (frB (callF 2 2 cdB)) = frc at e1
  generalize callF 4 2 powerB = pw at e2
  simp [env0]
  rw [← List.map_reverse]
  refine forL_fold D.int (fun (s : Int × Int) env => ∃ o, env = [some (.p (.tup [g, .int q])), some (.p (.lst (l.map D.int))), some (.p (.int s.1)), some (.p (.int s.2)), o]) (fun (s : Int × Int) x => (s.1 + x * s.2, s.2 * q)) l.reverse (0, 1) _ ?_ ⟨_, rfl⟩ ?_
  · rintro x hx ⟨t, u⟩ env ⟨o, rfl⟩
    refine ⟨_, rfl, ?_⟩
    have := hl x (List.mem_reverse.mp hx)
    simp [this.mul, hq.mul']
  · rintro e ⟨o, rfl⟩
    rw [hor_rev]
    have hl1 : dLen [D.lst (l.map D.int)] = some (.int N) := by rw [hN]; simp
    have hmx : (if 1 < N then N - 1 else 0) = M := by split <;> omega
    simp [hl1, -dLen_lst, hmx, e2, e1]
def wsL (w0 w1 : Int) (l : List Int) : List Int := l.map fun x => if x > 0 then w1 else if x < 0 then w0 else 0
def worstB (an so : List D → P3 → Res D) : MS := sSeq (xSet [] 5 (mCall an (mCons (mVar 0) (mCons (mVar 1) (mCons (mVar 2) (mCons (mVar 4) (mNil))))))) (sSeq (sNew 6 (mLc [7] (bName 7) (mIter (mVar 5)) (bTrue) (mIf (toB (m2 (D.cmp fGt) (mVar 7) (mC (.int 0)))) (m2 D.ix (mVar 3) (mC (.int 1))) (mIf (toB (m2 (D.cmp fLt) (mVar 7) (mC (.int 0)))) (m2 D.ix (mVar 3) (mC (.int 0))) (mC (.int 0)))))) (sFreeze 6 (sRet (mTup (mCons (mCall so (mCons (mVar 0) (mCons (mLst (mLc [7, 8] (bTup [7, 8]) (mZip2 (mCons (mVar 5) (mCons (mVar 6) (mNil)))) (bTrue) (m2 D.mul (mVar 7) (mVar 8)))) (mNil)))) (mCons (mN dTuple2 (mCons (m1 D.rev (mVar 6)) (mNil))) (mNil)))))))
def wmul (w0 w1 x : Int) : Int := x * (if x > 0 then w1 else if x < 0 then w0 else 0)
theorem worst_ok {an so : List D → P3 → Res D} {G X A N : D} {l : List Int} {w0 w1 : Int} {d : D} (ean : ∀ p, an [G, X, A, N] p = .ok (.lst (l.map D.int)) p) (hl : ∀ x ∈ l, Sm x) (hn : l.length ≤ 1000) (eso : ∀ p, so [G, .lst ((l.map (wmul w0 w1)).map D.int)] p = .ok d p) :
    callF 9 5 (worstB an so) [G, X, A, .tup [.int w0, .int w1], N] p = .ok (.tup [d, rD (wsL w0 w1 l).reverse]) p := by
  rw [callF_ok (ds := [G, X, A, D.tup [.int w0, .int w1], N]) (np := 5) rfl]
  unfold worstB
  simp [env0, ean]
  have e1 : ∀ (g : Int → P3 → Res (Option D)) p, (∀ x ∈ l, ∀ p, g x p = .ok (some (.int (if x > 0 then w1 else if x < 0 then w0 else 0))) p) → lcM g l p = .ok ((wsL w0 w1 l).map D.int) p := fun g p h => by
    rw [lcM_congr h, lcM_pure]
    simp [wsL]
  rw [e1]
  · have z : ∀ p, zip2On [.lst (l.map D.int), .lst ((wsL w0 w1 l).map D.int)] p = .ok ((l.zip (wsL w0 w1 l)).map fun t => .tup [.int t.1, .int t.2]) p := fun p => zipii rfl rfl (by omega)
    have e2 : l.zip (wsL w0 w1 l) = l.map fun x => (x, if x > 0 then w1 else if x < 0 then w0 else 0) := zip_map_self _ l
    rw [e2] at z
    simp [z]
    rw [lcM_congr (g' := fun x p => .ok (some (.int (wmul w0 w1 x))) p), lcM_pure]
    · have := eso p
      rw [List.map_map] at this
      simp only [Function.comp_def] at this
      simp [this, rD]
    · intro x hx p
      simp [(hl x hx).mul, wmul]
  · intro x hx p
    by_cases h1 : x > 0
    · simp [h1]
    · by_cases h2 : x < 0
      · simp [h1, h2]
      · simp [h1, h2]
end
end VL

namespace VL
open PySem PySem.Spec PyProof.Rows L2 LamX
def fuel : Nat := 1000
def exs : List Str := ["LeverError", "BadVat", "BadRule", "BadGrid", "BadBeats", "BadWeights"]
def sub_BadWeights (x : Str) : Bool := (["BadWeights"] : List Str).contains x
def sub_BadVat (x : Str) : Bool := (["BadVat"] : List Str).contains x
def sub_BadBeats (x : Str) : Bool := (["BadBeats"] : List Str).contains x
def B_is_tuple : MS := sRet (mAnd (mIsi "tuple" (mVar 0)) (mChain (D.cmp fLe) (D.cmp fLe) (mVar 1) (mN dLen (mCons (mVar 0) (mNil))) (mVar 2)))
def M_is_tuple : List D → P3 → Res D := callF 3 3 B_is_tuple
def B_is_whole : MS := sRet (mAnd (mIsi "int" (mVar 0)) (mNot (mIsi "bool" (mVar 0))))
def M_is_whole : List D → P3 → Res D := callF 1 1 B_is_whole
def B_is_integer : MS := sRet (mAnd (mCall (M_is_whole) (mCons (mVar 0) (mNil))) (mChain (D.cmp fLe) (D.cmp fLe) (mVar 1) (mVar 0) (mVar 2)))
def M_is_integer : List D → P3 → Res D := callF 3 3 B_is_integer
def B_common : MS := sSeq (whileL (toB (m2 D.ne (mVar 1) (mC (.int 0)))) (sPar [0, 1] [.inl ([], mVar 1), .inl ([], m2 D.fmod (mVar 0) (mVar 1))]) fuel) (sRet (mVar 0))
def M_common : List D → P3 → Res D := callF 2 2 B_common
def B_fraction : MS := sSeq (xIf [] (toB (m2 (D.cmp fLt) (mVar 1) (mC (.int 0)))) (sPar [0, 1] [.inl ([], m1 D.usub (mVar 0)), .inl ([], m1 D.usub (mVar 1))]) (sNil)) (sSeq (xSet [] 2 (mCall (M_common) (mCons (mN dAbs (mCons (mVar 0) (mNil))) (mCons (mVar 1) (mNil))))) (sRet (mTup (mCons (m2 D.fdiv (mVar 0) (mVar 2)) (mCons (m2 D.fdiv (mVar 1) (mVar 2)) (mNil))))))
def M_fraction : List D → P3 → Res D := callF 3 2 B_fraction
def B_is_row : MS := sRet (mAnd (mCall (M_is_tuple) (mCons (mVar 0) (mCons (mVar 1) (mCons (mVar 1) (mNil))))) (mN dAll (mCons (mLst (mLc [2] (bName 2) (mIter (mVar 0)) (bTrue) (mCall (M_is_integer) (mCons (mVar 2) (mCons (m1 D.usub (mC (.int 100000))) (mCons (mC (.int 100000)) (mNil))))))) (mNil))))
def M_is_row : List D → P3 → Res D := callF 3 2 B_is_row
def B_is_grid : MS := sSeq (xIf [] (bOr (bNot (toB (mCall (M_is_tuple) (mCons (mVar 0) (mCons (mC (.int 2)) (mCons (mC (.int 2)) (mNil))))))) (bNot (toB (mCall (M_is_integer) (mCons (m2 D.ix (mVar 0) (mC (.int 1))) (mCons (mC (.int 1)) (mCons (mC (.int 10000)) (mNil)))))))) (sRet (mC (.bl false))) (sNil)) (sSeq (xIf [] (bNot (toB (mCall (M_is_tuple) (mCons (m2 D.ix (mVar 0) (mC (.int 0))) (mCons (mC (.int 1)) (mCons (mC (.int 4)) (mNil))))))) (sRet (mC (.bl false))) (sNil)) (sRet (mN dAll (mCons (mLst (mLc [1] (bName 1) (mIter (m2 D.ix (mVar 0) (mC (.int 0)))) (bTrue) (mCall (M_is_row) (mCons (mVar 1) (mCons (mN dLen (mCons (m2 D.ix (mVar 0) (mC (.int 0))) (mNil))) (mNil)))))) (mNil)))))
def M_is_grid : List D → P3 → Res D := callF 2 1 B_is_grid
def B_check_grid : MS := xIf [] (bNot (toB (mCall (M_is_grid) (mCons (mVar 0) (mNil))))) (xRaise [] "BadGrid" (mVar 0)) (sNil)
def M_check_grid : List D → P3 → Res D := callF 1 1 B_check_grid
def B_unit : MS := sRet (mN dTuple2 (mCons (mLst (mLc [1] (bName 1) (mRange1 (mCons (mVar 0) (mNil))) (bTrue) (mN dTuple2 (mCons (mLst (mLc [2] (bName 2) (mRange1 (mCons (mVar 0) (mNil))) (bTrue) (mN dInt (mCons (m2 D.eq (mVar 1) (mVar 2)) (mNil))))) (mNil))))) (mNil)))
def M_unit : List D → P3 → Res D := callF 3 1 B_unit
def B_dot : MS := sRet (mN dSum (mCons (mLst (mLc [2, 3] (bTup [2, 3]) (mZip2 (mCons (mVar 0) (mCons (mVar 1) (mNil)))) (bTrue) (m2 D.mul (mVar 2) (mVar 3)))) (mNil)))
def M_dot : List D → P3 → Res D := callF 4 2 B_dot
def B_times : MS := sSeq (xSet [] 2 (mLst (mLc [3] (bName 3) (mRange1 (mCons (mN dLen (mCons (m2 D.ix (mVar 1) (mC (.int 0))) (mNil))) (mNil))) (bTrue) (mLst (mLc [4] (bName 4) (mIter (mVar 1)) (bTrue) (m2 D.ix (mVar 4) (mVar 3))))))) (sRet (mN dTuple2 (mCons (mLst (mLc [4] (bName 4) (mIter (mVar 0)) (bTrue) (mN dTuple2 (mCons (mLst (mLc [5] (bName 5) (mIter (mVar 2)) (bTrue) (mCall (M_dot) (mCons (mVar 4) (mCons (mVar 5) (mNil)))))) (mNil))))) (mNil))))
def M_times : List D → P3 → Res D := callF 6 2 B_times
def B_applied : MS := sRet (mN dTuple2 (mCons (mLst (mLc [2] (bName 2) (mIter (mVar 0)) (bTrue) (mCall (M_dot) (mCons (mVar 2) (mCons (mVar 1) (mNil)))))) (mNil)))
def M_applied : List D → P3 → Res D := callF 3 2 B_applied
def B_power : MS := sSeq (xSet [] 2 (mC (.int 1))) (sSeq (sFor (eName 3) (mRange1 (mCons (mVar 1) (mNil))) (xSet [] 2 (m2 D.mul (mVar 2) (mVar 0)))) (sRet (mVar 2)))
def M_power : List D → P3 → Res D := callF 4 2 B_power
def B_thinned : MS := sSeq (xSet [] 1 (mC (.int 0))) (sSeq (sFor (eName 2) (mIter (mVar 0)) (xSet [] 1 (mCall (M_common) (mCons (mVar 1) (mCons (mN dAbs (mCons (mVar 2) (mNil))) (mNil)))))) (sRet (mIf (toB (m2 (D.cmp fGt) (mVar 1) (mC (.int 1)))) (mLst (mLc [2] (bName 2) (mIter (mVar 0)) (bTrue) (m2 D.fdiv (mVar 2) (mVar 1)))) (mLst (mNL dList2 (mCons (mVar 0) (mNil)))))))
def M_thinned : List D → P3 → Res D := callF 3 1 B_thinned
def B_last_row : MS := sSeq (xSet [] 1 (mN dLen (mCons (mVar 0) (mNil)))) (sSeq (sPar [2, 3] [.inr (lenOk (mCons (mC (.int 1)) (mNil))), .inl ([], mCall (M_unit) (mCons (mVar 1) (mNil)))]) (sSeq (sFor (eName 4) (mRange2 (mCons (mC (.int 1)) (mCons (m2 D.add (mVar 1) (mC (.int 1))) (mNil)))) (sSeq (xSet [] 5 (mCall (M_times) (mCons (mVar 0) (mCons (mVar 3) (mNil))))) (sSeq (xSet [] 6 (m2 D.fdiv (m1 D.usub (mN dSum (mCons (mLst (mLc [8] (bName 8) (mRange1 (mCons (mVar 1) (mNil))) (bTrue) (m2 D.ix (m2 D.ix (mVar 5) (mVar 8)) (mVar 8)))) (mNil)))) (mVar 4))) (sSeq (xApp [] 2 (mVar 6)) (xSet [] 3 (mN dTuple2 (mCons (mLst (mLc [7] (bName 7) (mRange1 (mCons (mVar 1) (mNil))) (bTrue) (mN dTuple2 (mCons (mLst (mLc [8] (bName 8) (mRange1 (mCons (mVar 1) (mNil))) (bTrue) (m2 D.add (m2 D.ix (m2 D.ix (mVar 5) (mVar 7)) (mVar 8)) (m2 D.mul (mVar 6) (mN dInt (mCons (m2 D.eq (mVar 7) (mVar 8)) (mNil))))))) (mNil))))) (mNil)))))))) (sFreeze 2 (sRet (mN dTuple2 (mCons (m1 D.rev (mVar 2)) (mNil)))))))
def M_last_row : List D → P3 → Res D := callF 9 1 B_last_row
def B_is_between : MS := sSeq (xIf [] (bOr (bNot (toB (mCall (M_is_tuple) (mCons (mVar 0) (mCons (mC (.int 2)) (mCons (mC (.int 2)) (mNil))))))) (bNot (toB (mCall (M_is_integer) (mCons (m2 D.ix (mVar 0) (mC (.int 0))) (mCons (m1 D.usub (mVar 1)) (mCons (mVar 1) (mNil)))))))) (sRet (mC (.bl false))) (sNil)) (sRet (mCall (M_is_integer) (mCons (m2 D.ix (mVar 0) (mC (.int 1))) (mCons (m2 D.ix (mVar 0) (mC (.int 0))) (mCons (mVar 1) (mNil))))))
def M_is_between : List D → P3 → Res D := callF 2 2 B_is_between
def B_is_vat : MS := sSeq (xIf [] (bOr (bNot (toB (mCall (M_is_tuple) (mCons (mVar 0) (mCons (mC (.int 5)) (mCons (mC (.int 5)) (mNil))))))) (bNot (toB (mCall (M_is_integer) (mCons (m2 D.ix (mVar 0) (mC (.int 0))) (mCons (mC (.int 0)) (mCons (mC (.int 20)) (mNil)))))))) (sRet (mC (.bl false))) (sNil)) (sSeq (xIf [] (bOr (bNot (toB (mCall (M_is_integer) (mCons (m2 D.ix (mVar 0) (mC (.int 1))) (mCons (mC (.int 1)) (mCons (mC (.int 20)) (mNil))))))) (bNot (toB (mCall (M_is_integer) (mCons (m2 D.ix (mVar 0) (mC (.int 2))) (mCons (m1 D.usub (mC (.int 20))) (mCons (mC (.int 20)) (mNil)))))))) (sRet (mC (.bl false))) (sNil)) (sRet (mAnd (mCall (M_is_between) (mCons (m2 D.ix (mVar 0) (mC (.int 3))) (mCons (mC (.int 200)) (mNil)))) (mCall (M_is_between) (mCons (m2 D.ix (mVar 0) (m2 D.add (mC (.int 3)) (mC (.int 1)))) (mCons (mC (.int 50)) (mNil)))))))
def M_is_vat : List D → P3 → Res D := callF 1 1 B_is_vat
def B_check_vat : MS := xIf [] (bNot (toB (mCall (M_is_vat) (mCons (mVar 0) (mNil))))) (xRaise [] "BadVat" (mVar 0)) (sNil)
def M_check_vat : List D → P3 → Res D := callF 1 1 B_check_vat
def B_is_rule : MS := sSeq (xIf [] (bOr (bNot (toB (mCall (M_is_tuple) (mCons (mVar 0) (mCons (mC (.int 7)) (mCons (mC (.int 7)) (mNil))))))) (bNot (toB (mCall (M_is_integer) (mCons (m2 D.ix (mVar 0) (mC (.int 0))) (mCons (m1 D.usub (mC (.int 200))) (mCons (mC (.int 200)) (mNil)))))))) (sRet (mC (.bl false))) (sNil)) (sSeq (xIf [] (bNot (toB (mN dAll (mCons (mLst (mLc [1] (bName 1) (mIter (mSl (mVar 0) (oSome (mC (.int 1))) (oSome (m2 D.sub (mC (.int 5)) (mC (.int 1)))))) (bTrue) (mCall (M_is_integer) (mCons (mVar 1) (mCons (m1 D.usub (mC (.int 50))) (mCons (mC (.int 50)) (mNil))))))) (mNil))))) (sRet (mC (.bl false))) (sNil)) (sSeq (xIf [] (bOr (bNot (toB (mCall (M_is_integer) (mCons (m2 D.ix (mVar 0) (m2 D.sub (mC (.int 5)) (mC (.int 1)))) (mCons (mC (.int 1)) (mCons (mC (.int 50)) (mNil))))))) (bNot (toB (mCall (M_is_integer) (mCons (m2 D.ix (mVar 0) (mC (.int 5))) (mCons (mC (.int 0)) (mCons (mC (.int 200)) (mNil)))))))) (sRet (mC (.bl false))) (sNil)) (sRet (mCall (M_is_between) (mCons (m2 D.ix (mVar 0) (mC (.int 6))) (mCons (mC (.int 50)) (mNil)))))))
def M_is_rule : List D → P3 → Res D := callF 2 1 B_is_rule
def B_check_rule : MS := sSeq (xExpr [] (mCall (M_check_vat) (mCons (mVar 0) (mNil)))) (xIf [] (bNot (toB (mCall (M_is_rule) (mCons (mVar 1) (mNil))))) (xRaise [] "BadRule" (mVar 1)) (sNil))
def M_check_rule : List D → P3 → Res D := callF 2 2 B_check_rule
def B_own_row : MS := sRet (mN dTuple2 (mCons (mLst (mLc [1, 2] (bTup [1, 2]) (mEnum (mCons (mCall (M_last_row) (mCons (m2 D.ix (mVar 0) (mC (.int 0))) (mNil))) (mNil))) (bTrue) (m2 D.mul (mVar 2) (mCall (M_power) (mCons (m2 D.ix (mVar 0) (mC (.int 1))) (mCons (mVar 1) (mNil))))))) (mNil)))
def M_own_row : List D → P3 → Res D := callF 3 1 B_own_row
def B_is_within : MS := sSeq (xSet [] 1 (mLst (mNL dList2 (mCons (mVar 0) (mNil))))) (sSeq (whileL (toB (m2 (D.cmp fGt) (mN dLen (mCons (mVar 1) (mNil))) (mC (.int 1)))) (sSeq (xIf [] (toB (m2 (D.cmp fGe) (mN dAbs (mCons (m2 D.ix (mVar 1) (mC (.int 0))) (mNil))) (mN dAbs (mCons (m2 D.ix (mVar 1) (m1 D.usub (mC (.int 1)))) (mNil))))) (sRet (mC (.bl false))) (sNil)) (xSet [] 1 (mCall (M_thinned) (mCons (mSl (mLst (mLc [2, 3] (bTup [2, 3]) (mZip2 (mCons (mVar 1) (mCons (m1 D.rev (mVar 1)) (mNil)))) (bTrue) (m2 D.sub (m2 D.mul (m2 D.ix (mVar 1) (m1 D.usub (mC (.int 1)))) (mVar 2)) (m2 D.mul (m2 D.ix (mVar 1) (mC (.int 0))) (mVar 3))))) (oSome (mC (.int 1))) (oNo)) (mNil))))) fuel) (sRet (mC (.bl true))))
def M_is_within : List D → P3 → Res D := callF 4 1 B_is_within
def B_does_die : MS := sSeq (xExpr [] (mCall (M_check_grid) (mCons (mVar 0) (mNil)))) (sRet (mCall (M_is_within) (mCons (mCall (M_own_row) (mCons (mVar 0) (mNil))) (mNil))))
def M_does_die : List D → P3 → Res D := callF 1 1 B_does_die
def B_grid_by : MS := sSeq (xTup [] [2, 3, 4] (mSl (mVar 0) (oNo) (oSome (mC (.int 3))))) (sSeq (xTup [] [5, 6, 7, 8] (mSl (mVar 1) (oSome (mC (.int 1))) (oSome (mC (.int 5))))) (sSeq (xSet [] 9 (m2 D.mul (mVar 3) (mVar 8))) (sSeq (xSet [] 10 (m2 D.sub (m2 D.mul (mVar 2) (mVar 8)) (m2 D.mul (m2 D.mul (mVar 4) (m2 D.add (m2 D.add (mVar 5) (mVar 6)) (mVar 7))) (mVar 3)))) (sSeq (xIf [] (toB (m2 D.eq (m2 D.mul (mVar 4) (mVar 6)) (mC (.int 0)))) (sRet (mTup (mCons (mTup (mCons (mTup (mCons (mVar 10) (mCons (m2 D.mul (m2 D.mul (m1 D.usub (mVar 4)) (mVar 7)) (mVar 3)) (mNil)))) (mCons (mTup (mCons (m1 D.usub (mVar 9)) (mCons (mC (.int 0)) (mNil)))) (mNil)))) (mCons (mVar 9) (mNil))))) (sNil)) (sRet (mTup (mCons (mTup (mCons (mTup (mCons (mVar 10) (mCons (m2 D.mul (m2 D.mul (mVar 4) (mVar 6)) (mVar 3)) (mCons (m2 D.mul (m2 D.mul (m1 D.usub (mVar 4)) (mVar 7)) (mVar 3)) (mNil))))) (mCons (mTup (mCons (m1 D.usub (mVar 9)) (mCons (mVar 9) (mCons (mC (.int 0)) (mNil))))) (mCons (mTup (mCons (m1 D.usub (mVar 9)) (mCons (mC (.int 0)) (mCons (mC (.int 0)) (mNil))))) (mNil))))) (mCons (mVar 9) (mNil)))))))))
def M_grid_by : List D → P3 → Res D := callF 11 2 B_grid_by
def B_of_rule : MS := sSeq (xExpr [] (mCall (M_check_rule) (mCons (mVar 0) (mCons (mVar 1) (mNil))))) (sRet (mCall (M_grid_by) (mCons (mVar 0) (mCons (mVar 1) (mNil)))))
def M_of_rule : List D → P3 → Res D := callF 2 2 B_of_rule
def B_answers_of : MS := sSeq (sPar [4, 5] [.inr (lenOk (mNil)), .inl ([], mVar 1)]) (sSeq (sFor (eName 6) (mRange1 (mCons (mVar 3) (mNil))) (sSeq (xApp [] 4 (mCall (M_dot) (mCons (mVar 2) (mCons (mVar 5) (mNil))))) (xSet [] 5 (mCall (M_applied) (mCons (m2 D.ix (mVar 0) (mC (.int 0))) (mCons (mVar 5) (mNil))))))) (sFreeze 4 (sRet (mVar 4))))
def M_answers_of : List D → P3 → Res D := callF 7 4 B_answers_of
def B_sum_of : MS := sSeq (sPar [2, 3] [.inl ([], mC (.int 0)), .inl ([], mC (.int 1))]) (sSeq (sFor (eName 4) (mIter (m1 D.rev (mVar 1))) (sPar [2, 3] [.inl ([], m2 D.add (mVar 2) (m2 D.mul (mVar 4) (mVar 3))), .inl ([], m2 D.mul (mVar 3) (m2 D.ix (mVar 0) (mC (.int 1))))])) (sRet (mCall (M_fraction) (mCons (mVar 2) (mCons (mCall (M_power) (mCons (m2 D.ix (mVar 0) (mC (.int 1))) (mCons (mN dMax2 (mCons (mC (.int 0)) (mCons (m2 D.sub (mN dLen (mCons (mVar 1) (mNil))) (mC (.int 1))) (mNil)))) (mNil)))) (mNil))))))
def M_sum_of : List D → P3 → Res D := callF 5 2 B_sum_of
def B_worst_of : MS := sSeq (xSet [] 5 (mCall (M_answers_of) (mCons (mVar 0) (mCons (mVar 1) (mCons (mVar 2) (mCons (mVar 4) (mNil))))))) (sSeq (sNew 6 (mLc [7] (bName 7) (mIter (mVar 5)) (bTrue) (mIf (toB (m2 (D.cmp fGt) (mVar 7) (mC (.int 0)))) (m2 D.ix (mVar 3) (mC (.int 1))) (mIf (toB (m2 (D.cmp fLt) (mVar 7) (mC (.int 0)))) (m2 D.ix (mVar 3) (mC (.int 0))) (mC (.int 0)))))) (sFreeze 6 (sRet (mTup (mCons (mCall (M_sum_of) (mCons (mVar 0) (mCons (mLst (mLc [7, 8] (bTup [7, 8]) (mZip2 (mCons (mVar 5) (mCons (mVar 6) (mNil)))) (bTrue) (m2 D.mul (mVar 7) (mVar 8)))) (mNil)))) (mCons (mN dTuple2 (mCons (m1 D.rev (mVar 6)) (mNil))) (mNil)))))))
def M_worst_of : List D → P3 → Res D := callF 9 5 B_worst_of
def B_check_small : MS := sSeq (xExpr [] (mCall (M_check_vat) (mCons (mVar 0) (mNil)))) (sSeq (xIf [] (bNot (toB (mCall (M_is_integer) (mCons (mVar 1) (mCons (mC (.int 0)) (mCons (mC (.int 5)) (mNil))))))) (xRaise [] "BadWeights" (mVar 1)) (sNil)) (xIf [] (bNot (toB (mCall (M_is_integer) (mCons (mVar 2) (mCons (mC (.int 1)) (mCons (mC (.int 50)) (mNil))))))) (xRaise [] "BadWeights" (mVar 2)) (sNil)))
def M_check_small : List D → P3 → Res D := callF 3 3 B_check_small
def B_rule_of : MS := sRet (mTup (mCons (mC (.int 0)) (mStar (mVar 0) (mCons (mVar 1) (mCons (mC (.int 0)) (mCons (mTup (mCons (mC (.int 0)) (mCons (mC (.int 0)) (mNil)))) (mNil)))))))
def M_rule_of : List D → P3 → Res D := callF 2 2 B_rule_of
def B_all_weights : MS := sSeq (xSet [] 1 (mLst (lenOk (mCons (mTup (mNil)) (mNil))))) (sSeq (sFor (eName 2) (mRange1 (mCons (mC (.int 3)) (mNil))) (sSeq (xNew [] 3 (lenOk (mNil))) (sSeq (sFor (eName 4) (mIter (mVar 1)) (xExt [] 3 (mLst (mLc [5] (bName 5) (mRange2 (mCons (m1 D.usub (mVar 0)) (mCons (m2 D.add (mVar 0) (mC (.int 1))) (mNil)))) (bTrue) (mTup (mStar (mVar 4) (mCons (mVar 5) (mNil)))))))) (sFreeze 3 (xSet [] 1 (mVar 3)))))) (sRet (mVar 1)))
def M_all_weights : List D → P3 → Res D := callF 6 1 B_all_weights
def B_dying_of : MS := sRet (mLst (mLc [3] (bName 3) (mIter (mCall (M_all_weights) (mCons (mVar 1) (mNil)))) (toB (mCall (M_is_within) (mCons (mCall (M_own_row) (mCons (mCall (M_grid_by) (mCons (mVar 0) (mCons (mCall (M_rule_of) (mCons (mVar 3) (mCons (mVar 2) (mNil)))) (mNil)))) (mNil))) (mNil)))) (mVar 3)))
def M_dying_of : List D → P3 → Res D := callF 4 3 B_dying_of
def B_dying : MS := sSeq (xExpr [] (mCall (M_check_small) (mCons (mVar 0) (mCons (mVar 1) (mCons (mVar 2) (mNil)))))) (sRet (mN dTuple2 (mCons (mCall (M_dying_of) (mCons (mVar 0) (mCons (mVar 1) (mCons (mVar 2) (mNil))))) (mNil))))
def M_dying : List D → P3 → Res D := callF 3 3 B_dying
def B_looks_of : MS := sSeq (xTup [] [3, 4, 5] (mVar 1)) (sSeq (xSet [] 6 (mN dLen (mCons (m2 D.ix (mCall (M_grid_by) (mCons (mVar 0) (mCons (mCall (M_rule_of) (mCons (mVar 1) (mCons (mVar 2) (mNil)))) (mNil)))) (mC (.int 0))) (mNil)))) (sSeq (xSet [] 7 (mN dTuple2 (mCons (mLst (mLc [8] (bName 8) (mRange1 (mCons (mVar 6) (mNil))) (bTrue) (mN dInt (mCons (m2 D.eq (mVar 8) (mC (.int 0))) (mNil))))) (mNil)))) (sSeq (xSet [] 9 (mIf (toB (m2 D.eq (mVar 6) (mC (.int 3)))) (mTup (mCons (m2 D.sub (m2 D.sub (m1 D.usub (mVar 3)) (mVar 4)) (mVar 5)) (mCons (mVar 4) (mCons (m1 D.usub (mVar 5)) (mNil))))) (mTup (mCons (m2 D.sub (m1 D.usub (mVar 3)) (mVar 5)) (mCons (m1 D.usub (mVar 5)) (mNil)))))) (sRet (mTup (mCons (mVar 7) (mCons (mVar 9) (mNil))))))))
def M_looks_of : List D → P3 → Res D := callF 10 3 B_looks_of
def B_sizes_of : MS := sSeq (xSet [] 4 (mCall (M_grid_by) (mCons (mVar 0) (mCons (mCall (M_rule_of) (mCons (mVar 1) (mCons (mVar 2) (mNil)))) (mNil))))) (sSeq (xSet [] 5 (mN dTuple2 (mCons (mLst (mLc [6] (bName 6) (mRange1 (mCons (mN dLen (mCons (m2 D.ix (mVar 4) (mC (.int 0))) (mNil))) (mNil))) (bTrue) (mN dInt (mCons (m2 D.eq (mVar 6) (mC (.int 0))) (mNil))))) (mNil)))) (sSeq (xSet [] 7 (mN dMax2 (mCons (mN dAbs (mCons (m2 D.ix (m2 D.ix (mVar 0) (m2 D.add (mC (.int 3)) (mC (.int 1)))) (mC (.int 0))) (mNil))) (mCons (mN dAbs (mCons (m2 D.ix (m2 D.ix (mVar 0) (m2 D.add (mC (.int 3)) (mC (.int 1)))) (mC (.int 1))) (mNil))) (mNil))))) (sSeq (xTup [] [8, 9] (mCall (M_looks_of) (mCons (mVar 0) (mCons (mVar 1) (mCons (mVar 2) (mNil)))))) (sSeq (sNew 10 (mLc [11] (bName 11) (mIter (mTup (mCons (mVar 8) (mCons (mVar 9) (mNil))))) (bTrue) (m2 D.ix (mCall (M_worst_of) (mCons (mVar 4) (mCons (mVar 5) (mCons (mVar 11) (mCons (mTup (mCons (m1 D.usub (mVar 7)) (mCons (mVar 7) (mNil)))) (mCons (mVar 3) (mNil))))))) (mC (.int 0))))) (sFreeze 10 (sRet (mTup (mCons (m2 D.ix (mVar 10) (mC (.int 0))) (mCons (mCall (M_fraction) (mCons (m2 D.ix (m2 D.ix (mVar 10) (mC (.int 1))) (mC (.int 0))) (mCons (m2 D.mul (m2 D.ix (m2 D.ix (mVar 10) (mC (.int 1))) (mC (.int 1))) (mVar 2)) (mNil)))) (mNil))))))))))
def M_sizes_of : List D → P3 → Res D := callF 12 4 B_sizes_of
def B_check_beats : MS := xIf [] (bNot (toB (mCall (M_is_integer) (mCons (mVar 0) (mCons (mC (.int 1)) (mCons (mC (.int 20)) (mNil))))))) (xRaise [] "BadBeats" (mVar 0)) (sNil)
def M_check_beats : List D → P3 → Res D := callF 1 1 B_check_beats
def B_sizes : MS := sSeq (xExpr [] (mCall (M_check_vat) (mCons (mVar 0) (mNil)))) (sSeq (xIf [] (bOr (bNot (toB (mIsi "tuple" (mVar 1)))) (toB (m2 D.ne (mN dLen (mCons (mVar 1) (mNil))) (mC (.int 3))))) (xRaise [] "BadWeights" (mVar 1)) (sNil)) (sSeq (xIf [] (bNot (toB (mN dAll (mCons (mLst (mLc [4] (bName 4) (mIter (mVar 1)) (bTrue) (mCall (M_is_integer) (mCons (mVar 4) (mCons (m1 D.usub (mC (.int 50))) (mCons (mC (.int 50)) (mNil))))))) (mNil))))) (xRaise [] "BadWeights" (mVar 1)) (sNil)) (sSeq (xExpr [] (mCall (M_check_small) (mCons (mVar 0) (mCons (mC (.int 0)) (mCons (mVar 2) (mNil)))))) (sSeq (xExpr [] (mCall (M_check_beats) (mCons (mVar 3) (mNil)))) (sRet (mCall (M_sizes_of) (mCons (mVar 0) (mCons (mVar 1) (mCons (mVar 2) (mCons (mVar 3) (mNil)))))))))))
def M_sizes : List D → P3 → Res D := callF 5 4 B_sizes
def B_is_less : MS := sRet (m2 (D.cmp fLt) (m2 D.mul (m2 D.ix (mVar 0) (mC (.int 0))) (m2 D.ix (mVar 1) (mC (.int 1)))) (m2 D.mul (m2 D.ix (mVar 1) (mC (.int 0))) (m2 D.ix (mVar 0) (mC (.int 1)))))
def M_is_less : List D → P3 → Res D := callF 2 2 B_is_less
def B_is_better : MS := sSeq (xIf [] (bOr (toB (mCall (M_is_less) (mCons (m2 D.ix (mVar 1) (mC (.int 0))) (mCons (m2 D.ix (mVar 0) (mC (.int 0))) (mNil))))) (toB (mCall (M_is_less) (mCons (m2 D.ix (mVar 1) (mC (.int 1))) (mCons (m2 D.ix (mVar 0) (mC (.int 1))) (mNil)))))) (sRet (mC (.bl false))) (sNil)) (sRet (mOr (mCall (M_is_less) (mCons (m2 D.ix (mVar 0) (mC (.int 0))) (mCons (m2 D.ix (mVar 1) (mC (.int 0))) (mNil)))) (mCall (M_is_less) (mCons (m2 D.ix (mVar 0) (mC (.int 1))) (mCons (m2 D.ix (mVar 1) (mC (.int 1))) (mNil))))))
def M_is_better : List D → P3 → Res D := callF 2 2 B_is_better
def B_best : MS := sSeq (xExpr [] (mCall (M_check_small) (mCons (mVar 0) (mCons (mVar 1) (mCons (mVar 2) (mNil)))))) (sSeq (xExpr [] (mCall (M_check_beats) (mCons (mVar 3) (mNil)))) (sSeq (xSet [] 4 (mLst (mLc [5] (bName 5) (mIter (mCall (M_dying_of) (mCons (mVar 0) (mCons (mVar 1) (mCons (mVar 2) (mNil)))))) (bTrue) (mTup (mCons (mVar 5) (mStar (mCall (M_sizes_of) (mCons (mVar 0) (mCons (mVar 5) (mCons (mVar 2) (mCons (mVar 3) (mNil)))))) (mNil))))))) (sRet (mN dTuple2 (mCons (mLst (mLc [6] (bName 6) (mIter (mVar 4)) (bNot (toB (mN dAny (mCons (mLst (mLc [7] (bName 7) (mIter (mVar 4)) (bTrue) (mCall (M_is_better) (mCons (mSl (mVar 7) (oSome (mC (.int 1))) (oNo)) (mCons (mSl (mVar 6) (oSome (mC (.int 1))) (oNo)) (mNil)))))) (mNil))))) (mVar 6))) (mNil))))))
def M_best : List D → P3 → Res D := callF 8 4 B_best
def B__law_pot : MS := sSeq (xSet [] 2 (mIf (toB (m2 (D.cmp fLt) (mVar 1) (mN dLen (mCons (mVar 0) (mNil))))) (m2 D.ix (mVar 0) (mVar 1)) (m2 D.add (m2 D.add (m2 D.fmod (mN dSum (mCons (mSl (mVar 0) (oNo) (oSome (mC (.int 1)))) (mNil))) (mC (.int 1000003))) (m2 D.mul (mC (.int 7387)) (mVar 1))) (mC (.int 464))))) (sSeq (xSet [] 3 (m2 D.mul (m2 D.fmod (mN dInt (mCons (mN dAbs (mCons (mVar 2) (mNil))) (mNil))) (m2 D.powW (m2 D.powW (mC (.int 10)) (mC (.int 60))) (mC (.int 5)))) (mN dInt (mCons (m2 (D.cmp fGe) (mN dAbs (mCons (mVar 2) (mNil))) (m2 D.powW (mC (.int 10)) (mC (.int 18)))) (mNil))))) (sSeq (xSet [] 4 (m2 D.fmod (mN dInt (mCons (mVar 2) (mNil))) (mC (.int 2305843009213693951)))) (sRetNew (lenOk (mCons (mVar 3) (mCons (m2 D.fmod (mN dInt (mCons (m2 D.add (m2 D.add (m2 D.mul (mVar 4) (mC (.int 95137))) (m2 D.mul (m2 D.mul (mC (.int 11855)) (mVar 1)) (mVar 1))) (mC (.int 871))) (mNil))) (mC (.int 2305843009213693921))) (mCons (mC (.int 0)) (mNil))))))))
def M__law_pot : List D → P3 → Res (List D) := callN 5 2 B__law_pot
def B__law_take : MS := sSeq (xIf [] (toB (m2 (D.cmp fGt) (mPotIx (mVar 0) 0) (mC (.int 0)))) (sSeq (xSet [] 2 (m2 D.fmod (mN dInt (mCons (mPotIx (mVar 0) 0) (mNil))) (mVar 1))) (sSeq (sPotSet 0 0 (m2 D.fdiv (mPotIx (mVar 0) 0) (mVar 1))) (sRet (mVar 2)))) (sNil)) (sSeq (sPotSet 0 2 (m2 D.add (mPotIx (mVar 0) 2) (mC (.int 1)))) (sSeq (xSet [] 3 (m2 D.ix (mLst (lenOk (mCons (mC (.int 2147483647)) (mCons (mC (.int 2147483629)) (mCons (mC (.int 2147483587)) (mCons (mC (.int 2147483579)) (mCons (mC (.int 2147483563)) (mNil)))))))) (m2 D.fmod (mN dInt (mCons (mPotIx (mVar 0) 2) (mNil))) (mC (.int 5))))) (sSeq (xSet [] 4 (m2 D.fmod (mN dInt (mCons (m2 D.powW (mN dInt (mCons (m2 D.add (m2 D.add (mPotIx (mVar 0) 1) (m2 D.mul (m2 D.mul (mC (.int 92026)) (mPotIx (mVar 0) 2)) (mPotIx (mVar 0) 2))) (mC (.int 671))) (mNil))) (mC (.int 3))) (mNil))) (mVar 3))) (sSeq (xSet [] 4 (m2 D.fmod (mN dInt (mCons (m2 D.mul (mVar 4) (m2 D.add (m2 D.fmod (mN dInt (mCons (mVar 4) (mNil))) (mC (.int 10259))) (m2 D.mul (mC (.int 122)) (mPotIx (mVar 0) 2)))) (mNil))) (mC (.int 2305843009213693907)))) (sRet (m2 D.fmod (mN dInt (mCons (m2 D.fdiv (mVar 4) (mC (.int 152))) (mNil))) (mVar 1)))))))
def M__law_take : List D → P3 → Res D := callF 5 2 B__law_take
def B__law_of : MS := sRet (m2 D.ix (mVar 1) (mCall (M__law_take) (mCons (mVar 0) (mCons (mN dLen (mCons (mVar 1) (mNil))) (mNil)))))
def M__law_of : List D → P3 → Res D := callF 2 2 B__law_of
def B__law_places : MS := sRet (mLst (mNL dList2 (mCons (mN dRange (mCons (mN dMax2 (mCons (mC (.int 1)) (mCons (mN dMin2 (mCons (mVar 1) (mCons (mN dLen (mCons (mVar 0) (mNil))) (mNil)))) (mNil)))) (mNil))) (mNil))))
def M__law_places : List D → P3 → Res D := callF 2 2 B__law_places
def m_lam_0 : ME := mCall (M_dying) (mCons (mVar 0) (mCons (mVar 1) (mCons (mVar 2) (mNil))))
def m_lam_1 : ME := mCall (M_dying) (mCons (mVar 0) (mCons (mVar 1) (mCons (mVar 2) (mNil))))
def m_lam_2 : ME := mCall (M_dying) (mCons (mVar 0) (mCons (mC (.int 1)) (mCons (mVar 1) (mNil))))
def m_lam_3 : ME := mCall (M_sizes) (mCons (mVar 0) (mCons (mVar 1) (mCons (mVar 2) (mCons (mVar 3) (mNil)))))
def m_lam_4 : ME := mCall (M_sizes) (mCons (mVar 0) (mCons (mVar 1) (mCons (mVar 2) (mCons (mVar 3) (mNil)))))
def m_lam_5 : ME := mCall (M_sizes) (mCons (mVar 0) (mCons (mTup (mCons (mC (.int 1)) (mCons (mC (.int 1)) (mCons (mC (.int 1)) (mNil))))) (mCons (mVar 1) (mCons (mVar 2) (mNil)))))
def m_lam_6 : ME := mCall (M_sizes) (mCons (mVar 0) (mCons (mTup (mCons (mC (.int 1)) (mCons (mC (.int 1)) (mCons (mC (.int 1)) (mNil))))) (mCons (mC (.int 1)) (mCons (mVar 1) (mNil)))))
def m_lam_7 : ME := mCall (M_best) (mCons (mVar 0) (mCons (mVar 1) (mCons (mVar 2) (mCons (mVar 3) (mNil)))))
def m_lam_8 : ME := mCall (M_best) (mCons (mVar 0) (mCons (mVar 1) (mCons (mVar 2) (mCons (mVar 3) (mNil)))))
def m_lam_9 : ME := mCall (M_best) (mCons (mVar 0) (mCons (mC (.int 1)) (mCons (mC (.int 1)) (mCons (mVar 1) (mNil)))))
def mls : Nat → List D → P3 → Res D
  | 0 => fun ds p => m_lam_0 (ds.map some) p
  | 1 => fun ds p => m_lam_1 (ds.map some) p
  | 2 => fun ds p => m_lam_2 (ds.map some) p
  | 3 => fun ds p => m_lam_3 (ds.map some) p
  | 4 => fun ds p => m_lam_4 (ds.map some) p
  | 5 => fun ds p => m_lam_5 (ds.map some) p
  | 6 => fun ds p => m_lam_6 (ds.map some) p
  | 7 => fun ds p => m_lam_7 (ds.map some) p
  | 8 => fun ds p => m_lam_8 (ds.map some) p
  | 9 => fun ds p => m_lam_9 (ds.map some) p
  | _ => fun _ _ => .bad
def caps__law_heard : CapT := []
def B__law_heard : MS := sSeq (sPar [1, 2] [.inl ([], mC .non), .inl ([], mC .non)]) (sSeq (sHeard 2 1 3 exs (mCallC 0 mls)) (sRetV (mTup (mCons (mVar 1) (mCons (mVar 2) (mNil))))))
def M__law_heard : List D → P3 → Res D := callV 4 1 B__law_heard
def B__law_common : MS := sSeq (whileL (toB (m2 D.ne (mVar 1) (mC (.int 0)))) (sPar [0, 1] [.inl ([], mVar 1), .inl ([], m2 D.fmod (mVar 0) (mVar 1))]) fuel) (sRet (mVar 0))
def M__law_common : List D → P3 → Res D := callF 2 2 B__law_common
def B__law_fraction : MS := sSeq (xIf [] (toB (m2 (D.cmp fLt) (mVar 1) (mC (.int 0)))) (sPar [0, 1] [.inl ([], m1 D.usub (mVar 0)), .inl ([], m1 D.usub (mVar 1))]) (sNil)) (sSeq (xSet [] 2 (mCall (M__law_common) (mCons (mN dAbs (mCons (mVar 0) (mNil))) (mCons (mVar 1) (mNil))))) (sRet (mTup (mCons (m2 D.fdiv (mVar 0) (mVar 2)) (mCons (m2 D.fdiv (mVar 1) (mVar 2)) (mNil))))))
def M__law_fraction : List D → P3 → Res D := callF 3 2 B__law_fraction
def B__law_plus : MS := sRet (mCall (M__law_fraction) (mCons (m2 D.add (m2 D.mul (m2 D.ix (mVar 0) (mC (.int 0))) (m2 D.ix (mVar 1) (mC (.int 1)))) (m2 D.mul (m2 D.ix (mVar 1) (mC (.int 0))) (m2 D.ix (mVar 0) (mC (.int 1))))) (mCons (m2 D.mul (m2 D.ix (mVar 0) (mC (.int 1))) (m2 D.ix (mVar 1) (mC (.int 1)))) (mNil))))
def M__law_plus : List D → P3 → Res D := callF 2 2 B__law_plus
def B__law_by : MS := sRet (mCall (M__law_fraction) (mCons (m2 D.mul (m2 D.ix (mVar 0) (mC (.int 0))) (m2 D.ix (mVar 1) (mC (.int 0)))) (mCons (m2 D.mul (m2 D.ix (mVar 0) (mC (.int 1))) (m2 D.ix (mVar 1) (mC (.int 1)))) (mNil))))
def M__law_by : List D → P3 → Res D := callF 2 2 B__law_by
def B__law_small : MS := sSeq (sPar [1, 2] [.inl ([], mCall (M__law_take) (mCons (mVar 0) (mCons (mC (.int 4)) (mNil)))), .inl ([], m2 D.add (mC (.int 1)) (mCall (M__law_take) (mCons (mVar 0) (mCons (mC (.int 3)) (mNil)))))]) (sSeq (sPar [3, 4] [.inl ([], m1 D.usub (mCall (M__law_take) (mCons (mVar 0) (mCons (mC (.int 4)) (mNil))))), .inl ([], mCall (M__law_take) (mCons (mVar 0) (mCons (mC (.int 7)) (mNil))))]) (sRet (mTup (mCons (mVar 1) (mCons (mVar 2) (mCons (m2 D.sub (mCall (M__law_take) (mCons (mVar 0) (mCons (mC (.int 5)) (mNil)))) (mC (.int 2))) (mCons (mTup (mCons (m1 D.usub (mC (.int 20))) (mCons (mC (.int 20)) (mNil)))) (mCons (mTup (mCons (mVar 3) (mCons (m2 D.add (mVar 3) (mVar 4)) (mNil)))) (mNil)))))))))
def M__law_small : List D → P3 → Res D := callF 5 1 B__law_small
def B__law_rule : MS := sRet (m2 D.add (m2 D.add (mTup (mCons (mC (.int 0)) (mNil))) (mVar 0)) (mTup (mCons (mVar 1) (mCons (mC (.int 0)) (mCons (mTup (mCons (mC (.int 0)) (mCons (mC (.int 0)) (mNil)))) (mNil))))))
def M__law_rule : List D → P3 → Res D := callF 2 2 B__law_rule
def B__law_all : MS := sSeq (xSet [] 1 (mLst (lenOk (mCons (mTup (mNil)) (mNil))))) (sSeq (sFor (eName 2) (mRange1 (mCons (mC (.int 3)) (mNil))) (sSeq (xNew [] 3 (lenOk (mNil))) (sSeq (sFor (eName 4) (mIter (mVar 1)) (xExt [] 3 (mLst (mLc [5] (bName 5) (mRange2 (mCons (m1 D.usub (mVar 0)) (mCons (m2 D.add (mVar 0) (mC (.int 1))) (mNil)))) (bTrue) (m2 D.add (mVar 4) (mTup (mCons (mVar 5) (mNil)))))))) (sFreeze 3 (xSet [] 1 (mVar 3)))))) (sRet (mVar 1)))
def M__law_all : List D → P3 → Res D := callF 6 1 B__law_all
def B__law_beat : MS := sSeq (xTup [] [4, 5, 6] (mVar 3)) (sSeq (xSet [] 7 (mTup (mCons (m1 D.usub (m2 D.ix (mVar 4) (mC (.int 0)))) (mCons (m2 D.ix (mVar 4) (mC (.int 1))) (mNil))))) (sSeq (xSet [] 8 (mIf (toB (m2 D.ne (m2 D.mul (m2 D.ix (mVar 0) (mC (.int 2))) (m2 D.ix (mVar 1) (mC (.int 1)))) (mC (.int 0)))) (mCall (M__law_plus) (mCons (mVar 5) (mCons (mVar 7) (mNil)))) (mTup (mCons (mC (.int 0)) (mCons (mC (.int 1)) (mNil)))))) (sSeq (xSet [] 9 (mCall (M__law_plus) (mCons (mVar 7) (mCons (mTup (mCons (m1 D.usub (m2 D.ix (mVar 6) (mC (.int 0)))) (mCons (m2 D.ix (mVar 6) (mC (.int 1))) (mNil)))) (mNil))))) (sSeq (xSet [] 10 (mTup (mCons (mC (.int 0)) (mCons (mC (.int 1)) (mNil))))) (sSeq (sFor (eTup [11, 12]) (mZip2 (mCons (mVar 1) (mCons (mTup (mCons (mVar 7) (mCons (mVar 8) (mCons (mVar 9) (mNil))))) (mNil)))) (xSet [] 10 (mCall (M__law_plus) (mCons (mVar 10) (mCons (mCall (M__law_by) (mCons (mTup (mCons (mVar 11) (mCons (mVar 2) (mNil)))) (mCons (mVar 12) (mNil)))) (mNil)))))) (sSeq (xSet [] 13 (mCall (M__law_plus) (mCons (mCall (M__law_by) (mCons (mTup (mCons (m2 D.ix (mVar 0) (mC (.int 0))) (mCons (m2 D.ix (mVar 0) (mC (.int 1))) (mNil)))) (mCons (mVar 4) (mNil)))) (mCons (mCall (M__law_by) (mCons (mTup (mCons (m2 D.ix (mVar 0) (mC (.int 2))) (mCons (mC (.int 1)) (mNil)))) (mCons (mVar 10) (mNil)))) (mNil))))) (sRet (mTup (mCons (mTup (mCons (mVar 13) (mCons (mVar 8) (mCons (mVar 7) (mNil))))) (mCons (mVar 10) (mNil)))))))))))
def M__law_beat : List D → P3 → Res D := callF 14 4 B__law_beat
def B__law_sizes : MS := sSeq (xSet [] 4 (mN dMax2 (mCons (mN dAbs (mCons (m2 D.ix (m2 D.ix (mVar 0) (mC (.int 4))) (mC (.int 0))) (mNil))) (mCons (mN dAbs (mCons (m2 D.ix (m2 D.ix (mVar 0) (mC (.int 4))) (mC (.int 1))) (mNil))) (mNil))))) (sSeq (sPar [5, 6, 7] [.inl ([], mTup (mCons (mTup (mCons (mC (.int 1)) (mCons (mC (.int 1)) (mNil)))) (mCons (mTup (mCons (mC (.int 0)) (mCons (mC (.int 1)) (mNil)))) (mCons (mTup (mCons (mC (.int 0)) (mCons (mC (.int 1)) (mNil)))) (mNil))))), .inl ([], mTup (mCons (mC (.int 0)) (mCons (mC (.int 1)) (mNil)))), .inl ([], mTup (mCons (mC (.int 0)) (mCons (mC (.int 1)) (mNil))))]) (sSeq (sFor (eName 8) (mRange1 (mCons (mVar 3) (mNil))) (sSeq (xTup [] [9, 10] (mCall (M__law_beat) (mCons (mVar 0) (mCons (mVar 1) (mCons (mVar 2) (mCons (mVar 5) (mNil))))))) (sSeq (xSet [] 6 (mCall (M__law_plus) (mCons (mVar 6) (mCons (mTup (mCons (mN dAbs (mCons (m2 D.ix (m2 D.ix (mVar 5) (mC (.int 0))) (mC (.int 0))) (mNil))) (mCons (m2 D.ix (m2 D.ix (mVar 5) (mC (.int 0))) (mC (.int 1))) (mNil)))) (mNil))))) (sSeq (xSet [] 7 (mCall (M__law_plus) (mCons (mVar 7) (mCons (mTup (mCons (mN dAbs (mCons (m2 D.ix (mVar 10) (mC (.int 0))) (mNil))) (mCons (m2 D.ix (mVar 10) (mC (.int 1))) (mNil)))) (mNil))))) (xSet [] 5 (mVar 9)))))) (sRet (mTup (mCons (mCall (M__law_by) (mCons (mTup (mCons (mVar 4) (mCons (mC (.int 1)) (mNil)))) (mCons (mVar 6) (mNil)))) (mCons (mCall (M__law_by) (mCons (mTup (mCons (mVar 4) (mCons (mC (.int 1)) (mNil)))) (mCons (mVar 7) (mNil)))) (mNil)))))))
def M__law_sizes : List D → P3 → Res D := callF 11 4 B__law_sizes
def B__law_less : MS := sRet (m2 (D.cmp fLt) (m2 D.mul (m2 D.ix (mVar 0) (mC (.int 0))) (m2 D.ix (mVar 1) (mC (.int 1)))) (m2 D.mul (m2 D.ix (mVar 1) (mC (.int 0))) (m2 D.ix (mVar 0) (mC (.int 1)))))
def M__law_less : List D → P3 → Res D := callF 2 2 B__law_less
def B__law_is_better : MS := sSeq (xIf [] (bOr (toB (mCall (M__law_less) (mCons (m2 D.ix (mVar 1) (mC (.int 0))) (mCons (m2 D.ix (mVar 0) (mC (.int 0))) (mNil))))) (toB (mCall (M__law_less) (mCons (m2 D.ix (mVar 1) (mC (.int 1))) (mCons (m2 D.ix (mVar 0) (mC (.int 1))) (mNil)))))) (sRet (mC (.bl false))) (sNil)) (sRet (mOr (mCall (M__law_less) (mCons (m2 D.ix (mVar 0) (mC (.int 0))) (mCons (m2 D.ix (mVar 1) (mC (.int 0))) (mNil)))) (mCall (M__law_less) (mCons (m2 D.ix (mVar 0) (mC (.int 1))) (mCons (m2 D.ix (mVar 1) (mC (.int 1))) (mNil))))))
def M__law_is_better : List D → P3 → Res D := callF 2 2 B__law_is_better
def caps__law_are_refused : CapT := [(0, [2, 3, 4]), (1, [1, 3, 4]), (2, [1, 4]), (3, [2, 6, 4, 5]), (4, [1, 6, 4, 5]), (5, [1, 4, 5]), (6, [1, 5]), (7, [2, 3, 4, 5]), (8, [1, 3, 4, 5]), (9, [1, 5])]
def B__law_are_refused : MS := sSeq (sPar [2, 3] [.inl ([], mCall (M__law_of) (mPl (mCons (mVar 0) (mCons (mLst (lenOk (mCons (mC .non) (mCons (mTup (mNil)) (mCons (mTup (mCons (mC (.int 1)) (mCons (mC (.int 1)) (mCons (mC (.int 1)) (mNil))))) (mCons (mSl (mVar 1) (oNo) (oSome (mC (.int 4)))) (mNil))))))) (mNil))))), .inl ([], mCall (M__law_of) (mPl (mCons (mVar 0) (mCons (mLst (lenOk (mCons (mC .non) (mCons (m1 D.usub (mC (.int 1))) (mCons (mC (.int 6)) (mCons (mC (.bl true)) (mNil))))))) (mNil)))))]) (sSeq (sPar [4, 5] [.inl ([], mCall (M__law_of) (mPl (mCons (mVar 0) (mCons (mLst (lenOk (mCons (mC .non) (mCons (mC (.int 0)) (mCons (mC (.int 51)) (mCons (mC (.bl true)) (mNil))))))) (mNil))))), .inl ([], mCall (M__law_of) (mPl (mCons (mVar 0) (mCons (mLst (lenOk (mCons (mC .non) (mCons (mC (.int 0)) (mCons (mC (.int 21)) (mCons (mC (.bl true)) (mNil))))))) (mNil)))))]) (sSeq (xSet [] 6 (mCall (M__law_of) (mPl (mCons (mVar 0) (mCons (mLst (lenOk (mCons (mC .non) (mCons (mTup (mCons (mC (.int 1)) (mCons (mC (.int 1)) (mNil)))) (mCons (mTup (mCons (mC (.int 51)) (mCons (mC (.int 0)) (mCons (mC (.int 0)) (mNil))))) (mCons (mLst (lenOk (mCons (mC (.int 1)) (mCons (mC (.int 1)) (mCons (mC (.int 1)) (mNil)))))) (mCons (mTup (mCons (mC (.bl true)) (mCons (mC (.int 0)) (mCons (mC (.int 0)) (mNil))))) (mNil)))))))) (mNil)))))) (sSeq (xNew [] 7 (lenOk (mCons (mTup (mCons (mC (.own 0)) (mCons (mC (.str "vat")) (mCons (mVar 2) (mNil))))) (mNil)))) (sSeq (xApp [] 7 (mTup (mCons (mC (.own 1)) (mCons (mC (.str "weights")) (mCons (mVar 3) (mNil)))))) (sSeq (xApp [] 7 (mTup (mCons (mC (.own 2)) (mCons (mC (.str "weights")) (mCons (mVar 4) (mNil)))))) (sSeq (xApp [] 7 (mTup (mCons (mC (.own 3)) (mCons (mC (.str "vat")) (mCons (mVar 2) (mNil)))))) (sSeq (xApp [] 7 (mTup (mCons (mC (.own 4)) (mCons (mC (.str "weights")) (mCons (mVar 6) (mNil)))))) (sSeq (xApp [] 7 (mTup (mCons (mC (.own 5)) (mCons (mC (.str "weights")) (mCons (mVar 4) (mNil)))))) (sSeq (xApp [] 7 (mTup (mCons (mC (.own 6)) (mCons (mC (.str "beats")) (mCons (mVar 5) (mNil)))))) (sSeq (xApp [] 7 (mTup (mCons (mC (.own 7)) (mCons (mC (.str "vat")) (mCons (mVar 2) (mNil)))))) (sSeq (xApp [] 7 (mTup (mCons (mC (.own 8)) (mCons (mC (.str "weights")) (mCons (mVar 3) (mNil)))))) (sSeq (xApp [] 7 (mTup (mCons (mC (.own 9)) (mCons (mC (.str "beats")) (mCons (mVar 5) (mNil)))))) (sFreeze 7 (sSeq (sFor (eTup [8, 9, 10]) (mIter (mVar 7)) (sSeq (xSet [] 11 (m2 D.ix (mCallV caps__law_are_refused (M__law_heard) (mCons (mVar 8) (mNil))) (mC (.int 0)))) (sSeq (xNew [] 12 (lenOk (mCons (mTup (mCons (m1 (dIsE exs sub_BadVat) (mVar 11)) (mCons (mC (.str "vat")) (mNil)))) (mCons (mTup (mCons (m1 (dIsE exs sub_BadWeights) (mVar 11)) (mCons (mC (.str "weights")) (mNil)))) (mNil))))) (sSeq (xApp [] 12 (mTup (mCons (m1 (dIsE exs sub_BadBeats) (mVar 11)) (mCons (mC (.str "beats")) (mNil))))) (sFreeze 12 (xIf [] (bOr (toB (m2 D.ne (mLst (mLc [13, 14] (bTup [13, 14]) (mIter (mVar 12)) (toB (mVar 13)) (mVar 14))) (mLst (lenOk (mCons (mVar 9) (mNil)))))) (toB (mReprNe (m1 (dVal exs) (mVar 11)) (mVar 10)))) (sRetV (mC (.bl false))) (sNil))))))) (sRetV (mC (.bl true)))))))))))))))))
def M__law_are_refused : List D → P3 → Res D := callV 15 2 B__law_are_refused
def B__law_right : MS := sSeq (sPar [1, 2, 3, 4] [.inl ([], mCall (M__law_small) (mCons (mVar 0) (mNil))), .inl ([], m2 D.add (mC (.int 1)) (mCall (M__law_take) (mCons (mVar 0) (mCons (mC (.int 2)) (mNil))))), .inl ([], m2 D.add (mC (.int 1)) (mCall (M__law_take) (mCons (mVar 0) (mCons (mC (.int 4)) (mNil))))), .inl ([], m2 D.add (mC (.int 1)) (mCall (M__law_take) (mCons (mVar 0) (mCons (mC (.int 5)) (mNil)))))]) (sSeq (sNew 5 (mLc [6] (bName 6) (mIter (mCall (M__law_all) (mCons (mVar 2) (mNil)))) (toB (mCall (M_does_die) (mCons (mCall (M_of_rule) (mCons (mVar 1) (mCons (mCall (M__law_rule) (mCons (mVar 6) (mCons (mVar 3) (mNil)))) (mNil)))) (mNil)))) (mVar 6))) (sFreeze 5 (sSeq (xIf [] (toB (mReprNe (mCall (M_dying) (mCons (mVar 1) (mCons (mVar 2) (mCons (mVar 3) (mNil))))) (mN dTuple2 (mCons (mVar 5) (mNil))))) (sRet (mC (.bl false))) (sNil)) (sSeq (xSet [] 7 (mN dTuple2 (mCons (mLst (mLc [8] (bName 8) (mRange1 (mCons (mC (.int 3)) (mNil))) (bTrue) (m2 D.sub (mCall (M__law_take) (mCons (mVar 0) (mCons (mC (.int 9)) (mNil)))) (mC (.int 4))))) (mNil)))) (sSeq (xIf [] (toB (mReprNe (mCall (M_sizes) (mCons (mVar 1) (mCons (mVar 7) (mCons (mVar 3) (mCons (mVar 4) (mNil)))))) (mCall (M__law_sizes) (mCons (mVar 1) (mCons (mVar 7) (mCons (mVar 3) (mCons (mVar 4) (mNil)))))))) (sRet (mC (.bl false))) (sNil)) (sSeq (xSet [] 9 (mLst (mLc [6] (bName 6) (mIter (mVar 5)) (bTrue) (m2 D.add (mTup (mCons (mVar 6) (mNil))) (mCall (M__law_sizes) (mCons (mVar 1) (mCons (mVar 6) (mCons (mVar 3) (mCons (mVar 4) (mNil)))))))))) (sSeq (sNew 10 (mLc [11] (bName 11) (mIter (mVar 9)) (bNot (toB (mN dAny (mCons (mLst (mLc [12] (bName 12) (mIter (mVar 9)) (bTrue) (mCall (M__law_is_better) (mCons (mSl (mVar 12) (oSome (mC (.int 1))) (oNo)) (mCons (mSl (mVar 11) (oSome (mC (.int 1))) (oNo)) (mNil)))))) (mNil))))) (mVar 11))) (sFreeze 10 (sSeq (xIf [] (toB (mReprNe (mCall (M_best) (mCons (mVar 1) (mCons (mVar 2) (mCons (mVar 3) (mCons (mVar 4) (mNil)))))) (mN dTuple2 (mCons (mVar 10) (mNil))))) (sRet (mC (.bl false))) (sNil)) (sRet (mCall (M__law_are_refused) (mCons (mVar 0) (mCons (mVar 1) (mNil))))))))))))))
def M__law_right : List D → P3 → Res D := callF 13 1 B__law_right
def B_law : MS := sSeq (xSet [] 1 (mTup (mCons (mC (.int 1)) (mCons (mC (.int 1)) (mCons (mC (.int 1)) (mCons (mTup (mCons (m1 D.usub (mC (.int 9))) (mCons (mC (.int 9)) (mNil)))) (mCons (mTup (mCons (m1 D.usub (mC (.int 1))) (mCons (mC (.int 1)) (mNil)))) (mNil)))))))) (sSeq (xIf [] (bOr (toB (m2 D.ne (mN dRepr (mCons (mCall (M_dying) (mCons (mVar 1) (mCons (mC (.int 1)) (mCons (mC (.int 1)) (mNil))))) (mNil))) (mC (.str "((1, 0, 0), (1, 1, 0))")))) (toB (m2 D.ne (mCall (M_best) (mCons (mVar 1) (mCons (mC (.int 0)) (mCons (mC (.int 1)) (mCons (mC (.int 3)) (mNil)))))) (mTup (mNil))))) (sRet (mC (.bl false))) (sNil)) (sSeq (xIf [] (toB (m2 D.ne (mN dRepr (mCons (mCall (M_sizes) (mCons (mVar 1) (mCons (mTup (mCons (mC (.int 1)) (mCons (mC (.int 1)) (mCons (mC (.int 0)) (mNil))))) (mCons (mC (.int 1)) (mCons (mC (.int 3)) (mNil)))))) (mNil))) (mC (.str "((2, 1), (3, 1))")))) (sRet (mC (.bl false))) (sNil)) (sSeq (sFor (eName 2) (mIter (mCall (M__law_places) (mCons (mVar 0) (mCons (mC (.int 4)) (mNil))))) (sPot 3 (mCallN M__law_pot (mCons (mVar 0) (mCons (mVar 2) (mNil)))) (xIf [] (bNot (toB (mCall (M__law_right) (mCons (mVar 3) (mNil))))) (sRet (mC (.bl false))) (sNil)))) (sRet (mC (.bl true))))))
def M_law : List D → P3 → Res D := callF 4 1 B_law
end VL

namespace VL
open PySem PySem.Spec PyProof.Rows L2 LamX
theorem law_tk : TkOk M__law_take := tk_ok (t1 := 92026) (t2 := 671) (t3 := 10259) (t4 := 122) (t5 := 152) (by unfold Sm; decide) (by unfold Sm; decide) (by decide) (by unfold Sm; decide) (by decide) (by decide)
theorem law_of : OfOk M__law_of := of_ok law_tk
theorem law_ofi {n : Nat} {l : List Int} {p : P3} {Q : D → P3 → Prop} (hp : Pot n p) (hn : n < 2 ^ 60) (he : l ≠ []) (hl : l.length < 2 ^ 60) (q : ∀ i ∈ l, ∀ p', Pot (n + 1) p' → Q (.int i) p') : (M__law_of [.pot, .lst (l.map D.int)] p).wp Q := by
  refine law_of n _ _ p Q (.inl rfl) hp hn (by simpa using he) (by rw [List.length_map]; omega) fun d hd p' hp' => ?_
  obtain ⟨i, hi, rfl⟩ := List.mem_map.mp hd
  exact q i hi p' hp'
theorem law_pot : PtOk M__law_pot := pt_ok (c1 := 7387) (c2 := 464) (m1' := 95137) (m2' := 11855) (m3 := 871) (by unfold Sm; decide) (by unfold Sm; decide) (by unfold Sm; decide)
section
variable {p : P3} {n : Nat} {d : D}
theorem m_int (h : d.sh n = true) (a b : Int) : M_is_integer [d, .int a, .int b] p = .ok (.bl (isI a b d)) p := isI_ok h a b p
@[simp] theorem m_inti (i a b : Int) : M_is_integer [.int i, .int a, .int b] p = .ok (.bl (decide (a ≤ i) && decide (i ≤ b))) p := by simp [M_is_integer, B_is_integer, M_is_whole, B_is_whole, env0]
theorem m_tup (h : d.sh n = true) (a b : Int) : M_is_tuple [d, .int a, .int b] p = .ok (.bl (isT a b d)) p := isT_ok h a b p
@[simp] theorem m_tupt (ds : List D) (a b : Int) : M_is_tuple [.tup ds, .int a, .int b] p = .ok (.bl (decide (a ≤ ds.length) && decide (ds.length ≤ b))) p := by simp [M_is_tuple, B_is_tuple, env0]
end
end VL

namespace VL
open PySem PySem.Spec PyProof.Rows L2 LamX
section
variable {p : P3} {a b : Int}
theorem m_fraction (hb : 0 < b) (h1 : a.natAbs < 2 ^ 240) (h2 : b.natAbs < 2 ^ 240) : M_fraction [.int a, .int b] p = .ok (frD a b) p := fr_ok hb h1 h2
theorem m_lfraction (hb : 0 < b) (h1 : a.natAbs < 2 ^ 240) (h2 : b.natAbs < 2 ^ 240) : M__law_fraction [.int a, .int b] p = .ok (frD a b) p := fr_ok hb h1 h2
end
/-- d is a fraction a / b, of few figures -/
structure Fr (d : D) (a b : Int) : Prop where
  ex : ∃ x y : Int, d = .tup [.int x, .int y] ∧ 0 < y ∧ x * b = a * y ∧ x.natAbs < 2 ^ 60 ∧ y.natAbs < 2 ^ 60
theorem Fr.of {a b : Int} (hb : 0 < b) (h1 : a.natAbs < 2 ^ 60) (h2 : b.natAbs < 2 ^ 60) : Fr (frD a b) a b := by
  have h3 := fr_pos (a := a) hb
  have h4 := fr_abs (a := a) hb
  exact ⟨_, _, rfl, h3.1, fr_cross hb, by omega, by omega⟩
theorem Fr.raw {a b : Int} (hb : 0 < b) (h1 : a.natAbs < 2 ^ 60) (h2 : b.natAbs < 2 ^ 60) : Fr (.tup [.int a, .int b]) a b := ⟨a, b, rfl, hb, rfl, h1, h2⟩
theorem mul_lt60 {x y : Int} (h1 : x.natAbs < 2 ^ 60) (h2 : y.natAbs < 2 ^ 60) : (x * y).natAbs < 2 ^ 120 := by
  rw [Int.natAbs_mul]
  have := Nat.mul_lt_mul'' h1 h2
  rw [← Nat.pow_add] at this
  exact this
theorem sm60 {x : Int} (h : x.natAbs < 2 ^ 60) : Sm x := by unfold Sm; omega
section
variable {p : P3}
theorem l_plus {d e : D} {a b c f z z' : Int} (h1 : Fr d a b) (h2 : Fr e c f) (hb : 0 < b) (hf : 0 < f) (hz : 0 < z') (h : (a * f + c * b) * z' = z * (b * f)) : M__law_plus [d, e] p = .ok (frD z z') p := by
  obtain ⟨x, y, rfl, y0, e1, s1, s2⟩ := h1
  obtain ⟨u, v, rfl, v0, e2, s3, s4⟩ := h2
  have m1 := mul_lt60 s1 s4
  have m2 := mul_lt60 s3 s2
  have m3 := mul_lt60 s2 s4
  have hp := Int.mul_pos y0 v0
  have k1 : (x * v + u * y).natAbs < 2 ^ 240 := by have : (2 : Nat) ^ 120 + 2 ^ 120 < 2 ^ 240 := by decide +kernel
                                                   omega
  have k2 : (y * v).natAbs < 2 ^ 240 := by have : (2 : Nat) ^ 120 < 2 ^ 240 := by decide +kernel
                                           omega
  have key : frD (x * v + u * y) (y * v) = frD z z' := by
    unfold frD
    have : fr (x * v + u * y) (y * v) = fr z z' := by
      refine fr_eq hp hz ?_
      have hbf : b * f ≠ 0 := by have := Int.mul_pos hb hf; omega
      refine Int.eq_of_mul_eq_mul_right hbf ?_
      grind
    rw [this]
  simp [M__law_plus, B__law_plus, env0, (sm60 s1).mul, (sm60 s3).mul, (sm60 s2).mul, m_lfraction hp k1 k2, key]
theorem l_by {d e : D} {a b c f z z' : Int} (h1 : Fr d a b) (h2 : Fr e c f) (hb : 0 < b) (hf : 0 < f) (hz : 0 < z') (h : (a * c) * z' = z * (b * f)) : M__law_by [d, e] p = .ok (frD z z') p := by
  obtain ⟨x, y, rfl, y0, e1, s1, s2⟩ := h1
  obtain ⟨u, v, rfl, v0, e2, s3, s4⟩ := h2
  have m1 := mul_lt60 s1 s3
  have m3 := mul_lt60 s2 s4
  have hp := Int.mul_pos y0 v0
  have k0 : (2 : Nat) ^ 120 < 2 ^ 240 := by decide +kernel
  have key : frD (x * u) (y * v) = frD z z' := by
    unfold frD
    have : fr (x * u) (y * v) = fr z z' := by
      refine fr_eq hp hz ?_
      have hbf : b * f ≠ 0 := by have := Int.mul_pos hb hf; omega
      refine Int.eq_of_mul_eq_mul_right hbf ?_
      grind
    rw [this]
  simp [M__law_by, B__law_by, env0, (sm60 s1).mul, (sm60 s2).mul, m_lfraction hp (Nat.lt_trans m1 k0) (Nat.lt_trans m3 k0), key]
end
end VL

namespace VL
open PySem PySem.Spec PyProof.Rows L2 LamX
/-! ### a small vat, weights, a share; a beat that is not rounded -/
structure Sv where
  (k u s a b : Int)
  k0 : 0 ≤ k
  k1 : k ≤ 3
  u0 : 1 ≤ u
  u1 : u ≤ 3
  s0 : -2 ≤ s
  s1 : s ≤ 2
  a0 : -3 ≤ a
  a1 : a ≤ 0
  ab : a ≤ b
  b1 : b ≤ 6
def Sv.d (V : Sv) : D := .tup [.int V.k, .int V.u, .int V.s, .tup [.int (-20), .int 20], .tup [.int V.a, .int V.b]]
structure Wg where
  (e w c h : Int)
  e0 : -4 ≤ e
  e1 : e ≤ 4
  w0 : -4 ≤ w
  w1 : w ≤ 4
  c0 : -4 ≤ c
  c1 : c ≤ 4
  h0 : 1 ≤ h
  h1 : h ≤ 4
def Wg.d (W : Wg) : D := .tup [.int W.e, .int W.w, .int W.c]
section
variable (V : Sv) (W : Wg) {p : P3}
@[simp] theorem Sv.ix0 : D.ix V.d (.int 0) = some (.int V.k) := by simp [Sv.d]
@[simp] theorem Sv.ix1 : D.ix V.d (.int 1) = some (.int V.u) := by simp [Sv.d]
@[simp] theorem Sv.ix2 : D.ix V.d (.int 2) = some (.int V.s) := by simp [Sv.d]
@[simp] theorem Sv.ix4 : D.ix V.d (.int 4) = some (.tup [.int V.a, .int V.b]) := by simp [Sv.d]
@[simp] theorem Wg.ix0 : D.ix W.d (.int 0) = some (.int W.e) := by simp [Wg.d]
@[simp] theorem Wg.ix1 : D.ix W.d (.int 1) = some (.int W.w) := by simp [Wg.d]
@[simp] theorem Wg.ix2 : D.ix W.d (.int 2) = some (.int W.c) := by simp [Wg.d]
/-- what is led: level, sum, last error, each times a power of q -/
abbrev Y3 := Int × Int × Int
def q33 : Int := V.u * W.h
def dd (t l : Int) : Int := if V.s * W.w = 0 then 0 else t - l
def look (y : Y3) : Int := if V.s * W.w = 0 then -(W.e + W.c) * y.1 - W.c * y.2.2 else -(W.e + W.w + W.c) * y.1 + W.w * y.2.1 - W.c * y.2.2
def nx33 (y : Y3) : Y3 := (V.k * W.h * y.1 + V.s * V.u * look V W y, q33 V W * dd V W y.2.1 y.1, -(q33 V W) * y.1)
def ySm (n : Nat) (y : Y3) : Prop := y.1.natAbs ≤ n ∧ y.2.1.natAbs ≤ n ∧ y.2.2.natAbs ≤ n
theorem bm {x y : Int} {m n : Nat} (hx : x.natAbs ≤ m) (hy : y.natAbs ≤ n) : (x * y).natAbs ≤ m * n := by
  rw [Int.natAbs_mul]; exact Nat.mul_le_mul hx hy
theorem q33_pos : 1 ≤ q33 V W ∧ q33 V W ≤ 12 := by
  unfold q33
  obtain ⟨k, u, s, a, b, _, _, u0, u1, _, _, _, _, _, _⟩ := V
  obtain ⟨e, w, c, h, _, _, _, _, _, _, h0, h1⟩ := W
  simp only
  have h3 : u = 1 ∨ u = 2 ∨ u = 3 := by omega
  rcases h3 with rfl | rfl | rfl <;> omega
theorem look_le {n : Nat} {y : Y3} (h : ySm n y) : (look V W y).natAbs ≤ 20 * n := by
  obtain ⟨h1, h2, h3⟩ := h
  have e0 := W.e0; have e1 := W.e1; have w0 := W.w0; have w1 := W.w1; have c0 := W.c0; have c1 := W.c1
  unfold look
  split
  · have := bm (x := -(W.e + W.c)) (m := 8) (by omega) h1
    have := bm (x := W.c) (m := 4) (by omega) h3
    omega
  · have := bm (x := -(W.e + W.w + W.c)) (m := 12) (by omega) h1
    have := bm (x := W.c) (m := 4) (by omega) h3
    have := bm (x := W.w) (m := 4) (by omega) h2
    omega
theorem nx_le {n : Nat} {y : Y3} (h : ySm n y) : ySm (132 * n) (nx33 V W y) := by
  have hl := look_le V W h
  obtain ⟨h1, h2, h3⟩ := h
  obtain ⟨q1, q2⟩ := q33_pos V W
  have k0 := V.k0; have k1 := V.k1; have u0 := V.u0; have u1 := V.u1; have s0 := V.s0; have s1 := V.s1; have hh0 := W.h0; have hh1 := W.h1
  have a1 := bm (x := V.k) (y := W.h) (m := 3) (n := 4) (by omega) (by omega)
  have a2 := bm (x := V.s) (y := V.u) (m := 2) (n := 3) (by omega) (by omega)
  have a3 := bm a1 h1
  have a4 := bm a2 hl
  have a5 := bm (x := -(q33 V W)) (m := 12) (by omega) h1
  have a6 : (dd V W y.2.1 y.1).natAbs ≤ 2 * n := by unfold dd; split <;> omega
  have a7 := bm (x := q33 V W) (m := 12) (by omega) a6
  refine ⟨?_, ?_, ?_⟩
  · show (V.k * W.h * y.1 + V.s * V.u * look V W y).natAbs ≤ _
    omega
  · show (q33 V W * dd V W y.2.1 y.1).natAbs ≤ _
    omega
  · show (-(q33 V W) * y.1).natAbs ≤ _
    omega
theorem Fr.neg {x y a b : Int} (h : Fr (.tup [.int x, .int y]) a b) : Fr (.tup [.int (-x), .int y]) (-a) b := by
  obtain ⟨x', y', e, y0, c, s1, s2⟩ := h
  cases e
  exact ⟨_, _, rfl, y0, by rw [Int.neg_mul, Int.neg_mul, c], by omega, s2⟩
theorem Fr.abs {x y a b : Int} (h : Fr (.tup [.int x, .int y]) a b) (hb : 0 < b) : Fr (.tup [.int (if x < 0 then -x else x), .int y]) (if a < 0 then -a else a) b := by
  obtain ⟨x', y', e, y0, c, s1, s2⟩ := h
  cases e
  refine ⟨_, _, rfl, y0, ?_, by split <;> omega, s2⟩
  by_cases hx : x < 0
  · have : x * b < 0 := Int.mul_neg_of_neg_of_pos hx hb
    have ha : a < 0 := by
      by_cases ha : a < 0
      · exact ha
      · have := Int.mul_nonneg (show 0 ≤ a by omega) (Int.le_of_lt y0); omega
    rw [if_pos hx, if_pos ha, Int.neg_mul, Int.neg_mul, c]
  · have : 0 ≤ x * b := Int.mul_nonneg (by omega) (Int.le_of_lt hb)
    have ha : ¬ a < 0 := by
      intro ha
      have := Int.mul_neg_of_neg_of_pos ha y0
      omega
    rw [if_neg hx, if_neg ha, c]
theorem Fr.sc {d : D} {a b c : Int} (h : Fr d a b) : Fr d (c * a) (b * c) := by
  obtain ⟨x, y, rfl, y0, e, s1, s2⟩ := h
  refine ⟨x, y, rfl, y0, ?_, s1, s2⟩
  grind
theorem Fr.zero (b : Int) : Fr (.tup [.int 0, .int 1]) 0 b := ⟨0, 1, rfl, by decide, by omega, by decide, by decide⟩
/-- a beat -/
theorem m_beat {d1 d2 d3 : D} {y : Y3} {Q : Int} (h1 : Fr d1 y.1 Q) (h2 : Fr d2 y.2.1 Q) (h3 : Fr d3 y.2.2 Q) (hq : 0 < Q) (hQ : Q < 2 ^ 40) (hy : ySm (2 ^ 40) y) :
    ∃ d2' d3', M__law_beat [V.d, W.d, .int W.h, .tup [d1, d2, d3]] p = .ok (.tup [.tup [frD (nx33 V W y).1 (Q * q33 V W), d2', d3'], frD (look V W y) (W.h * Q)]) p ∧ Fr d2' (nx33 V W y).2.1 (Q * q33 V W) ∧ Fr d3' (nx33 V W y).2.2 (Q * q33 V W) := by
  obtain ⟨l, t, la⟩ := y
  have hlk := look_le V W hy
  have hnx := nx_le V W hy
  obtain ⟨y1, y2, y3⟩ := hy
  simp only at h1 h2 h3 y1 y2 y3
  obtain ⟨q1, q2⟩ := q33_pos V W
  have k0 := V.k0; have k1 := V.k1; have u0 := V.u0; have u1 := V.u1; have s0 := V.s0; have s1 := V.s1; have hh0 := W.h0; have hh1 := W.h1
  have e0 := W.e0; have e1 := W.e1; have w0 := W.w0; have w1 := W.w1; have c0 := W.c0; have c1 := W.c1
  obtain ⟨x1, z1, rfl, _⟩ := id h1.ex
  obtain ⟨x3, z3, rfl, _⟩ := id h3.ex
  have g1 := h1.neg
  have g3 := h3.neg
  have hhQ : 0 < W.h * Q := Int.mul_pos (by omega) hq
  have bhQ : (W.h * Q).natAbs ≤ 4 * 2 ^ 40 := bm (by omega) (by omega)
  have bl1 := bm (x := W.e) (y := -l) (m := 4) (n := 2 ^ 40) (by omega) (by omega)
  -- new
  obtain ⟨nw, enw, fnw⟩ : ∃ nw, (if V.s * W.w = 0 then Res.ok (D.tup [.int 0, .int 1]) p else M__law_plus [d2, .tup [.int (-x1), .int z1]] p) = .ok nw p ∧ Fr nw (dd V W t l) Q := by
    unfold dd
    by_cases hs : V.s * W.w = 0
    · rw [if_pos hs, if_pos hs]
      exact ⟨_, rfl, Fr.zero _⟩
    · rw [if_neg hs, if_neg hs]
      exact ⟨_, l_plus h2 g1 hq hq hq (by grind), Fr.of hq (by omega) (by omega)⟩
  have hdd : (dd V W t l).natAbs ≤ 2 * 2 ^ 40 := by unfold dd; split <;> omega
  have ech : M__law_plus [.tup [.int (-x1), .int z1], .tup [.int (-x3), .int z3]] p = .ok (frD (-l - la) Q) p := l_plus g1 g3 hq hq hq (by grind)
  have fch : Fr (frD (-l - la) Q) (-l - la) Q := Fr.of hq (by omega) (by omega)
  have fe : Fr (.tup [.int W.e, .int W.h]) W.e W.h := Fr.raw (by omega) (by omega) (by omega)
  have fw : Fr (.tup [.int W.w, .int W.h]) W.w W.h := Fr.raw (by omega) (by omega) (by omega)
  have fc : Fr (.tup [.int W.c, .int W.h]) W.c W.h := Fr.raw (by omega) (by omega) (by omega)
  have hh : 0 < W.h := by omega
  have b1 := l_by (p := p) (z := W.e * -l) fe g1 hh hq hhQ rfl
  have b2 := l_by (p := p) (z := W.w * dd V W t l) fw fnw hh hq hhQ rfl
  have b3 := l_by (p := p) (z := W.c * (-l - la)) fc fch hh hq hhQ rfl
  have bb1 := bm (x := W.e) (y := -l) (m := 4) (n := 2 ^ 40) (by omega) (by omega)
  have bb2 := bm (x := W.w) (m := 4) (by omega) hdd
  have bb3 := bm (x := W.c) (y := -l - la) (m := 4) (n := 2 * 2 ^ 40) (by omega) (by omega)
  have fb1 : Fr (frD (W.e * -l) (W.h * Q)) (W.e * -l) (W.h * Q) := Fr.of hhQ (by omega) (by omega)
  have fb2 : Fr (frD (W.w * dd V W t l) (W.h * Q)) (W.w * dd V W t l) (W.h * Q) := Fr.of hhQ (by omega) (by omega)
  have fb3 : Fr (frD (W.c * (-l - la)) (W.h * Q)) (W.c * (-l - la)) (W.h * Q) := Fr.of hhQ (by omega) (by omega)
  have p1 : M__law_plus [.tup [.int 0, .int 1], frD (W.e * -l) (W.h * Q)] p = .ok (frD (W.e * -l) (W.h * Q)) p := l_plus (Fr.zero 1) fb1 (by decide) hhQ hhQ (by grind)
  have p2 : M__law_plus [frD (W.e * -l) (W.h * Q), frD (W.w * dd V W t l) (W.h * Q)] p = .ok (frD (W.e * -l + W.w * dd V W t l) (W.h * Q)) p := l_plus fb1 fb2 hhQ hhQ hhQ (by grind)
  have fp2 : Fr (frD (W.e * -l + W.w * dd V W t l) (W.h * Q)) (W.e * -l + W.w * dd V W t l) (W.h * Q) := Fr.of hhQ (by omega) (by omega)
  have lk : W.e * -l + W.w * dd V W t l + W.c * (-l - la) = look V W (l, t, la) := by
    unfold dd look
    split <;> grind
  have p3 : M__law_plus [frD (W.e * -l + W.w * dd V W t l) (W.h * Q), frD (W.c * (-l - la)) (W.h * Q)] p = .ok (frD (look V W (l, t, la)) (W.h * Q)) p := l_plus fp2 fb3 hhQ hhQ hhQ (by rw [← lk]; grind)
  have flk : Fr (frD (look V W (l, t, la)) (W.h * Q)) (look V W (l, t, la)) (W.h * Q) := Fr.of hhQ (by omega) (by omega)
  have fk : Fr (.tup [.int V.k, .int V.u]) V.k V.u := Fr.raw (by omega) (by omega) (by omega)
  have fs : Fr (.tup [.int V.s, .int 1]) V.s 1 := Fr.raw (by omega) (by omega) (by omega)
  have huQ : 0 < V.u * Q := Int.mul_pos (by omega) hq
  have buQ : (V.u * Q).natAbs ≤ 3 * 2 ^ 40 := bm (by omega) (by omega)
  have b4 := l_by (p := p) (z := V.k * l) fk h1 (by omega) hq huQ rfl
  have b5 := l_by (p := p) (z := V.s * look V W (l, t, la)) (z' := W.h * Q) fs flk (by decide) hhQ hhQ (by grind)
  have bb4 := bm (x := V.k) (m := 3) (by omega) y1
  have bb5 := bm (x := V.s) (m := 2) (by omega) hlk
  have fb4 : Fr (frD (V.k * l) (V.u * Q)) (V.k * l) (V.u * Q) := Fr.of huQ (by omega) (by omega)
  have fb5 : Fr (frD (V.s * look V W (l, t, la)) (W.h * Q)) (V.s * look V W (l, t, la)) (W.h * Q) := Fr.of hhQ (by omega) (by omega)
  have hqQ : 0 < Q * q33 V W := Int.mul_pos hq (by omega)
  have p4 : M__law_plus [frD (V.k * l) (V.u * Q), frD (V.s * look V W (l, t, la)) (W.h * Q)] p = .ok (frD (nx33 V W (l, t, la)).1 (Q * q33 V W)) p := by
    refine l_plus fb4 fb5 huQ hhQ hqQ ?_
    show _ = (V.k * W.h * l + V.s * V.u * look V W (l, t, la)) * _
    unfold q33
    grind
  refine ⟨nw, .tup [.int (-x1), .int z1], ?_, ?_, ?_⟩
  · have sm1 : Sm V.s := by unfold Sm; omega
    have z2 : zip2On [W.d, .tup [.tup [.int (-x1), .int z1], nw, frD (-l - la) Q]] p = .ok [.tup [.int W.e, .tup [.int (-x1), .int z1]], .tup [.int W.w, nw], .tup [.int W.c, frD (-l - la) Q]] p := zip2On_ok (xs := [.int W.e, .int W.w, .int W.c]) (ys := [.tup [.int (-x1), .int z1], nw, frD (-l - la) Q]) rfl rfl (by show 3 ≤ sizeLine; simp)
    by_cases hs : V.s * W.w = 0
    · rw [if_pos hs] at enw
      cases enw
      simp [M__law_beat, B__law_beat, env0, sm1.mul, hs, ech, z2, forL, b1, b2, b3, p1, p2, p3, b4, b5, p4]
    · rw [if_neg hs] at enw
      simp [M__law_beat, B__law_beat, env0, sm1.mul, hs, enw, ech, z2, forL, b1, b2, b3, p1, p2, p3, b4, b5, p4]
  · have := fnw.sc (c := q33 V W)
    exact this
  · have := g1.sc (c := q33 V W)
    show Fr _ (-(q33 V W) * l) _
    rw [Int.neg_mul, ← Int.mul_neg]
    exact this
end
end VL

namespace VL
open PySem PySem.Spec PyProof.Rows L2 LamX
/-! ### the program's grid and its answers -/
section
variable (V : Sv) (W : Wg) {p : P3}
def ruleD : D := .tup [.int 0, .int W.e, .int W.w, .int W.c, .int W.h, .int 0, .tup [.int 0, .int 0]]
theorem m_ruleof : M_rule_of [W.d, .int W.h] p = .ok (ruleD W) p := by
  simp [M_rule_of, B_rule_of, env0, Wg.d, ruleD]
theorem m_lrule : M__law_rule [W.d, .int W.h] p = .ok (ruleD W) p := by
  simp [M__law_rule, B__law_rule, env0, Wg.d, ruleD, D.add]
def lv33 : Int := V.k * W.h - V.s * (W.e + W.w + W.c) * V.u
def rowsL : List (List Int) := if V.s * W.w = 0 then [[lv33 V W, -V.s * W.c * V.u], [-(q33 V W), 0]]
  else [[lv33 V W, V.s * W.w * V.u, -V.s * W.c * V.u], [-(q33 V W), q33 V W, 0], [-(q33 V W), 0, 0]]
def gridD : D := .tup [mD (rowsL V W), .int (q33 V W)]
def many33 : Nat := if V.s * W.w = 0 then 2 else 3
theorem Sv.sms : Sm V.s := by have := V.s0; have := V.s1; unfold Sm; omega
theorem Sv.smk : Sm V.k := by have := V.k0; have := V.k1; unfold Sm; omega
theorem Sv.smu : Sm V.u := by have := V.u0; have := V.u1; unfold Sm; omega
theorem m_grid : M_grid_by [V.d, ruleD W] p = .ok (gridD V W) p := by
  have c1 : cutL [D.int V.k, D.int V.u, D.int V.s, D.tup [.int (-20), .int 20], D.tup [.int V.a, .int V.b]] none (some 3) = [.int V.k, .int V.u, .int V.s] := rfl
  have c2 : cutL [D.int 0, D.int W.e, D.int W.w, D.int W.c, D.int W.h, D.int 0, D.tup [.int 0, .int 0]] (some 1) (some 5) = [.int W.e, .int W.w, .int W.c, .int W.h] := rfl
  have s1 := V.sms
  have s2 := V.smk
  have s3 := V.smu
  have s4 : Sm (-V.s) := by have := V.s0; have := V.s1; unfold Sm; omega
  have e : V.d = .tup [.int V.k, .int V.u, .int V.s, .tup [.int (-20), .int 20], .tup [.int V.a, .int V.b]] := rfl
  by_cases h : V.s * W.w = 0
  · rw [e]
    simp [M_grid_by, B_grid_by, env0, ruleD, c1, c2, s1.mul, s2.mul, s3.mul, s3.mul', s4.mul, h, gridD, rowsL, lv33, q33, mD, rD]
  · rw [e]
    simp [M_grid_by, B_grid_by, env0, ruleD, c1, c2, s1.mul, s2.mul, s3.mul, s3.mul', s4.mul, h, gridD, rowsL, lv33, q33, mD, rD]
def vec (y : Y3) : List Int := if V.s * W.w = 0 then [y.1, y.2.2] else [y.1, y.2.1, y.2.2]
theorem lv_abs : (lv33 V W).natAbs ≤ 84 := by
  have e0 := W.e0; have e1 := W.e1; have w0 := W.w0; have w1 := W.w1; have c0 := W.c0; have c1 := W.c1; have k0 := V.k0; have k1 := V.k1; have u0 := V.u0; have u1 := V.u1; have s0 := V.s0; have s1 := V.s1; have hh0 := W.h0; have hh1 := W.h1
  have a1 := bm (x := V.k) (y := W.h) (m := 3) (n := 4) (by omega) (by omega)
  have a2 := bm (x := V.s) (y := W.e + W.w + W.c) (m := 2) (n := 12) (by omega) (by omega)
  have a3 := bm (y := V.u) (n := 3) a2 (by omega)
  unfold lv33
  omega
theorem sw_abs : (V.s * W.w * V.u).natAbs ≤ 84 ∧ (-V.s * W.c * V.u).natAbs ≤ 84 := by
  have w0 := W.w0; have w1 := W.w1; have c0 := W.c0; have c1 := W.c1; have u0 := V.u0; have u1 := V.u1; have s0 := V.s0; have s1 := V.s1
  have a2 := bm (x := V.s) (y := W.w) (m := 2) (n := 4) (by omega) (by omega)
  have a3 := bm (y := V.u) (n := 3) a2 (by omega)
  have a4 := bm (x := -V.s) (y := W.c) (m := 2) (n := 4) (by omega) (by omega)
  have a5 := bm (y := V.u) (n := 3) a4 (by omega)
  omega
theorem rows_sq : Sq (many33 V W) (rowsL V W) := by
  unfold many33 rowsL
  split
  · exact ⟨rfl, by simp⟩
  · exact ⟨rfl, by simp⟩
theorem rows_abs : ∀ r ∈ rowsL V W, ∀ x ∈ r, x.natAbs ≤ 84 := by
  have h1 := lv_abs V W
  obtain ⟨h2, h3⟩ := sw_abs V W
  have h4 := q33_pos V W
  intro r hr x hx
  unfold rowsL at hr
  split at hr
  · simp only [List.mem_cons, List.not_mem_nil, or_false] at hr
    rcases hr with rfl | rfl
    all_goals simp only [List.mem_cons, List.not_mem_nil, or_false] at hx
    · rcases hx with rfl | rfl <;> omega
    · rcases hx with rfl | rfl <;> omega
  · simp only [List.mem_cons, List.not_mem_nil, or_false] at hr
    rcases hr with rfl | rfl | rfl
    all_goals simp only [List.mem_cons, List.not_mem_nil, or_false] at hx
    · rcases hx with rfl | rfl | rfl <;> omega
    · rcases hx with rfl | rfl | rfl <;> omega
    · rcases hx with rfl | rfl | rfl <;> omega
theorem rows_sm : ∀ r ∈ rowsL V W, r.length ≤ 1000 ∧ ∀ x ∈ r, Sm x := fun r hr =>
  ⟨by rw [(rows_sq V W).r r hr]; unfold many33; split <;> omega, fun x hx => by have := rows_abs V W r hr x hx; unfold Sm; omega⟩
theorem vec_nx (y : Y3) : (rowsL V W).map (fun r => dotI r (vec V W y)) = vec V W (nx33 V W y) := by
  unfold rowsL vec
  by_cases h : V.s * W.w = 0
  · simp only [if_pos h, List.map_cons, List.map_nil, dotI, List.zip_cons_cons, List.zip_nil_right, List.sum_cons, List.sum_nil, nx33, look, lv33]
    congr 1
    · grind
    · congr 1
      grind
  · simp only [if_neg h, List.map_cons, List.map_nil, dotI, List.zip_cons_cons, List.zip_nil_right, List.sum_cons, List.sum_nil, nx33, look, lv33, dd]
    congr 1
    · grind
    · congr 1
      · grind
      · congr 1
        grind
def levL : List Int := if V.s * W.w = 0 then [1, 0] else [1, 0, 0]
def lookL : List Int := if V.s * W.w = 0 then [-W.e - W.c, -W.c] else [-W.e - W.w - W.c, W.w, -W.c]
theorem dot_lev (y : Y3) : dotI (levL V W) (vec V W y) = y.1 := by
  unfold levL vec
  by_cases h : V.s * W.w = 0
  · simp [h, dotI]
  · simp [h, dotI]
theorem dot_look (y : Y3) : dotI (lookL V W) (vec V W y) = look V W y := by
  unfold lookL vec look
  by_cases h : V.s * W.w = 0
  · simp only [if_pos h, dotI, List.map_cons, List.map_nil, List.zip_cons_cons, List.zip_nil_right, List.sum_cons, List.sum_nil]
    grind
  · simp only [if_neg h, dotI, List.map_cons, List.map_nil, List.zip_cons_cons, List.zip_nil_right, List.sum_cons, List.sum_nil]
    grind
def yk : Nat → Y3
  | 0 => (1, 0, 0)
  | k + 1 => nx33 V W (yk k)
theorem itM_yk : ∀ k, itM (rowsL V W) (levL V W) k = vec V W (yk V W k)
  | 0 => by unfold itM yk levL vec; rfl
  | k + 1 => by
    unfold itM
    rw [itM_yk k, vec_nx]
    rfl
theorem yk_le : ∀ k, ySm (132 ^ k) (yk V W k)
  | 0 => by unfold yk ySm; decide
  | k + 1 => by
    have := nx_le V W (yk_le k)
    rw [Nat.pow_succ, Nat.mul_comm]
    exact this
def levs (n : Nat) : List Int := (List.range n).map fun k => (yk V W k).1
def looks (n : Nat) : List Int := (List.range n).map fun k => look V W (yk V W k)
theorem ans_lev (n : Nat) : ansL (rowsL V W) (levL V W) (levL V W) n = levs V W n := by
  unfold ansL levs
  exact List.map_congr_left fun k _ => by rw [itM_yk, dot_lev]
theorem ans_look (n : Nat) : ansL (rowsL V W) (levL V W) (lookL V W) n = looks V W n := by
  unfold ansL looks
  exact List.map_congr_left fun k _ => by rw [itM_yk, dot_look]
theorem m_looksof : M_looks_of [V.d, W.d, .int W.h] p = .ok (.tup [rD (levL V W), rD (lookL V W)]) p := by
  have e : W.d = .tup [.int W.e, .int W.w, .int W.c] := rfl
  have hro : ∀ p, M_rule_of [.tup [.int W.e, .int W.w, .int W.c], .int W.h] p = .ok (ruleD W) p := fun p => m_ruleof W
  by_cases h : V.s * W.w = 0
  · have g0 : D.ix (gridD V W) (.int 0) = some (mD (rowsL V W)) := by simp [gridD]
    have gl : dLen [mD (rowsL V W)] = some (.int 2) := by simp [mD, rowsL, h]
    have hi : ir 0 2 = [0, 1] := rfl
    have hr : rgOk 0 2 = true := by decide
    rw [e]
    simp [M_looks_of, B_looks_of, env0, hro, m_grid, g0, gl, hi, hr, lcM_cons, levL, lookL, h, rD]
  · have g0 : D.ix (gridD V W) (.int 0) = some (mD (rowsL V W)) := by simp [gridD]
    have gl : dLen [mD (rowsL V W)] = some (.int 3) := by simp [mD, rowsL, h]
    have hi : ir 0 3 = [0, 1, 2] := rfl
    have hr : rgOk 0 3 = true := by decide
    rw [e]
    simp [M_looks_of, B_looks_of, env0, hro, m_grid, g0, gl, hi, hr, lcM_cons, levL, lookL, h, rD]
end
end VL

namespace VL
open PySem PySem.Spec PyProof.Rows L2 LamX
/-! ### sizes -/
section
variable (V : Sv) (W : Wg) {p : P3}
abbrev ab33 (x : Int) : Int := if x < 0 then -x else x
def sz33 : Int := if ab33 V.b > ab33 V.a then ab33 V.b else ab33 V.a
theorem sz_le : 0 ≤ sz33 V ∧ sz33 V ≤ 6 := by
  have := V.a0; have := V.a1; have := V.ab; have := V.b1
  unfold sz33 ab33
  split <;> split <;> omega
def absL (l : List Int) : List Int := l.map fun x => ab33 x
def sizesD (n : Nat) : D := .tup [frD (hor (q33 V W) (absL (levs V W n)) * sz33 V) (q33 V W ^ (n - 1)), frD (hor (q33 V W) (absL (looks V W n)) * sz33 V) (q33 V W ^ (n - 1) * W.h)]
theorem hor_le {q : Int} {M : Nat} (q0 : 0 ≤ q) (q1 : q ≤ 12) : ∀ (l : List Int), (∀ x ∈ l, x.natAbs ≤ M) → (hor q l).natAbs ≤ M * 13 ^ l.length := by
  intro l
  induction l with
  | nil => intro _; simp [hor]
  | cons x l ih =>
    intro h
    have h1 := ih fun y hy => h y (List.mem_cons_of_mem _ hy)
    have h2 := h x List.mem_cons_self
    rw [hor_cons, List.length_cons, Nat.pow_succ]
    have h3 : (x * q ^ l.length).natAbs ≤ M * 12 ^ l.length := by
      rw [Int.natAbs_mul, Int.natAbs_pow]
      exact Nat.mul_le_mul h2 (Nat.pow_le_pow_left (by omega) _)
    have h4 : M * 12 ^ l.length ≤ M * 13 ^ l.length := Nat.mul_le_mul_left M (Nat.pow_le_pow_left (by decide) _)
    have h5 : M * (13 ^ l.length * 13) = M * 13 ^ l.length * 13 := by rw [Nat.mul_assoc]
    omega
theorem yk_small {k n : Nat} (hk : k < n) (hn : n ≤ 5) : ySm (132 ^ 4) (yk V W k) := by
  obtain ⟨h1, h2, h3⟩ := yk_le V W k
  have : 132 ^ k ≤ 132 ^ 4 := Nat.pow_le_pow_right (by decide) (by omega)
  exact ⟨by omega, by omega, by omega⟩
theorem levs_le {n : Nat} (hn : n ≤ 5) : ∀ x ∈ levs V W n, x.natAbs ≤ 20 * 132 ^ 4 := by
  intro x hx
  obtain ⟨k, hk, rfl⟩ := List.mem_map.mp hx
  have := (yk_small V W (List.mem_range.mp hk) hn).1
  omega
theorem looks_le {n : Nat} (hn : n ≤ 5) : ∀ x ∈ looks V W n, x.natAbs ≤ 20 * 132 ^ 4 := by
  intro x hx
  obtain ⟨k, hk, rfl⟩ := List.mem_map.mp hx
  exact look_le V W (yk_small V W (List.mem_range.mp hk) hn)
theorem ab_abs (x : Int) : (ab33 x).natAbs = x.natAbs := by unfold ab33; split <;> omega
theorem wmul_ab (s x : Int) : wmul (-s) s x = ab33 x * s := by
  unfold wmul ab33
  by_cases h1 : x > 0
  · rw [if_pos h1, if_neg (by omega)]
  · rw [if_neg h1]
    by_cases h2 : x < 0
    · rw [if_pos h2, if_pos h2]
      grind
    · have : x = 0 := by omega
      subst this
      simp
theorem q_pow {n : Nat} (hn : n ≤ 5) : 0 < q33 V W ^ n ∧ (q33 V W ^ n).natAbs ≤ 12 ^ 5 := by
  obtain ⟨q1, q2⟩ := q33_pos V W
  refine ⟨Int.pow_pos (by omega), ?_⟩
  rw [Int.natAbs_pow]
  have h1 : (q33 V W).natAbs ^ n ≤ 12 ^ n := Nat.pow_le_pow_left (by omega) _
  have h2 : 12 ^ n ≤ 12 ^ 5 := Nat.pow_le_pow_right (by decide) hn
  omega
theorem hor_abs {n : Nat} (hn : n ≤ 5) {l : List Int} (hl : l.length = n) (h : ∀ x ∈ l, x.natAbs ≤ 20 * 132 ^ 4) : (hor (q33 V W) (absL l) * sz33 V).natAbs ≤ 6 * (20 * 132 ^ 4 * 13 ^ 5) := by
  obtain ⟨q1, q2⟩ := q33_pos V W
  obtain ⟨s1, s2⟩ := sz_le V
  have h1 := hor_le (q := q33 V W) (M := 20 * 132 ^ 4) (by omega) q2 (absL l) (by
    intro x hx
    obtain ⟨y, hy, rfl⟩ := List.mem_map.mp hx
    rw [ab_abs]
    exact h y hy)
  have h2 : (absL l).length = n := by simp [absL, hl]
  rw [h2] at h1
  have h3 : 20 * 132 ^ 4 * 13 ^ n ≤ 20 * 132 ^ 4 * 13 ^ 5 := Nat.mul_le_mul_left _ (Nat.pow_le_pow_right (by decide) hn)
  have := bm (y := sz33 V) (n := 6) h1 (by omega)
  omega
theorem m_worst {n : Nat} {N : Int} {A : List Int} {l : List Int} (hN : N = n) (hn : n ≤ 5) (hn0 : 0 < n) (hA : A.length ≤ 1000 ∧ ∀ x ∈ A, Sm x) (hl : ansL (rowsL V W) (levL V W) A n = l) (hs : ∀ x ∈ l, x.natAbs ≤ 20 * 132 ^ 4) :
    M_worst_of [gridD V W, rD (levL V W), rD A, .tup [.int (-(sz33 V)), .int (sz33 V)], .int N] p = .ok (.tup [frD (hor (q33 V W) (absL l) * sz33 V) (q33 V W ^ (n - 1)), rD (wsL (-(sz33 V)) (sz33 V) l).reverse]) p := by
  obtain ⟨q1, q2⟩ := q33_pos V W
  obtain ⟨s1, s2⟩ := sz_le V
  have hll : l.length = n := by rw [← hl]; simp [ansL]
  have hm : l.map (wmul (-(sz33 V)) (sz33 V)) = (absL l).map fun x => x * sz33 V := by
    unfold absL
    rw [List.map_map]
    exact List.map_congr_left fun x _ => wmul_ab _ _
  have hb := hor_abs V W hn hll hs
  have hq := q_pow V W (n := n - 1) (by omega)
  have k0 : 6 * (20 * 132 ^ 4 * 13 ^ 5) < 2 ^ 240 := by decide +kernel
  have k1 : 12 ^ 5 < 2 ^ 240 := by decide +kernel
  refine worst_ok (l := l) (fun p => ?_) (fun x hx => by have := hs x hx; unfold Sm; omega) (by omega) fun p => ?_
  · have := answers_ok (p := p) (q := q33 V W) (x := levL V W) (a := A) hN (by omega) (rows_sm V W) hA
    rw [hl] at this
    exact this
  · rw [hm]
    have hlen : ((absL l).map fun x => x * sz33 V).length = n := by simp [absL, hll]
    have hh := hor_mul (q33 V W) (sz33 V) (absL l)
    have := sumof_ok (p := p) (g := mD (rowsL V W)) (q := q33 V W) (l := (absL l).map fun x => x * sz33 V) (by unfold Sm; omega) (by omega) (fun x hx => ?_) (by omega) (by rw [hh]; omega) (by rw [hlen]; omega)
    · rw [hh, hlen] at this
      exact this
    · obtain ⟨y, hy, rfl⟩ := List.mem_map.mp hx
      obtain ⟨z, hz, rfl⟩ := List.mem_map.mp hy
      have h1 := hs z hz
      have := bm (x := ab33 z) (y := sz33 V) (m := 20 * 132 ^ 4) (n := 6) (by rw [ab_abs]; exact h1) (by omega)
      unfold Sm
      omega
theorem lev_sm33 : (levL V W).length ≤ 1000 ∧ ∀ x ∈ levL V W, Sm x := by
  unfold levL
  split
  · refine ⟨by decide, fun x hx => ?_⟩
    simp at hx
    unfold Sm; omega
  · refine ⟨by decide, fun x hx => ?_⟩
    simp at hx
    unfold Sm; omega
theorem look_sm33 : (lookL V W).length ≤ 1000 ∧ ∀ x ∈ lookL V W, Sm x := by
  have e0 := W.e0; have e1 := W.e1; have w0 := W.w0; have w1 := W.w1; have c0 := W.c0; have c1 := W.c1
  unfold lookL
  split
  · refine ⟨by simp, fun x hx => ?_⟩
    simp at hx
    unfold Sm; omega
  · refine ⟨by simp, fun x hx => ?_⟩
    simp at hx
    unfold Sm; omega
theorem m_sizesof {n : Nat} {N : Int} (hN : N = n) (hn : n ≤ 5) (hn0 : 0 < n) : M_sizes_of [V.d, W.d, .int W.h, .int N] p = .ok (sizesD V W n) p := by
  obtain ⟨q1, q2⟩ := q33_pos V W
  have hh0 := W.h0; have hh1 := W.h1
  have w1 : ∀ p, M_worst_of [gridD V W, rD (levL V W), rD (levL V W), .tup [.int (-(sz33 V)), .int (sz33 V)], .int N] p = _ := fun p => m_worst V W (p := p) hN hn hn0 (lev_sm33 V W) (ans_lev V W n) (levs_le V W hn)
  have w2 : ∀ p, M_worst_of [gridD V W, rD (levL V W), rD (lookL V W), .tup [.int (-(sz33 V)), .int (sz33 V)], .int N] p = _ := fun p => m_worst V W (p := p) hN hn hn0 (look_sm33 V W) (ans_look V W n) (looks_le V W hn)
  have hb := hor_abs V W (n := n) hn (l := looks V W n) (by simp [looks]) (looks_le V W hn)
  have hq := q_pow V W (n := n - 1) (by omega)
  have fp := fr_pos (a := hor (q33 V W) (absL (looks V W n)) * sz33 V) hq.1
  have fa := fr_abs (a := hor (q33 V W) (absL (looks V W n)) * sz33 V) hq.1
  have fc := fr_cross (a := hor (q33 V W) (absL (looks V W n)) * sz33 V) hq.1
  have hfin : ∀ p, M_fraction [.int (fr (hor (q33 V W) (absL (looks V W n)) * sz33 V) (q33 V W ^ (n - 1))).1, .int ((fr (hor (q33 V W) (absL (looks V W n)) * sz33 V) (q33 V W ^ (n - 1))).2 * W.h)] p = .ok (frD (hor (q33 V W) (absL (looks V W n)) * sz33 V) (q33 V W ^ (n - 1) * W.h)) p := by
    intro p
    generalize fr (hor (q33 V W) (absL (looks V W n)) * sz33 V) (q33 V W ^ (n - 1)) = f at *
    generalize hor (q33 V W) (absL (looks V W n)) * sz33 V = X at *
    generalize q33 V W ^ (n - 1) = Y at *
    have k0 : 6 * (20 * 132 ^ 4 * 13 ^ 5) < 2 ^ 240 := by decide +kernel
    have k1 : 12 ^ 5 * 4 < 2 ^ 240 := by decide +kernel
    have m1 := bm (x := f.2) (y := W.h) (m := 12 ^ 5) (n := 4) (by omega) (by omega)
    have p1 : 0 < f.2 * W.h := Int.mul_pos fp.1 (by omega)
    rw [m_fraction p1 (by omega) (by omega)]
    have e1 : f.1 * (Y * W.h) = X * (f.2 * W.h) := by rw [← Int.mul_assoc, fc, Int.mul_assoc]
    have : frD f.1 (f.2 * W.h) = frD X (Y * W.h) := by
      unfold frD
      rw [fr_eq p1 (Int.mul_pos hq.1 (by omega)) e1]
    rw [this]
  have i3 : ∀ (f : Int × Int), D.mul (.int f.2) (.int W.h) = some (.int (f.2 * W.h)) := fun f => (show Sm W.h by unfold Sm; omega).mul'
  have g0 : D.ix (gridD V W) (.int 0) = some (mD (rowsL V W)) := by simp [gridD]
  obtain ⟨M, hdl, hM, hpush⟩ : ∃ M : Int, dLen [mD (rowsL V W)] = some (.int M) ∧ rgOk 0 M = true ∧ D.tup (List.map (fun x => D.int (if x = 0 then 1 else 0)) (ir 0 M)) = rD (levL V W) := by
    by_cases h : V.s * W.w = 0
    · refine ⟨2, by simp [mD, rowsL, h], by decide, ?_⟩
      have hi : ir 0 2 = [0, 1] := rfl
      rw [hi]
      simp [levL, h, rD]
    · refine ⟨3, by simp [mD, rowsL, h], by decide, ?_⟩
      have hi : ir 0 3 = [0, 1, 2] := rfl
      rw [hi]
      simp [levL, h, rD]
  have hsz : (if (if V.a < 0 then -V.a else V.a) < (if V.b < 0 then -V.b else V.b) then (if V.b < 0 then -V.b else V.b) else (if V.a < 0 then -V.a else V.a)) = sz33 V := rfl
  have cx : ∀ (f : Int × Int), D.ix (.tup [.int f.1, .int f.2]) (.int 1) = some (.int f.2) := fun f => by simp
  simp only [M_sizes_of, B_sizes_of, ev_callF, List.length_cons, List.length_nil, Nat.reduceAdd, if_true]
  simp [env0, m_ruleof, m_grid, g0, hdl, hM, hpush, m_looksof, hsz, lcM_cons, w1, w2, frD, i3, hfin]
  simp [sizesD, frD]
end
end VL

namespace VL
open PySem PySem.Spec PyProof.Rows L2 LamX
/-! ### the law's sizes -/
section
variable (V : Sv) (W : Wg) {p : P3}
theorem frD_zero {b : Int} (hb : 0 < b) : frD 0 b = .tup [.int 0, .int 1] := by
  have : frD 0 b = frD 0 1 := by
    unfold frD
    rw [fr_eq (a := 0) (b := b) (c := 0) (d := 1) hb (by omega) (by omega)]
  rw [this]
  rfl
theorem hor_lev {n : Nat} (hn : n ≤ 5) : (q33 V W * hor (q33 V W) (absL (levs V W n))).natAbs ≤ 12 * (20 * 132 ^ 4 * 13 ^ 5) ∧ (q33 V W * hor (q33 V W) (absL (looks V W n))).natAbs ≤ 12 * (20 * 132 ^ 4 * 13 ^ 5) := by
  obtain ⟨q1, q2⟩ := q33_pos V W
  have key : ∀ l : List Int, l.length = n → (∀ x ∈ l, x.natAbs ≤ 20 * 132 ^ 4) → (q33 V W * hor (q33 V W) (absL l)).natAbs ≤ 12 * (20 * 132 ^ 4 * 13 ^ 5) := fun l hl h => by
    have h1 := hor_le (q := q33 V W) (M := 20 * 132 ^ 4) (by omega) q2 (absL l) (by
      intro x hx
      obtain ⟨y, hy, rfl⟩ := List.mem_map.mp hx
      rw [ab_abs]
      exact h y hy)
    have h2 : (absL l).length = n := by simp [absL, hl]
    rw [h2] at h1
    have h3 : 20 * 132 ^ 4 * 13 ^ n ≤ 20 * 132 ^ 4 * 13 ^ 5 := Nat.mul_le_mul_left _ (Nat.pow_le_pow_right (by decide) hn)
    exact bm (by omega) (by omega)
  exact ⟨key _ (by simp [levs]) (levs_le V W hn), key _ (by simp [looks]) (looks_le V W hn)⟩
theorem m_lsizes {n : Nat} {N : Int} (hN : N = n) (hn : n ≤ 5) (hn0 : 0 < n) : M__law_sizes [V.d, W.d, .int W.h, .int N] p = .ok (sizesD V W n) p := by
  obtain ⟨q1, q2⟩ := q33_pos V W
  obtain ⟨s1, s2⟩ := sz_le V
  have hh0 := W.h0; have hh1 := W.h1
  have hr : rgOk 0 N = true := by rw [hN]; exact rg_n (by omega)
  have hsz : (if (if V.a < 0 then -V.a else V.a) < (if V.b < 0 then -V.b else V.b) then (if V.b < 0 then -V.b else V.b) else (if V.a < 0 then -V.a else V.a)) = sz33 V := rfl
  refine eq_of_wp ?_
  show (callF 11 4 B__law_sizes [V.d, W.d, .int W.h, .int N] p).wp _
  rw [callF_ok (ds := [V.d, W.d, .int W.h, .int N]) (np := 4) rfl]
  simp [B__law_sizes, env0, hr, hsz]
  refine forL_rng (fun k env => ∃ d1 d2 d3 o8 o9 o10, env = [some (.p V.d), some (.p W.d), some (.p (.int W.h)), some (.p (.int N)), some (.p (.int (sz33 V))), some (.p (.tup [d1, d2, d3])),
    some (.p (frD (q33 V W * hor (q33 V W) (absL (levs V W k))) (q33 V W ^ k))), some (.p (frD (q33 V W * hor (q33 V W) (absL (looks V W k))) (W.h * q33 V W ^ k))), o8, o9, o10] ∧ Fr d1 (yk V W k).1 (q33 V W ^ k) ∧ Fr d2 (yk V W k).2.1 (q33 V W ^ k) ∧ Fr d3 (yk V W k).2.2 (q33 V W ^ k)) n hN _ ?_ ?_ ?_
  · refine ⟨.tup [.int 1, .int 1], .tup [.int 0, .int 1], .tup [.int 0, .int 1], none, none, none, ?_, by rw [Int.pow_zero]; exact Fr.raw (a := 1) (b := 1) (by decide) (by decide) (by decide), Fr.zero _, Fr.zero _⟩
    have e1 : q33 V W * hor (q33 V W) (absL (levs V W 0)) = 0 := by simp [levs, absL, hor]
    have e2 : q33 V W * hor (q33 V W) (absL (looks V W 0)) = 0 := by simp [looks, absL, hor]
    rw [e1, e2, frD_zero (by rw [Int.pow_zero]; decide), frD_zero (by rw [Int.pow_zero]; omega)]
  · rintro e ⟨d1, d2, d3, o8, o9, o10, rfl, -, -, -⟩
    have hq := q_pow V W hn
    obtain ⟨b1, b2⟩ := hor_lev V W hn
    have hp : q33 V W ^ n = q33 V W ^ (n - 1) * q33 V W := by
      rw [← Int.pow_succ]
      congr 1
      omega
    have hq1 := q_pow V W (n := n - 1) (by omega)
    have bh := bm (x := W.h) (m := 4) (by omega) hq.2
    have hhq : 0 < W.h * q33 V W ^ n := Int.mul_pos (by omega) hq.1
    have f1 : Fr (frD (q33 V W * hor (q33 V W) (absL (levs V W n))) (q33 V W ^ n)) _ _ := Fr.of hq.1 (by omega) (by omega)
    have f2 : Fr (frD (q33 V W * hor (q33 V W) (absL (looks V W n))) (W.h * q33 V W ^ n)) _ _ := Fr.of hhq (by omega) (by omega)
    have fs : Fr (.tup [.int (sz33 V), .int 1]) (sz33 V) 1 := Fr.raw (by decide) (by omega) (by decide)
    have e1 := l_by (p := p) (z := hor (q33 V W) (absL (levs V W n)) * sz33 V) (z' := q33 V W ^ (n - 1)) fs f1 (by decide) hq.1 hq1.1 (by rw [hp]; grind)
    have e2 := l_by (p := p) (z := hor (q33 V W) (absL (looks V W n)) * sz33 V) (z' := q33 V W ^ (n - 1) * W.h) fs f2 (by decide) hhq (Int.mul_pos hq1.1 (by omega)) (by rw [hp]; grind)
    simp [e1, e2, sizesD]
  · rintro k K env hK hk ⟨d1, d2, d3, o8, o9, o10, rfl, f1, f2, f3⟩
    refine ⟨_, rfl, ?_⟩
    have hq := q_pow V W (n := k) (by omega)
    obtain ⟨b1, b2⟩ := hor_lev V W (n := k) (by omega)
    have hys := yk_small V W hk hn
    have hys2 : ySm (2 ^ 40) (yk V W k) := by
      obtain ⟨y1, y2, y3⟩ := hys
      refine ⟨by omega, by omega, by omega⟩
    obtain ⟨d2', d3', eb, g2, g3⟩ := m_beat V W (p := p) f1 f2 f3 hq.1 (by omega) hys2
    have hlk := look_le V W hys
    obtain ⟨x, z, rfl, -⟩ := id f1.ex
    have fa := f1.abs hq.1
    have bh := bm (x := W.h) (m := 4) (by omega) hq.2
    have hhq : 0 < W.h * q33 V W ^ k := Int.mul_pos (by omega) hq.1
    have fl : Fr (frD (look V W (yk V W k)) (W.h * q33 V W ^ k)) _ _ := Fr.of hhq (by omega) (by omega)
    have fla := Fr.abs (x := (fr (look V W (yk V W k)) (W.h * q33 V W ^ k)).1) (y := (fr (look V W (yk V W k)) (W.h * q33 V W ^ k)).2) fl hhq
    have c1 : Fr (frD (q33 V W * hor (q33 V W) (absL (levs V W k))) (q33 V W ^ k)) _ _ := Fr.of hq.1 (by omega) (by omega)
    have c2 : Fr (frD (q33 V W * hor (q33 V W) (absL (looks V W k))) (W.h * q33 V W ^ k)) _ _ := Fr.of hhq (by omega) (by omega)
    have hp : q33 V W ^ (k + 1) = q33 V W ^ k * q33 V W := Int.pow_succ _ _
    have a1 : hor (q33 V W) (absL (levs V W (k + 1))) = hor (q33 V W) (absL (levs V W k)) * q33 V W + ab33 (yk V W k).1 := by
      rw [← hor_snoc]; simp [levs, absL, List.range_succ]
    have a2 : hor (q33 V W) (absL (looks V W (k + 1))) = hor (q33 V W) (absL (looks V W k)) * q33 V W + ab33 (look V W (yk V W k)) := by
      rw [← hor_snoc]; simp [looks, absL, List.range_succ]
    have hq1 : 0 < q33 V W ^ (k + 1) := Int.pow_pos (by omega)
    have p1 := l_plus (p := p) (z := q33 V W * hor (q33 V W) (absL (levs V W (k + 1)))) (z' := q33 V W ^ (k + 1)) c1 fa hq.1 hq.1 hq1 (by rw [a1, hp]; grind)
    have p2 := l_plus (p := p) (z := q33 V W * hor (q33 V W) (absL (looks V W (k + 1)))) (z' := W.h * q33 V W ^ (k + 1)) c2 fla hhq hhq (Int.mul_pos (by omega) hq1) (by rw [a2, hp]; grind)
    have fn : Fr (frD (nx33 V W (yk V W k)).1 (q33 V W ^ k * q33 V W)) _ _ := Fr.of (Int.mul_pos hq.1 (by omega)) (by have := (nx_le V W hys2).1; omega) (by have := bm hq.2 (show (q33 V W).natAbs ≤ 12 by omega); omega)
    have ef : ∀ a b, frD a b = .tup [.int (fr a b).1, .int (fr a b).2] := fun _ _ => rfl
    rw [ef (look V W (yk V W k))] at eb
    simp [eb, p1, p2]
    rw [hp]
    exact ⟨_, d2', d3', ⟨rfl, rfl, rfl⟩, fn, g2, g3⟩
end
end VL

namespace VL
open PySem PySem.Spec PyProof.Rows L2 LamX
/-! ### does a grid die out: some answer, the same for both -/
section
variable (V : Sv) (W : Wg) {p : P3}
theorem dot_abs {A B : Nat} : ∀ (a b : List Int), (∀ x ∈ a, x.natAbs ≤ A) → (∀ x ∈ b, x.natAbs ≤ B) → (dotI a b).natAbs ≤ a.length * (A * B)
  | [], b, _, _ => by simp [dotI]
  | x :: a, [], _, _ => by simp [dotI]
  | x :: a, y :: b, h1, h2 => by
    have ih := dot_abs a b (fun z hz => h1 z (List.mem_cons_of_mem _ hz)) (fun z hz => h2 z (List.mem_cons_of_mem _ hz))
    have hx := bm (h1 x List.mem_cons_self) (h2 y List.mem_cons_self)
    have e : dotI (x :: a) (y :: b) = x * y + dotI a b := by simp [dotI]
    rw [e, List.length_cons, Nat.succ_mul]
    omega
def Bdd (B : Nat) (R : List (List Int)) : Prop := ∀ r ∈ R, ∀ x ∈ r, x.natAbs ≤ B
theorem ent_abs {m B : Nat} {R : List (List Int)} (h : Bdd B R) (i j : Nat) : (ent R i j).natAbs ≤ B := by
  unfold ent gi gw
  rw [List.getD_eq_getElem?_getD, List.getD_eq_getElem?_getD]
  cases e : R[i]? with
  | none => simp
  | some r =>
    simp only [Option.getD_some]
    cases e2 : r[j]? with
    | none => simp
    | some x => exact h r (List.mem_of_getElem? e) x (List.mem_of_getElem? e2)
theorem mulM_abs {m A B : Nat} {R S : List (List Int)} (hR : Sq m R) (h1 : Bdd A R) (h2 : Bdd B S) : Bdd (m * (A * B)) (mulM m R S) := by
  intro r hr x hx
  obtain ⟨s, hs, rfl⟩ := List.mem_map.mp hr
  obtain ⟨j, hj, rfl⟩ := List.mem_map.mp hx
  have := dot_abs s (col S j) (h1 s hs) (B := B) fun y hy => by
    obtain ⟨t, ht, rfl⟩ := List.mem_map.mp hy
    unfold gi
    rw [List.getD_eq_getElem?_getD]
    cases e2 : t[j]? with
    | none => simp
    | some x => exact h2 t ht x (List.mem_of_getElem? e2)
  rwa [hR.r s hs] at this
theorem sum_abs {B : Nat} : ∀ l : List Int, (∀ x ∈ l, x.natAbs ≤ B) → l.sum.natAbs ≤ l.length * B
  | [], _ => by simp
  | x :: l, h => by
    have ih := sum_abs l fun y hy => h y (List.mem_cons_of_mem _ hy)
    have := h x List.mem_cons_self
    rw [List.sum_cons, List.length_cons, Nat.succ_mul]
    omega
theorem tr_abs {m B : Nat} {R : List (List Int)} (h : Bdd B R) : (trM m R).natAbs ≤ m * B := by
  have := sum_abs (B := B) ((List.range m).map fun i => ent R i i) fun x hx => by
    obtain ⟨i, _, rfl⟩ := List.mem_map.mp hx
    exact ent_abs (m := m) h i i
  simpa [trM] using this
theorem addM_abs {m B C : Nat} {R : List (List Int)} {c : Int} (h : Bdd B R) (hc : c.natAbs ≤ C) : Bdd (B + C) (addM m R c) := by
  intro r hr x hx
  obtain ⟨i, _, rfl⟩ := List.mem_map.mp hr
  obtain ⟨j, _, rfl⟩ := List.mem_map.mp hx
  have h1 := ent_abs (m := m) h i j
  by_cases e : i = j
  · simp only [if_pos e]; omega
  · simp only [if_neg e]; omega
theorem unitM_abs (m : Nat) : Bdd 1 (unitM m) := by
  intro r hr x hx
  obtain ⟨i, _, rfl⟩ := List.mem_map.mp hr
  obtain ⟨j, _, rfl⟩ := List.mem_map.mp hx
  split <;> decide
theorem lrN_abs {m A : Nat} {R : List (List Int)} (hR : Sq m R) (h : Bdd A R) {B : Nat} {k : Nat} (hk : Bdd B (lrH m R k)) : (lrN m R k).natAbs ≤ m * (m * (A * B)) ∧ Bdd (m * (A * B) + m * (m * (A * B))) (lrH m R (k + 1)) := by
  have h1 := mulM_abs hR h hk
  have h2 := tr_abs (m := m) h1
  have h3 : (lrN m R k).natAbs ≤ m * (m * (A * B)) := by
    unfold lrN
    refine Nat.le_trans (fdiv_abs _ _) ?_
    rw [Int.natAbs_neg]
    exact h2
  exact ⟨h3, addM_abs h1 h3⟩
def ownL (m : Nat) (q : Int) (R : List (List Int)) : List Int := ((charL m R).zipIdx).map fun t => t.1 * q ^ t.2
theorem m_lastrow {m : Nat} {R : List (List Int)} (hm0 : 0 < m) (hm : m ≤ 100) (hR : Sq m R) (hs : ∀ r ∈ R, ∀ x ∈ r, Sm x) : M_last_row [mD R] p = .ok (rD (charL m R)) p := last_ok hm0 hm hR hs
def ownB (lr pw : List D → P3 → Res D) : MS := sRet (mN dTuple2 (mCons (mLst (mLc [1, 2] (bTup [1, 2]) (mEnum (mCons (mCall lr (mCons (m2 D.ix (mVar 0) (mC (.int 0))) (mNil))) (mNil))) (bTrue) (m2 D.mul (mVar 2) (mCall pw (mCons (m2 D.ix (mVar 0) (mC (.int 1))) (mCons (mVar 1) (mNil))))))) (mNil)))
theorem own_ok {lr pw : List D → P3 → Res D} {G : D} {m : Nat} {q : Int} {l : List Int} (h1 : ∀ p, lr [G] p = .ok (rD l) p) (h2 : ∀ (k : Nat) p, k < m → pw [.int q, .int (k : Nat)] p = .ok (.int (q ^ k)) p) (hl : l.length = m) (hm : m ≤ 100) (hok : ∀ x, ∀ k : Nat, k < m → okMul x (q ^ k) = true) :
    callF 3 1 (ownB lr pw) [.tup [G, .int q]] p = .ok (rD (l.zipIdx.map fun t => t.1 * q ^ t.2)) p := by
  have hen : ∀ p, enumOn [rD l] p = .ok ((l.zipIdx).map fun x => .tup [.int (x.2 : Nat), .int x.1]) p := fun p => by
    rw [enumOn_ok (xs := l.map D.int) rfl (by rw [List.length_map]; omega), enumD_map]
  rw [callF_ok (ds := [D.tup [G, .int q]]) (np := 1) rfl]
  unfold ownB
  simp [env0, h1, hen]
  rw [lcM_congr (g' := fun t p => .ok (some (.int (t.1 * q ^ t.2))) p), lcM_pure]
  · simp [rD]
  · rintro ⟨x, k⟩ ht p
    have hk : k < m := by
      have := List.mem_zipIdx ht
      omega
    simp [h2 k _ hk, mul_int (hok x k hk)]
theorem m_ownrow {m : Nat} {q : Int} {R : List (List Int)} (hm0 : 0 < m) (hm : m ≤ 4) (hR : Sq m R) (hs : ∀ r ∈ R, ∀ x ∈ r, Sm x) (hq : q.natAbs ≤ 10000) : M_own_row [.tup [mD R, .int q]] p = .ok (rD (ownL m q R)) p := by
  have hsm : Sm q := by unfold Sm; omega
  refine own_ok (m := m + 1) (fun p => m_lastrow hm0 (by omega) hR hs) (fun k p hk => power_ok rfl (by omega) hsm) (by simp [charL]) (by omega) fun x k hk => ?_
  have h1 : (q ^ k).natAbs ≤ 10000 ^ 4 := by
    rw [Int.natAbs_pow]
    exact Nat.le_trans (Nat.pow_le_pow_left hq k) (Nat.pow_le_pow_right (by decide) (by omega))
  exact okMul_r (by omega) (by omega)
theorem lrH_le {m : Nat} {R : List (List Int)} (hm : m ≤ 3) (hR : Sq m R) (h : Bdd 84 R) : ∀ k, Bdd (1024 ^ k) (lrH m R k)
  | 0 => unitM_abs m
  | k + 1 => by
    obtain ⟨h1, h2⟩ := lrN_abs hR h (lrH_le hm hR h k)
    intro r hr x hx
    have h3 := h2 r hr x hx
    have e1 : m * (84 * 1024 ^ k) ≤ 3 * (84 * 1024 ^ k) := Nat.mul_le_mul_right _ hm
    have e2 : m * (m * (84 * 1024 ^ k)) ≤ 3 * (3 * (84 * 1024 ^ k)) := Nat.mul_le_mul hm e1
    rw [Nat.pow_succ]
    omega
theorem char_le {m : Nat} {R : List (List Int)} (hm : m ≤ 3) (hR : Sq m R) (h : Bdd 84 R) : ∀ x ∈ charL m R, x.natAbs ≤ 2 ^ 30 := by
  intro x hx
  unfold charL at hx
  rw [List.mem_reverse] at hx
  rcases List.mem_cons.mp hx with rfl | hx
  · decide
  · obtain ⟨k, hk, rfl⟩ := List.mem_map.mp hx
    have hk := List.mem_range.mp hk
    obtain ⟨h1, _⟩ := lrN_abs hR h (lrH_le hm hR h k)
    have e0 : 1024 ^ k ≤ 1024 ^ 2 := Nat.pow_le_pow_right (by decide) (by omega)
    have e1 : m * (84 * 1024 ^ k) ≤ 3 * (84 * 1024 ^ k) := Nat.mul_le_mul_right _ hm
    have e2 : m * (m * (84 * 1024 ^ k)) ≤ 3 * (3 * (84 * 1024 ^ k)) := Nat.mul_le_mul hm e1
    omega
/-- the answer -/
def W33 : Bool := wth (many33 V W) (ownL (many33 V W) (q33 V W) (rowsL V W))
theorem m_own : M_own_row [gridD V W] p = .ok (rD (ownL (many33 V W) (q33 V W) (rowsL V W))) p := by
  have hq := q33_pos V W
  refine m_ownrow ?_ ?_ (rows_sq V W) (fun r hr => (rows_sm V W r hr).2) (by omega)
  · unfold many33; split <;> decide
  · unfold many33; split <;> decide
theorem m_within : M_is_within [rD (ownL (many33 V W) (q33 V W) (rowsL V W))] p = .ok (.bl (W33 V W)) p := by
  have hq := q33_pos V W
  have hm : many33 V W ≤ 3 := by unfold many33; split <;> decide
  have hlen : (charL (many33 V W) (rowsL V W)).length = many33 V W + 1 := by simp [charL]
  refine within_ok (b0 := 41) (n0 := many33 V W) rfl ?_ (by simp [ownL, hlen]) (by omega) ?_
  · intro x hx
    obtain ⟨⟨y, k⟩, ht, rfl⟩ := List.mem_map.mp hx
    have hk : k < many33 V W + 1 := by
      have := List.mem_zipIdx ht
      omega
    have hy := char_le hm (rows_sq V W) (rows_abs V W) y (by
      have := List.mem_zipIdx ht
      rw [this.2.2]
      exact List.getElem_mem _)
    have h1 : (q33 V W ^ k).natAbs ≤ 12 ^ 3 := by
      rw [Int.natAbs_pow]
      exact Nat.le_trans (Nat.pow_le_pow_left (show (q33 V W).natAbs ≤ 12 by omega) k) (Nat.pow_le_pow_right (by decide) (by omega))
    have := bm hy h1
    show (y * q33 V W ^ k).natAbs < 2 ^ 41
    omega
  · have : (41 + 1) * 2 ^ many33 V W ≤ (41 + 1) * 2 ^ 3 := Nat.mul_le_mul_left _ (Nat.pow_le_pow_right (by decide) hm)
    omega
end
end VL

namespace VL
open PySem PySem.Spec PyProof.Rows L2 LamX
/-! ### draws; the checks; all weights -/
section
variable {V : Sv} {p : P3} {n : Nat}
theorem lsmall {Q : D → P3 → Prop} (hp : Pot n p) (hn : n + 100 < 2 ^ 60) (q : ∀ (V : Sv) p', Pot (n + 5) p' → Q V.d p') : (M__law_small [.pot] p).wp Q := by
  simp [M__law_small, B__law_small, env0]
  refine law_tk n 4 p _ hp (by omega) (by decide) (by decide) fun k p1 k0 k1 hp1 => ?_
  try simp
  refine law_tk (n + 1) 3 p1 _ hp1 (by omega) (by decide) (by decide) fun u p2 u0 u1 hp2 => ?_
  try simp
  refine law_tk (n + 2) 4 p2 _ hp2 (by omega) (by decide) (by decide) fun a p3 a0 a1 hp3 => ?_
  try simp
  refine law_tk (n + 3) 7 p3 _ hp3 (by omega) (by decide) (by decide) fun b p4 b0 b1 hp4 => ?_
  try simp
  refine law_tk (n + 4) 5 p4 _ hp4 (by omega) (by decide) (by decide) fun s p5 s0 s1 hp5 => ?_
  try simp
  exact q ⟨k, 1 + u, s - 2, -a, -a + b, by omega, by omega, by omega, by omega, by omega, by omega, by omega, by omega, by omega, by omega⟩ p5 hp5
theorem btw33 {x y m : Int} (h1 : -m ≤ x) (h2 : x ≤ y) (h3 : y ≤ m) : M_is_between [.tup [.int x, .int y], .int m] p = .ok (.bl true) p := by
  have : x ≤ m := by omega
  simp [M_is_between, B_is_between, env0, h1, h2, h3, this]
theorem m_isvat : M_is_vat [V.d] p = .ok (.bl true) p := by
  obtain ⟨k, u, s, a, b, h1, h2, h3, h4, h5, h6, h7, h8, h9, h10⟩ := V
  have g2 : k ≤ 20 := by omega
  have g4 : u ≤ 20 := by omega
  have g5 : -20 ≤ s := by omega
  have g6 : s ≤ 20 := by omega
  simp [M_is_vat, B_is_vat, env0, Sv.d, h1, g2, h3, g4, g5, g6, btw33 (x := -20) (y := 20) (m := 200) (by decide) (by decide) (by decide), btw33 (x := a) (y := b) (m := 50) (by omega) (by omega) (by omega)]
theorem m_checkvat : M_check_vat [V.d] p = .ok .non p := by
  simp [M_check_vat, B_check_vat, env0, m_isvat]
theorem m_isrule (W : Wg) : M_is_rule [ruleD W] p = .ok (.bl true) p := by
  have ec : cutL [D.int 0, D.int W.e, D.int W.w, D.int W.c, D.int W.h, D.int 0, D.tup [D.int 0, D.int 0]] (some 1) (some 4) = [D.int W.e, D.int W.w, D.int W.c] := rfl
  have g1 : -50 ≤ W.e := by have := W.e0; omega
  have g2 : W.e ≤ 50 := by have := W.e1; omega
  have g3 : -50 ≤ W.w := by have := W.w0; omega
  have g4 : W.w ≤ 50 := by have := W.w1; omega
  have g5 : -50 ≤ W.c := by have := W.c0; omega
  have g6 : W.c ≤ 50 := by have := W.c1; omega
  have g7 := W.h0
  have g8 : W.h ≤ 50 := by have := W.h1; omega
  simp [M_is_rule, B_is_rule, env0, ruleD, ec, g1, g2, g3, g4, g5, g6, g7, g8, lcM_cons, dAll, D.bools, btw33 (x := 0) (y := 0) (m := 50) (by decide) (by decide) (by decide)]
theorem m_ofrule (W : Wg) : M_of_rule [V.d, ruleD W] p = .ok (gridD V W) p := by
  simp [M_of_rule, B_of_rule, M_check_rule, B_check_rule, env0, m_checkvat, m_isrule, m_grid]
theorem m_isrow {r : List Int} {m : Nat} {N : Int} (hN : N = m) (hr : r.length = m) (hm : m ≤ 100) (h : ∀ x ∈ r, x.natAbs ≤ 84) : M_is_row [rD r, .int N] p = .ok (.bl true) p := by
  have hl : dLen [rD r] = some (.int N) := by rw [hN, ← hr]; simp [rD]
  have e1 : M_is_tuple [rD r, .int N, .int N] p = .ok (.bl true) p := by
    show M_is_tuple [.tup (r.map D.int), .int N, .int N] p = _
    rw [m_tupt, List.length_map, hr, hN]
    simp
  have it : ∀ p, iterOn (rD r) p = .ok (r.map D.int) p := fun _ => rfl
  simp [M_is_row, B_is_row, env0, e1, it]
  intro x hx
  have := h x hx
  omega
theorem m_isgrid (W : Wg) : M_is_grid [gridD V W] p = .ok (.bl true) p := by
  have hq := q33_pos V W
  have sq := rows_sq V W
  have hm : many33 V W ≤ 3 ∧ 1 ≤ many33 V W := by unfold many33; split <;> decide
  obtain ⟨N, hN⟩ : ∃ N : Int, N = many33 V W := ⟨_, rfl⟩
  have hl : dLen [mD (rowsL V W)] = some (.int N) := by rw [hN, ← sq.n]; simp [mD]
  have e1 : ∀ p, M_is_tuple [mD (rowsL V W), .int 1, .int 4] p = .ok (.bl true) p := fun p => by
    show M_is_tuple [.tup ((rowsL V W).map rD), .int 1, .int 4] p = _
    rw [m_tupt, List.length_map, sq.n]
    have h1 : (1 : Int) ≤ (many33 V W : Nat) := by omega
    have h2 : ((many33 V W : Nat) : Int) ≤ 4 := by omega
    simp [h1, h2]
  have it : ∀ p, iterOn (mD (rowsL V W)) p = .ok ((rowsL V W).map rD) p := fun _ => rfl
  have er : ∀ r ∈ rowsL V W, ∀ p, M_is_row [rD r, .int N] p = .ok (.bl true) p := fun r hr p => m_isrow hN (sq.r r hr) (by omega) (rows_abs V W r hr)
  have g1 : (1 : Int) ≤ q33 V W := hq.1
  have g2 : q33 V W ≤ 10000 := by omega
  simp [M_is_grid, B_is_grid, env0, gridD, e1, it, g1, g2, hl]
  rw [lcM_congr (g' := fun r p => .ok (some (.bl true)) p), lcM_pure]
  · simp [dAll_true (bs := (rowsL V W).map fun _ => D.bl true) (by simp)]
  · intro r hr p
    simp [hl, er r hr]
def doesdieB (chk wi ow : List D → P3 → Res D) : MS := sSeq (xExpr [] (mCall chk (mCons (mVar 0) (mNil)))) (sRet (mCall wi (mCons (mCall ow (mCons (mVar 0) (mNil))) (mNil))))
theorem doesdie_ok {chk wi ow : List D → P3 → Res D} {G r d : D} (h1 : ∀ p, chk [G] p = .ok .non p) (h2 : ∀ p, ow [G] p = .ok r p) (h3 : ∀ p, wi [r] p = .ok d p) : callF 1 1 (doesdieB chk wi ow) [G] p = .ok d p := by
  rw [callF_ok (ds := [G]) (np := 1) rfl]
  simp [doesdieB, env0, h1, h2, h3]
theorem m_checkgrid (W : Wg) : M_check_grid [gridD V W] p = .ok .non p := by
  have := m_isgrid (V := V) (p := p) W
  simp [M_check_grid, B_check_grid, env0, this]
theorem m_doesdie (W : Wg) : M_does_die [gridD V W] p = .ok (.bl (W33 V W)) p :=
  doesdie_ok (fun p => m_checkgrid W) (fun p => m_own V W) (fun p => m_within V W)
/-- all weights of at most such size -/
def aw (m : Int) : List (Int × Int × Int) := (ir (-m) (m + 1)).flatMap fun e => (ir (-m) (m + 1)).flatMap fun w => (ir (-m) (m + 1)).map fun c => (e, w, c)
def wt (t : Int × Int × Int) : D := .tup [.int t.1, .int t.2.1, .int t.2.2]
theorem m_allw1 : M_all_weights [.int 1] p = .ok (.lst ((aw 1).map wt)) p := by kernel_rfl
theorem m_allw2 : M_all_weights [.int 2] p = .ok (.lst ((aw 2).map wt)) p := by kernel_rfl
theorem m_lallw1 : M__law_all [.int 1] p = .ok (.lst ((aw 1).map wt)) p := by kernel_rfl
theorem m_lallw2 : M__law_all [.int 2] p = .ok (.lst ((aw 2).map wt)) p := by kernel_rfl
theorem aw_mem {m : Int} {t : Int × Int × Int} (h : t ∈ aw m) : -m ≤ t.1 ∧ t.1 ≤ m ∧ -m ≤ t.2.1 ∧ t.2.1 ≤ m ∧ -m ≤ t.2.2 ∧ t.2.2 ≤ m := by
  unfold aw at h
  obtain ⟨e, he, h⟩ := List.mem_flatMap.mp h
  obtain ⟨w, hw, h⟩ := List.mem_flatMap.mp h
  obtain ⟨c, hc, rfl⟩ := List.mem_map.mp h
  have h1 := mem_ir.mp he
  have h2 := mem_ir.mp hw
  have h3 := mem_ir.mp hc
  show -m ≤ e ∧ e ≤ m ∧ -m ≤ w ∧ w ≤ m ∧ -m ≤ c ∧ c ≤ m
  omega
theorem aw_len1 : (aw 1).length = 27 := by decide +kernel
theorem aw_len2 : (aw 2).length = 125 := by decide +kernel
end
end VL

namespace VL
open PySem PySem.Spec PyProof.Rows L2 LamX
/-! ### the weights that are tried; the best -/
abbrev Tr := Int × Int × Int
def okW (t : Tr) (h : Int) : Prop := -4 ≤ t.1 ∧ t.1 ≤ 4 ∧ -4 ≤ t.2.1 ∧ t.2.1 ≤ 4 ∧ -4 ≤ t.2.2 ∧ t.2.2 ≤ 4 ∧ 1 ≤ h ∧ h ≤ 4
instance (t : Tr) (h : Int) : Decidable (okW t h) := by unfold okW; infer_instance
def wOf (t : Tr) (h : Int) : Wg := if k : okW t h then ⟨t.1, t.2.1, t.2.2, h, k.1, k.2.1, k.2.2.1, k.2.2.2.1, k.2.2.2.2.1, k.2.2.2.2.2.1, k.2.2.2.2.2.2.1, k.2.2.2.2.2.2.2⟩ else ⟨0, 0, 0, 1, by decide, by decide, by decide, by decide, by decide, by decide, by decide, by decide⟩
theorem wOf_ok {t : Tr} {h : Int} (k : okW t h) : (wOf t h).d = wt t ∧ (wOf t h).h = h := by
  unfold wOf
  rw [dif_pos k]
  exact ⟨rfl, rfl⟩
theorem aw_ok {m h : Int} (hm : m = 1 ∨ m = 2) (h0 : 1 ≤ h) (h1 : h ≤ 4) {t : Tr} (ht : t ∈ aw m) : okW t h := by
  have := aw_mem ht
  unfold okW
  omega
section
variable {V : Sv} {p : P3} {n : Nat} {m h : Int}
def dy (V : Sv) (m h : Int) : List Tr := (aw m).filter fun t => W33 V (wOf t h)
theorem m_allw (hm : m = 1 ∨ m = 2) (p : P3) : M_all_weights [.int m] p = .ok (.lst ((aw m).map wt)) p := by
  rcases hm with rfl | rfl
  · exact m_allw1
  · exact m_allw2
theorem m_lallw (hm : m = 1 ∨ m = 2) (p : P3) : M__law_all [.int m] p = .ok (.lst ((aw m).map wt)) p := by
  rcases hm with rfl | rfl
  · exact m_lallw1
  · exact m_lallw2
def dyofB (aws ro gb ow wi : List D → P3 → Res D) : MS := sRet (mLst (mLc [3] (bName 3) (mIter (mCall aws (mCons (mVar 1) (mNil)))) (toB (mCall wi (mCons (mCall ow (mCons (mCall gb (mCons (mVar 0) (mCons (mCall ro (mCons (mVar 3) (mCons (mVar 2) (mNil)))) (mNil)))) (mNil))) (mNil)))) (mVar 3)))
theorem dyof_ok {aws ro gb ow wi : List D → P3 → Res D} {Vd m h : D} {α : Type} {l : List α} {f : α → D} {r g o : α → D} {b : α → Bool} (e1 : ∀ p, aws [m] p = .ok (.lst (l.map f)) p) (e2 : ∀ t ∈ l, ∀ p, ro [f t, h] p = .ok (r t) p) (e3 : ∀ t p, gb [Vd, r t] p = .ok (g t) p)
    (e4 : ∀ t p, ow [g t] p = .ok (o t) p) (e5 : ∀ t p, wi [o t] p = .ok (.bl (b t)) p) : callF 4 3 (dyofB aws ro gb ow wi) [Vd, m, h] p = .ok (.lst ((l.filter b).map f)) p := by
  rw [callF_ok (ds := [Vd, m, h]) (np := 3) rfl]
  unfold dyofB
  simp [env0, e1]
  rw [lcM_congr (g' := fun t p => if b t = true then .ok (some (f t)) p else .ok none p), lcM_filt]
  · simp
  · intro t ht p
    simp [e2 t ht, e3, e4, e5]
theorem m_dyingof (hm : m = 1 ∨ m = 2) (h0 : 1 ≤ h) (h1 : h ≤ 4) : M_dying_of [V.d, .int m, .int h] p = .ok (.lst ((dy V m h).map wt)) p :=
  dyof_ok (r := fun t => ruleD (wOf t h)) (g := fun t => gridD V (wOf t h)) (o := fun t => rD (ownL (many33 V (wOf t h)) (q33 V (wOf t h)) (rowsL V (wOf t h)))) (m_allw hm) (fun t ht p => by
    have k := wOf_ok (aw_ok hm h0 h1 ht)
    have := m_ruleof (wOf t h) (p := p)
    rwa [k.1, k.2] at this) (fun t p => m_grid V _) (fun t p => m_own V _) (fun t p => m_within V _)
theorem m_checksmall (hm0 : 0 ≤ m) (hm1 : m ≤ 5) (h0 : 1 ≤ h) (h1 : h ≤ 4) : M_check_small [V.d, .int m, .int h] p = .ok .non p := by
  have g : h ≤ 50 := by omega
  simp [M_check_small, B_check_small, env0, m_checkvat, hm0, hm1, h0, g]
theorem m_dying (hm : m = 1 ∨ m = 2) (h0 : 1 ≤ h) (h1 : h ≤ 4) : M_dying [V.d, .int m, .int h] p = .ok (.tup ((dy V m h).map wt)) p := by
  have e1 : ∀ p, M_dying_of [V.d, .int m, .int h] p = _ := fun p => m_dyingof hm h0 h1
  have e2 : ∀ p, M_check_small [V.d, .int m, .int h] p = _ := fun p => m_checksmall (by omega) (by omega) h0 h1
  show callF 3 3 B_dying [V.d, .int m, .int h] p = _
  rw [callF_ok (ds := [V.d, .int m, .int h]) (np := 3) rfl]
  unfold B_dying
  generalize M_dying_of = dof at *
  simp [env0, e1, e2]
theorem m_sizes {t : Tr} (k : okW t h) {N : Int} (hN : N = n) (hn : n ≤ 5) (hn0 : 0 < n) : M_sizes [V.d, wt t, .int h, .int N] p = .ok (sizesD V (wOf t h) n) p := by
  have k2 := wOf_ok k
  obtain ⟨a1, a2, a3, a4, a5, a6, h0, h1⟩ := k
  have e1 : ∀ p, M_sizes_of [V.d, wt t, .int h, .int N] p = .ok (sizesD V (wOf t h) n) p := fun p => by
    have := m_sizesof V (wOf t h) (p := p) hN hn hn0
    rwa [k2.1, k2.2] at this
  have e2 : ∀ p, M_check_small [V.d, .int 0, .int h] p = .ok .non p := fun p => m_checksmall (by decide) (by decide) h0 h1
  have e3 : ∀ p, M_check_beats [.int N] p = .ok .non p := fun p => by
    have g1 : 1 ≤ N := by omega
    have g2 : N ≤ 20 := by omega
    simp [M_check_beats, B_check_beats, env0, g1, g2]
  have b1 : -50 ≤ t.1 := by omega
  have b2 : t.1 ≤ 50 := by omega
  have b3 : -50 ≤ t.2.1 := by omega
  have b4 : t.2.1 ≤ 50 := by omega
  have b5 : -50 ≤ t.2.2 := by omega
  have b6 : t.2.2 ≤ 50 := by omega
  have ew : wt t = .tup [.int t.1, .int t.2.1, .int t.2.2] := rfl
  show callF 5 4 B_sizes [V.d, wt t, .int h, .int N] p = _
  rw [callF_ok (ds := [V.d, wt t, .int h, .int N]) (np := 4) rfl]
  unfold B_sizes
  rw [ew] at e1 ⊢
  generalize M_sizes_of = so at *
  simp [env0, m_checkvat, e1, e2, e3, lcM_cons, dAll, D.bools, b1, b2, b3, b4, b5, b6]
def pD (f : Int × Int) : D := .tup [.int f.1, .int f.2]
def S33 (V : Sv) (W : Wg) (n : Nat) : (Int × Int) × (Int × Int) := (fr (hor (q33 V W) (absL (levs V W n)) * sz33 V) (q33 V W ^ (n - 1)), fr (hor (q33 V W) (absL (looks V W n)) * sz33 V) (q33 V W ^ (n - 1) * W.h))
theorem sizes_S (V : Sv) (W : Wg) (n : Nat) : sizesD V W n = .tup [pD (S33 V W n).1, pD (S33 V W n).2] := rfl
theorem S_sm (W : Wg) (hn : n ≤ 5) : Sm (S33 V W n).1.1 ∧ Sm (S33 V W n).1.2 ∧ Sm (S33 V W n).2.1 ∧ Sm (S33 V W n).2.2 := by
  have hh0 := W.h0; have hh1 := W.h1
  have b1 := hor_abs V W (n := n) hn (l := levs V W n) (by simp [levs]) (levs_le V W hn)
  have b2 := hor_abs V W (n := n) hn (l := looks V W n) (by simp [looks]) (looks_le V W hn)
  have hq := q_pow V W (n := n - 1) (by omega)
  have hh : 0 < q33 V W ^ (n - 1) * W.h := Int.mul_pos hq.1 (by omega)
  have bq := bm (y := W.h) (n := 4) hq.2 (by omega)
  have p1 := fr_pos (a := hor (q33 V W) (absL (levs V W n)) * sz33 V) hq.1
  have p2 := fr_pos (a := hor (q33 V W) (absL (looks V W n)) * sz33 V) hh
  have a1 := fr_abs (a := hor (q33 V W) (absL (levs V W n)) * sz33 V) hq.1
  have a2 := fr_abs (a := hor (q33 V W) (absL (looks V W n)) * sz33 V) hh
  unfold S33 Sm
  dsimp only
  refine ⟨?_, ?_, ?_, ?_⟩ <;> omega
def bet (a b : (Int × Int) × (Int × Int)) : Bool := if b.1.1 * a.1.2 < a.1.1 * b.1.2 ∨ b.2.1 * a.2.2 < a.2.1 * b.2.2 then false else decide (a.1.1 * b.1.2 < b.1.1 * a.1.2) || decide (a.2.1 * b.2.2 < b.2.1 * a.2.2)
structure SmS (a : (Int × Int) × (Int × Int)) : Prop where
  x1 : Sm a.1.1
  x2 : Sm a.1.2
  x3 : Sm a.2.1
  x4 : Sm a.2.2
theorem m_isbetter {a b : (Int × Int) × (Int × Int)} (ha : SmS a) (hb : SmS b) : M_is_better [.tup [pD a.1, pD a.2], .tup [pD b.1, pD b.2]] p = .ok (.bl (bet a b)) p := by
  simp [M_is_better, B_is_better, M_is_less, B_is_less, env0, pD, ha.x1.mul, ha.x3.mul, hb.x1.mul, hb.x3.mul, bet]
  by_cases h1 : b.1.1 * a.1.2 < a.1.1 * b.1.2 <;> by_cases h2 : b.2.1 * a.2.2 < a.2.1 * b.2.2 <;> simp [h1, h2]
theorem m_lisbetter {a b : (Int × Int) × (Int × Int)} (ha : SmS a) (hb : SmS b) : M__law_is_better [.tup [pD a.1, pD a.2], .tup [pD b.1, pD b.2]] p = .ok (.bl (bet a b)) p := by
  simp [M__law_is_better, B__law_is_better, M__law_less, B__law_less, env0, pD, ha.x1.mul, ha.x3.mul, hb.x1.mul, hb.x3.mul, bet]
  by_cases h1 : b.1.1 * a.1.2 < a.1.1 * b.1.2 <;> by_cases h2 : b.2.1 * a.2.2 < a.2.1 * b.2.2 <;> simp [h1, h2]
def rw33 (V : Sv) (h : Int) (n : Nat) (t : Tr) : D := .tup [wt t, pD (S33 V (wOf t h) n).1, pD (S33 V (wOf t h) n).2]
def bst (V : Sv) (m h : Int) (n : Nat) : List Tr := (dy V m h).filter fun t => !((dy V m h).any fun o => bet (S33 V (wOf o h) n) (S33 V (wOf t h) n))
theorem dy_ok (hm : m = 1 ∨ m = 2) (h0 : 1 ≤ h) (h1 : h ≤ 4) {t : Tr} (ht : t ∈ dy V m h) : okW t h := aw_ok hm h0 h1 (List.mem_filter.mp ht).1
theorem S_ok (W : Wg) (hn : n ≤ 5) : SmS (S33 V W n) := let ⟨a, b, c, d⟩ := S_sm (V := V) W hn; ⟨a, b, c, d⟩
theorem m_best (hm : m = 1 ∨ m = 2) (h0 : 1 ≤ h) (h1 : h ≤ 4) {N : Int} (hN : N = n) (hn : n ≤ 5) (hn0 : 0 < n) : M_best [V.d, .int m, .int h, .int N] p = .ok (.tup ((bst V m h n).map (rw33 V h n))) p := by
  have e1 : ∀ p, M_dying_of [V.d, .int m, .int h] p = _ := fun p => m_dyingof hm h0 h1
  have e2 : ∀ p, M_check_small [V.d, .int m, .int h] p = _ := fun p => m_checksmall (by omega) (by omega) h0 h1
  have e3 : ∀ p, M_check_beats [.int N] p = .ok .non p := fun p => by
    have g1 : 1 ≤ N := by omega
    have g2 : N ≤ 20 := by omega
    simp [M_check_beats, B_check_beats, env0, g1, g2]
  have e4 : ∀ t ∈ dy V m h, ∀ p, M_sizes_of [V.d, wt t, .int h, .int N] p = .ok (.tup [pD (S33 V (wOf t h) n).1, pD (S33 V (wOf t h) n).2]) p := fun t ht p => by
    have k2 := wOf_ok (dy_ok hm h0 h1 ht)
    have := m_sizesof V (wOf t h) (p := p) hN hn hn0
    rwa [k2.1, k2.2] at this
  have e5 : ∀ o t p, M_is_better [.tup [pD (S33 V (wOf o h) n).1, pD (S33 V (wOf o h) n).2], .tup [pD (S33 V (wOf t h) n).1, pD (S33 V (wOf t h) n).2]] p = .ok (.bl (bet (S33 V (wOf o h) n) (S33 V (wOf t h) n))) p := fun o t p => m_isbetter (S_ok _ hn) (S_ok _ hn)
  have sl : ∀ t, D.slice (rw33 V h n t) (some 1) none = some (.tup [pD (S33 V (wOf t h) n).1, pD (S33 V (wOf t h) n).2]) := fun t => by simp [rw33]
  show callF 8 4 B_best [V.d, .int m, .int h, .int N] p = _
  rw [callF_ok (ds := [V.d, .int m, .int h, .int N]) (np := 4) rfl]
  unfold B_best
  generalize M_sizes_of = so at *
  generalize M_dying_of = dof at *
  generalize M_is_better = ib at *
  simp [env0, e1, e2, e3]
  rw [lcM_congr (g' := fun t p => .ok (some (rw33 V h n t)) p), lcM_pure]
  · simp [sl, e5, bst]
  · intro t ht p
    simp [e4 t ht, rw33]
end
end VL

namespace VL
open PySem PySem.Spec PyProof.Rows L2 LamX
/-! ### the law at one drawn vat -/
def rt33 (all dd ofr lru dyi siz lsz lbt bes ref tk : List D → P3 → Res D) : MS := sSeq (sNew 5 (mLc [6] (bName 6) (mIter (mCall all (mCons (mVar 2) (mNil)))) (toB (mCall dd (mCons (mCall ofr (mCons (mVar 1) (mCons (mCall lru (mCons (mVar 6) (mCons (mVar 3) (mNil)))) (mNil)))) (mNil)))) (mVar 6))) (sFreeze 5 (sSeq (xIf [] (toB (mReprNe (mCall dyi (mCons (mVar 1) (mCons (mVar 2) (mCons (mVar 3) (mNil))))) (mN dTuple2 (mCons (mVar 5) (mNil))))) (sRet (mC (.bl false))) (sNil)) (sSeq (xSet [] 7 (mN dTuple2 (mCons (mLst (mLc [8] (bName 8) (mRange1 (mCons (mC (.int 3)) (mNil))) (bTrue) (m2 D.sub (mCall tk (mCons (mVar 0) (mCons (mC (.int 9)) (mNil)))) (mC (.int 4))))) (mNil)))) (sSeq (xIf [] (toB (mReprNe (mCall siz (mCons (mVar 1) (mCons (mVar 7) (mCons (mVar 3) (mCons (mVar 4) (mNil)))))) (mCall lsz (mCons (mVar 1) (mCons (mVar 7) (mCons (mVar 3) (mCons (mVar 4) (mNil)))))))) (sRet (mC (.bl false))) (sNil)) (sSeq (xSet [] 9 (mLst (mLc [6] (bName 6) (mIter (mVar 5)) (bTrue) (m2 D.add (mTup (mCons (mVar 6) (mNil))) (mCall lsz (mCons (mVar 1) (mCons (mVar 6) (mCons (mVar 3) (mCons (mVar 4) (mNil)))))))))) (sSeq (sNew 10 (mLc [11] (bName 11) (mIter (mVar 9)) (bNot (toB (mN dAny (mCons (mLst (mLc [12] (bName 12) (mIter (mVar 9)) (bTrue) (mCall lbt (mCons (mSl (mVar 12) (oSome (mC (.int 1))) (oNo)) (mCons (mSl (mVar 11) (oSome (mC (.int 1))) (oNo)) (mNil)))))) (mNil))))) (mVar 11))) (sFreeze 10 (sSeq (xIf [] (toB (mReprNe (mCall bes (mCons (mVar 1) (mCons (mVar 2) (mCons (mVar 3) (mCons (mVar 4) (mNil)))))) (mN dTuple2 (mCons (mVar 10) (mNil))))) (sRet (mC (.bl false))) (sNil)) (sRet (mCall ref (mCons (mVar 0) (mCons (mVar 1) (mNil)))))))))))))
theorem right33_eq : B__law_right = sSeq (sPar [1, 2, 3, 4] [.inl ([], mCall (M__law_small) (mCons (mVar 0) (mNil))), .inl ([], m2 D.add (mC (.int 1)) (mCall (M__law_take) (mCons (mVar 0) (mCons (mC (.int 2)) (mNil))))), .inl ([], m2 D.add (mC (.int 1)) (mCall (M__law_take) (mCons (mVar 0) (mCons (mC (.int 4)) (mNil))))), .inl ([], m2 D.add (mC (.int 1)) (mCall (M__law_take) (mCons (mVar 0) (mCons (mC (.int 5)) (mNil)))))]) (rt33 M__law_all M_does_die M_of_rule M__law_rule M_dying M_sizes M__law_sizes M__law_is_better M_best M__law_are_refused M__law_take) := rfl
theorem rp_trs {l : List Tr} {h : Int} (hk : ∀ t ∈ l, okW t h) (hl : l.length ≤ 125) : (D.tup (l.map wt)).rp = true := by
  refine rp_tup_map (n := 1) (m := 1000) (fun t ht => ?_) (by decide) (fun t ht => ?_) (by omega)
  · obtain ⟨a1, a2, a3, a4, a5, a6, _⟩ := hk t ht
    show D.sh 1 (.tup [.int t.1, .int t.2.1, .int t.2.2]) = true
    rw [sh_tup]
    simp only [List.all_cons, List.all_nil, Bool.and_true, Bool.and_eq_true]
    exact ⟨Sm.sh (by unfold Sm; omega) 0, Sm.sh (by unfold Sm; omega) 0, Sm.sh (by unfold Sm; omega) 0⟩
  · obtain ⟨a1, a2, a3, a4, a5, a6, _⟩ := hk t ht
    have h1 : (D.int t.1).sz ≤ 64 := Sm.sz (by unfold Sm; omega)
    have h2 : (D.int t.2.1).sz ≤ 64 := Sm.sz (by unfold Sm; omega)
    have h3 : (D.int t.2.2).sz ≤ 64 := Sm.sz (by unfold Sm; omega)
    show 3 + ((D.int t.1).sz + 2 + ((D.int t.2.1).sz + 2 + ((D.int t.2.2).sz + 2 + 0))) ≤ 1000
    omega
theorem pD_sh {f : Int × Int} (h1 : Sm f.1) (h2 : Sm f.2) : D.sh 1 (pD f) = true ∧ (pD f).sz ≤ 200 := by
  refine ⟨?_, ?_⟩
  · show D.sh 1 (.tup [.int f.1, .int f.2]) = true
    rw [sh_tup]
    simp only [List.all_cons, List.all_nil, Bool.and_true, Bool.and_eq_true]
    exact ⟨h1.sh 0, h2.sh 0⟩
  · have := h1.sz
    have := h2.sz
    show 3 + ((D.int f.1).sz + 2 + ((D.int f.2).sz + 2 + 0)) ≤ 200
    omega
theorem rp_sizes {a : (Int × Int) × (Int × Int)} (h : SmS a) : (D.tup [pD a.1, pD a.2]).rp = true := by
  have h1 := pD_sh h.x1 h.x2
  have h2 := pD_sh h.x3 h.x4
  refine rp_of (sh_le (n := 2) ?_ (by decide)) ?_
  · rw [sh_tup]
    simp only [List.all_cons, List.all_nil, Bool.and_true, Bool.and_eq_true]
    exact ⟨h1.1, h2.1⟩
  · show 3 + ((pD a.1).sz + 2 + ((pD a.2).sz + 2 + 0)) ≤ _
    omega
theorem rp_rows {l : List Tr} {h : Int} {S : Tr → (Int × Int) × (Int × Int)} (hk : ∀ t ∈ l, okW t h) (hS : ∀ t, SmS (S t)) (hl : l.length ≤ 125) : (D.tup (l.map fun t => .tup [wt t, pD (S t).1, pD (S t).2])).rp = true := by
  refine rp_tup_map (n := 2) (m := 3000) (fun t ht => ?_) (by decide) (fun t ht => ?_) (by omega)
  · have h1 := pD_sh (hS t).x1 (hS t).x2
    have h2 := pD_sh (hS t).x3 (hS t).x4
    obtain ⟨a1, a2, a3, a4, a5, a6, _⟩ := hk t ht
    have h3 : D.sh 1 (.tup [.int t.1, .int t.2.1, .int t.2.2]) = true := by
      rw [sh_tup]
      simp only [List.all_cons, List.all_nil, Bool.and_true, Bool.and_eq_true]
      exact ⟨Sm.sh (by unfold Sm; omega) 0, Sm.sh (by unfold Sm; omega) 0, Sm.sh (by unfold Sm; omega) 0⟩
    rw [sh_tup]
    simp only [List.all_cons, List.all_nil, Bool.and_true, Bool.and_eq_true]
    exact ⟨h3, h1.1, h2.1⟩
  · have h1 := pD_sh (hS t).x1 (hS t).x2
    have h2 := pD_sh (hS t).x3 (hS t).x4
    obtain ⟨a1, a2, a3, a4, a5, a6, _⟩ := hk t ht
    have g1 : (D.int t.1).sz ≤ 64 := Sm.sz (by unfold Sm; omega)
    have g2 : (D.int t.2.1).sz ≤ 64 := Sm.sz (by unfold Sm; omega)
    have g3 : (D.int t.2.2).sz ≤ 64 := Sm.sz (by unfold Sm; omega)
    have g4 : (wt t).sz ≤ 1000 := by
      show 3 + ((D.int t.1).sz + 2 + ((D.int t.2.1).sz + 2 + ((D.int t.2.2).sz + 2 + 0))) ≤ 1000
      omega
    show 3 + ((wt t).sz + 2 + ((pD (S t).1).sz + 2 + ((pD (S t).2).sz + 2 + 0))) ≤ 3000
    omega
section
variable {all dd ofr lru dyi siz lsz lbt bes ref tk : List D → P3 → Res D} {Vd : D} {m h : Int} {N : D} {p : P3} {n : Nat}
theorem rest_ok {aws : List Tr} {b : Tr → Bool} {r g : Tr → D} {S : Tr → (Int × Int) × (Int × Int)} (T : TkOk tk) (hS : ∀ t, SmS (S t)) (hk : ∀ t ∈ aws, okW t h) (hlen : aws.length ≤ 125) (h0 : 1 ≤ h) (h1 : h ≤ 4)
    (e1 : ∀ p, all [.int m] p = .ok (.lst (aws.map wt)) p) (e2 : ∀ t ∈ aws, ∀ p, lru [wt t, .int h] p = .ok (r t) p) (e3 : ∀ t p, ofr [Vd, r t] p = .ok (g t) p) (e4 : ∀ t p, dd [g t] p = .ok (.bl (b t)) p)
    (e5 : ∀ p, dyi [Vd, .int m, .int h] p = .ok (.tup ((aws.filter b).map wt)) p)
    (e6 : ∀ t, okW t h → ∀ p, siz [Vd, wt t, .int h, N] p = .ok (.tup [pD (S t).1, pD (S t).2]) p) (e7 : ∀ t, okW t h → ∀ p, lsz [Vd, wt t, .int h, N] p = .ok (.tup [pD (S t).1, pD (S t).2]) p)
    (e8 : ∀ o t p, lbt [.tup [pD (S o).1, pD (S o).2], .tup [pD (S t).1, pD (S t).2]] p = .ok (.bl (bet (S o) (S t))) p)
    (e9 : ∀ p, bes [Vd, .int m, .int h, N] p = .ok (.tup (((aws.filter b).filter fun t => !((aws.filter b).any fun o => bet (S o) (S t))).map fun t => .tup [wt t, pD (S t).1, pD (S t).2])) p)
    (hp : Pot n p) (hn : n ≤ 2 ^ 50) (e10 : ∀ n p, Pot n p → n ≤ 2 ^ 51 → (ref [.pot, Vd] p).wp fun d p' => d = .bl true ∧ Pot (n + 5) p') :
    (rt33 all dd ofr lru dyi siz lsz lbt bes ref tk [some (.p .pot), some (.p Vd), some (.p (.int m)), some (.p (.int h)), some (.p N), none, none, none, none, none, none, none, none] p).wp (wpF fun d p' => d = .bl true ∧ Pot (n + 8) p') := by
  unfold rt33
  have q1 : ∀ p, lcM (fun (t : Tr) p => (strict (lru [wt t, .int h] p)).bind fun a p => (strict (ofr [Vd, a] p)).bind fun a p => (strict (dd [a] p)).bind fun a p => (strict (asB a p)).bind fun k p1 => if k = true then .ok (some (wt t)) p1 else .ok none p1) aws p = .ok ((aws.filter b).map wt) p := fun p => by
    rw [lcM_congr (g' := fun t p => if b t = true then .ok (some (wt t)) p else .ok none p), lcM_filt]
    · simp
    · intro t ht p
      simp [e2 t ht, e3, e4]
  have hkf : ∀ t ∈ aws.filter b, okW t h := fun t ht => hk t (List.mem_filter.mp ht).1
  have hlf : (aws.filter b).length ≤ 125 := Nat.le_trans (List.length_filter_le _ _) hlen
  have r1 := rp_trs hkf hlf
  generalize aws.filter b = due at *
  simp [env0, e1]
  rw [q1]
  simp [e5, r1]
  have hr3 : rgOk 0 3 = true := by decide
  simp [hr3]
  refine lcM_each 1 (fun y => ∃ i, y = .int i ∧ -4 ≤ i ∧ i ≤ 4) (N := 2 ^ 51) ?_ _ n p hp (by simp; omega) fun ys p1 hy hyl hp1 => ?_
  · intro x n' p hp hn'
    simp
    refine T n' 9 p _ hp (by omega) (by decide) (by decide) fun t p1 t0 t1 hp1 => ?_
    simp
    exact ⟨by omega, hp1⟩
  obtain ⟨is, rfl, his⟩ := ints_of ys hy
  have hl3 : is.length = 3 := by simpa using hyl
  obtain ⟨x, y, z, rfl⟩ : ∃ x y z, is = [x, y, z] := by
    rcases is with _ | ⟨x, _ | ⟨y, _ | ⟨z, _ | ⟨w, is⟩⟩⟩⟩
    all_goals simp at hl3
    exact ⟨x, y, z, rfl⟩
  have kx := his x (by simp)
  have ky := his y (by simp)
  have kz := his z (by simp)
  have kt : okW (x, y, z) h := ⟨kx.1, kx.2, ky.1, ky.2, kz.1, kz.2, h0, h1⟩
  have s1 : ∀ p, siz [Vd, .tup [.int x, .int y, .int z], .int h, N] p = _ := e6 (x, y, z) kt
  have s2 : ∀ p, lsz [Vd, .tup [.int x, .int y, .int z], .int h, N] p = _ := e7 (x, y, z) kt
  have r2 := rp_sizes (hS (x, y, z))
  have q2 : ∀ p, lcM (fun (t : Tr) p => (strict (lsz [Vd, wt t, .int h, N] p)).bind fun a p => (strict (ofO ((D.tup [wt t]).add a) p)).bind fun y p2 => .ok (some y) p2) due p = .ok (due.map fun t => .tup [wt t, pD (S t).1, pD (S t).2]) p := fun p => by
    rw [← lcM_pure]
    refine lcM_congr fun t ht p => ?_
    simp [e7 t (hkf t ht), add_tup]
  simp [s1, s2, r2]
  rw [q2]
  have r3 := rp_rows (l := due.filter fun t => !(due.any fun o => bet (S o) (S t))) (S := S) (fun t ht => hkf t (List.mem_filter.mp ht).1) hS (Nat.le_trans (List.length_filter_le _ _) hlf)
  simp [e8]
  rw [e9]
  simp only [wp_ok]
  refine ⟨r3, r3, reprSame_self _, ?_⟩
  have hp2 : Pot (n + 3) p1 := hp1.mono (by simp)
  exact (e10 (n + 3) p1 hp2 (by omega)).mono fun d p' hd => ⟨hd.1, hd.2.mono (by omega)⟩
end
end VL

namespace VL
open PySem PySem.Spec PyProof.Rows L2 LamX
/-! ### what is refused -/
structure Bad (d : D) : Prop where
  pl : d.pl = true
  rp : d.rp = true
section
variable {V : Sv} {p : P3} {n : Nat} {bv bm bs bb bo : D}
structure BadV (d : D) : Prop extends Bad d where
  no : ∀ p, M_is_vat [d] p = .ok (.bl false) p
structure BadI (a b : Int) (d : D) : Prop extends Bad d where
  no : ∀ p, M_is_integer [d, .int a, .int b] p = .ok (.bl false) p
structure BadO (V : Sv) (d : D) : Prop extends Bad d where
  no : ∀ s b p, M_sizes [V.d, d, s, b] p = .err "BadWeights" d p
theorem chkV (h : BadV bv) : M_check_vat [bv] p = .err "BadVat" bv p := by
  simp [M_check_vat, B_check_vat, env0, h.no]
theorem chkS0 (h : BadV bv) (a b : D) : M_check_small [bv, a, b] p = .err "BadVat" bv p := by
  simp [M_check_small, B_check_small, env0, chkV h]
theorem chkS1 (h : BadI 0 5 bm) (b : D) : M_check_small [V.d, bm, b] p = .err "BadWeights" bm p := by
  simp [M_check_small, B_check_small, env0, m_checkvat, h.no]
theorem chkS2 {m : Int} (hm : 0 ≤ m) (hm1 : m ≤ 5) (h : BadI 1 50 bs) : M_check_small [V.d, .int m, bs] p = .err "BadWeights" bs p := by
  simp [M_check_small, B_check_small, env0, m_checkvat, h.no, hm, hm1]
theorem chkB (h : BadI 1 20 bb) : M_check_beats [bb] p = .err "BadBeats" bb p := by
  simp [M_check_beats, B_check_beats, env0, h.no]
theorem r0 (h : BadV bv) (a b : D) : M_dying [bv, a, b] p = .err "BadVat" bv p := by
  show callF 3 3 B_dying [bv, a, b] p = _
  rw [callF_ok (ds := [bv, a, b]) (np := 3) rfl]
  unfold B_dying
  generalize M_dying_of = dof
  simp [env0, chkS0 h]
theorem r1 (h : BadI 0 5 bm) (b : D) : M_dying [V.d, bm, b] p = .err "BadWeights" bm p := by
  show callF 3 3 B_dying [V.d, bm, b] p = _
  rw [callF_ok (ds := [V.d, bm, b]) (np := 3) rfl]
  unfold B_dying
  generalize M_dying_of = dof
  simp [env0, chkS1 h]
theorem r2 (h : BadI 1 50 bs) : M_dying [V.d, .int 1, bs] p = .err "BadWeights" bs p := by
  show callF 3 3 B_dying [V.d, .int 1, bs] p = _
  rw [callF_ok (ds := [V.d, .int 1, bs]) (np := 3) rfl]
  unfold B_dying
  generalize M_dying_of = dof
  simp [env0, chkS2 (m := 1) (by decide) (by decide) h]
theorem r3 (h : BadV bv) (a b c : D) : M_sizes [bv, a, b, c] p = .err "BadVat" bv p := by
  show callF 5 4 B_sizes [bv, a, b, c] p = _
  rw [callF_ok (ds := [bv, a, b, c]) (np := 4) rfl]
  unfold B_sizes
  generalize M_sizes_of = dof
  simp [env0, chkV h]
theorem r5 (h : BadI 1 50 bs) (c : D) : M_sizes [V.d, .tup [.int 1, .int 1, .int 1], bs, c] p = .err "BadWeights" bs p := by
  show callF 5 4 B_sizes [V.d, .tup [.int 1, .int 1, .int 1], bs, c] p = _
  rw [callF_ok (ds := [V.d, .tup [.int 1, .int 1, .int 1], bs, c]) (np := 4) rfl]
  unfold B_sizes
  generalize M_sizes_of = dof
  simp [env0, m_checkvat, lcM_cons, dAll, D.bools, chkS2 (m := 0) (by decide) (by decide) h]
theorem r6 (h : BadI 1 20 bb) : M_sizes [V.d, .tup [.int 1, .int 1, .int 1], .int 1, bb] p = .err "BadBeats" bb p := by
  show callF 5 4 B_sizes [V.d, .tup [.int 1, .int 1, .int 1], .int 1, bb] p = _
  rw [callF_ok (ds := [V.d, .tup [.int 1, .int 1, .int 1], .int 1, bb]) (np := 4) rfl]
  unfold B_sizes
  generalize M_sizes_of = dof
  simp [env0, m_checkvat, lcM_cons, dAll, D.bools, m_checksmall (m := 0) (h := 1) (by decide) (by decide) (by decide) (by decide), chkB h]
theorem r7 (h : BadV bv) (a b c : D) : M_best [bv, a, b, c] p = .err "BadVat" bv p := by
  show callF 8 4 B_best [bv, a, b, c] p = _
  rw [callF_ok (ds := [bv, a, b, c]) (np := 4) rfl]
  unfold B_best
  generalize M_sizes_of = so
  generalize M_dying_of = dof
  simp [env0, chkS0 h]
theorem r8 (h : BadI 0 5 bm) (b c : D) : M_best [V.d, bm, b, c] p = .err "BadWeights" bm p := by
  show callF 8 4 B_best [V.d, bm, b, c] p = _
  rw [callF_ok (ds := [V.d, bm, b, c]) (np := 4) rfl]
  unfold B_best
  generalize M_sizes_of = so
  generalize M_dying_of = dof
  simp [env0, chkS1 h]
theorem r9 (h : BadI 1 20 bb) : M_best [V.d, .int 1, .int 1, bb] p = .err "BadBeats" bb p := by
  show callF 8 4 B_best [V.d, .int 1, .int 1, bb] p = _
  rw [callF_ok (ds := [V.d, .int 1, .int 1, bb]) (np := 4) rfl]
  unfold B_best
  generalize M_sizes_of = so
  generalize M_dying_of = dof
  simp [env0, m_checksmall (m := 1) (h := 1) (by decide) (by decide) (by decide) (by decide), chkB h]
theorem Sv.pl : V.d.pl = true := by simp [Sv.d, D.pl, D.pls]
theorem bad_v (d : D) (h : d ∈ [D.non, .tup [], .tup [.int 1, .int 1, .int 1], .tup [.int V.k, .int V.u, .int V.s, .tup [.int (-20), .int 20]]]) : BadV d := by
  simp only [List.mem_cons, List.not_mem_nil, or_false] at h
  have k0 := V.k0; have k1 := V.k1; have u0 := V.u0; have u1 := V.u1; have s0 := V.s0; have s1 := V.s1
  have sk : Sm V.k := V.smk
  have su : Sm V.u := V.smu
  have ss : Sm V.s := V.sms
  have sa : Sm (-20) := by unfold Sm; omega
  have sb : Sm 20 := by unfold Sm; omega
  rcases h with rfl | rfl | rfl | rfl
  · exact ⟨⟨rfl, rfl⟩, fun p => by simp [M_is_vat, B_is_vat, M_is_tuple, B_is_tuple, env0]⟩
  · exact ⟨⟨rfl, rfl⟩, fun p => by simp [M_is_vat, B_is_vat, M_is_tuple, B_is_tuple, env0]⟩
  · exact ⟨⟨rfl, by decide +kernel⟩, fun p => by simp [M_is_vat, B_is_vat, M_is_tuple, B_is_tuple, env0]⟩
  · refine ⟨⟨rfl, rp_of (sh_le (n := 2) ?_ (by decide)) ?_⟩, fun p => by simp [M_is_vat, B_is_vat, M_is_tuple, B_is_tuple, env0]⟩
    · rw [sh_tup]
      simp only [List.all_cons, List.all_nil, Bool.and_true, Bool.and_eq_true, sh_tup]
      exact ⟨sk.sh 1, su.sh 1, ss.sh 1, sa.sh 0, sb.sh 0⟩
    · have := sk.sz; have := su.sz; have := ss.sz; have := sa.sz; have := sb.sz
      show 3 + ((D.int V.k).sz + 2 + ((D.int V.u).sz + 2 + ((D.int V.s).sz + 2 + ((3 + ((D.int (-20)).sz + 2 + ((D.int 20).sz + 2 + 0))) + 2 + 0)))) ≤ _
      omega
theorem bad_m (d : D) (h : d ∈ [D.non, .int (-1), .int 6, .bl true]) : BadI 0 5 d := by
  simp only [List.mem_cons, List.not_mem_nil, or_false] at h
  rcases h with rfl | rfl | rfl | rfl
  all_goals exact ⟨⟨rfl, by decide +kernel⟩, fun p => by simp [M_is_integer, B_is_integer, M_is_whole, B_is_whole, env0]⟩
theorem bad_s (d : D) (h : d ∈ [D.non, .int 0, .int 51, .bl true]) : BadI 1 50 d := by
  simp only [List.mem_cons, List.not_mem_nil, or_false] at h
  rcases h with rfl | rfl | rfl | rfl
  all_goals exact ⟨⟨rfl, by decide +kernel⟩, fun p => by simp [M_is_integer, B_is_integer, M_is_whole, B_is_whole, env0]⟩
theorem bad_b (d : D) (h : d ∈ [D.non, .int 0, .int 21, .bl true]) : BadI 1 20 d := by
  simp only [List.mem_cons, List.not_mem_nil, or_false] at h
  rcases h with rfl | rfl | rfl | rfl
  all_goals exact ⟨⟨rfl, by decide +kernel⟩, fun p => by simp [M_is_integer, B_is_integer, M_is_whole, B_is_whole, env0]⟩
theorem r4a (s b d : D) (h : M_sizes [V.d, d, s, b] p = callF 5 4 B_sizes [V.d, d, s, b] p) : True := trivial
theorem bad_o (d : D) (h : d ∈ [D.non, .tup [.int 1, .int 1], .tup [.int 51, .int 0, .int 0], .lst [.int 1, .int 1, .int 1], .tup [.bl true, .int 0, .int 0]]) : BadO V d := by
  have e : ∀ (d s b : D) p, M_sizes [V.d, d, s, b] p = outF (B_sizes (env0 5 [V.d, d, s, b]) p) := fun d s b p => callF_ok rfl
  simp only [List.mem_cons, List.not_mem_nil, or_false] at h
  rcases h with rfl | rfl | rfl | rfl | rfl
  all_goals
    refine ⟨⟨rfl, by decide +kernel⟩, fun s b p => ?_⟩
    rw [e]
    unfold B_sizes
    generalize M_sizes_of = so
    simp [env0, m_checkvat, lcM_cons, dAll, D.bools, M_is_integer, B_is_integer, M_is_whole, B_is_whole]
end
end VL

namespace VL
open PySem PySem.Spec PyProof.Rows L2 LamX
theorem x_c1 : exs.contains "BadVat" = true := by decide +kernel
theorem x_c2 : exs.contains "BadWeights" = true := by decide +kernel
theorem x_c3 : exs.contains "BadBeats" = true := by decide +kernel
theorem x_11 (v : D) : dIsE exs sub_BadVat (.exc "BadVat" v) = some (.bl true) := dIsE_exc x_c1 (by decide +kernel) v
theorem x_12 (v : D) : dIsE exs sub_BadWeights (.exc "BadVat" v) = some (.bl false) := dIsE_exc x_c1 (by decide +kernel) v
theorem x_13 (v : D) : dIsE exs sub_BadBeats (.exc "BadVat" v) = some (.bl false) := dIsE_exc x_c1 (by decide +kernel) v
theorem x_21 (v : D) : dIsE exs sub_BadVat (.exc "BadWeights" v) = some (.bl false) := dIsE_exc x_c2 (by decide +kernel) v
theorem x_22 (v : D) : dIsE exs sub_BadWeights (.exc "BadWeights" v) = some (.bl true) := dIsE_exc x_c2 (by decide +kernel) v
theorem x_23 (v : D) : dIsE exs sub_BadBeats (.exc "BadWeights" v) = some (.bl false) := dIsE_exc x_c2 (by decide +kernel) v
theorem x_31 (v : D) : dIsE exs sub_BadVat (.exc "BadBeats" v) = some (.bl false) := dIsE_exc x_c3 (by decide +kernel) v
theorem x_32 (v : D) : dIsE exs sub_BadWeights (.exc "BadBeats" v) = some (.bl false) := dIsE_exc x_c3 (by decide +kernel) v
theorem x_33 (v : D) : dIsE exs sub_BadBeats (.exc "BadBeats" v) = some (.bl true) := dIsE_exc x_c3 (by decide +kernel) v
theorem x_v1 (v : D) : dVal exs (.exc "BadVat" v) = some v := dVal_exc x_c1 v
theorem x_v2 (v : D) : dVal exs (.exc "BadWeights" v) = some v := dVal_exc x_c2 v
theorem x_v3 (v : D) : dVal exs (.exc "BadBeats" v) = some v := dVal_exc x_c3 v
theorem ne_w1 : D.ne (.lst [.str "vat"]) (.lst [.str "vat"]) = some (.bl false) := by kernel_rfl
theorem ne_w2 : D.ne (.lst [.str "weights"]) (.lst [.str "weights"]) = some (.bl false) := by kernel_rfl
theorem ne_w3 : D.ne (.lst [.str "beats"]) (.lst [.str "beats"]) = some (.bl false) := by kernel_rfl
section
variable {V : Sv} {p : P3} {n : Nat} {bv bm bs bb bo : D}
theorem hheard {i : Nat} {ds : List D} {x : Str} {v : D} (hd : D.pls ds = true) (h : mls i ds p = .err x v p) (hx : exs.contains x = true) (hv : v.pl = true) : M__law_heard [.clo i ds] p = .ok (.tup [.exc x v, .non]) p := heard_err hd h hx hv
theorem refused33 (hp : Pot n p) (hn : n ≤ 2 ^ 51) : (M__law_are_refused [.pot, V.d] p).wp fun d p' => d = .bl true ∧ Pot (n + 5) p' := by
  have hsl : D.slice V.d none (some 4) = some (.tup [.int V.k, .int V.u, .int V.s, .tup [.int (-20), .int 20]]) := rfl
  show (callV 15 2 B__law_are_refused [.pot, V.d] p).wp _
  rw [callV_ok (ds := [.pot, V.d]) (np := 2) rfl]
  refine wp_outV ?_
  unfold B__law_are_refused
  simp only [ev_seq]
  simp [env0, hsl, onPl, D.pl, D.pls, Sv.pl]
  refine law_of n _ _ p _ (.inl rfl) hp (by omega) (by simp) (by simp) fun bv hv p1 hp1 => ?_
  refine law_of (n + 1) _ _ p1 _ (.inl rfl) hp1 (by omega) (by simp) (by simp) fun bm hm p2 hp2 => ?_
  refine law_of (n + 2) _ _ p2 _ (.inl rfl) hp2 (by omega) (by simp) (by simp) fun bs hs p3 hp3 => ?_
  refine law_of (n + 3) _ _ p3 _ (.inl rfl) hp3 (by omega) (by simp) (by simp) fun bb hb p4 hp4 => ?_
  refine law_of (n + 4) _ _ p4 _ (.inl rfl) hp4 (by omega) (by simp) (by simp) fun bo ho p5 hp5 => ?_
  have kv := bad_v (V := V) bv hv
  have km := bad_m bm hm
  have ks := bad_s bs hs
  have kb := bad_b bb hb
  have ko := bad_o (V := V) bo ho
  clear hv hm hs hb ho
  have hfa : ∀ {ds : List D} {d : D}, ds.length < 1000 → fApp ds d = some (ds ++ [d]) := fun h => fApp_sm h
  simp [hfa]
  have pv := kv.pl
  have pm := km.pl
  have ps := ks.pl
  have pb := kb.pl
  have po := ko.pl
  have hV : V.d.pl = true := Sv.pl
  have hh : ∀ (i : Nat) (ds : List D) (x : Str) (v : D), D.pls ds = true → mls i ds p5 = .err x v p5 → exs.contains x = true → v.pl = true → M__law_heard [.clo i ds] p5 = .ok (.tup [.exc x v, .non]) p5 := fun i ds x v a b c d => hheard a b c d
  have g0 := hh 0 [bv, bm, bs] "BadVat" bv (by simp [D.pls, pv, pm, ps]) (by simp [mls, m_lam_0, r0 kv]) x_c1 pv
  have g1 := hh 1 [V.d, bm, bs] "BadWeights" bm (by simp [D.pls, hV, pm, ps]) (by simp [mls, m_lam_1, r1 km]) x_c2 pm
  have g2 := hh 2 [V.d, bs] "BadWeights" bs (by simp [D.pls, hV, ps]) (by simp [mls, m_lam_2, r2 ks]) x_c2 ps
  have g3 := hh 3 [bv, bo, bs, bb] "BadVat" bv (by simp [D.pls, pv, po, ps, pb]) (by simp [mls, m_lam_3, r3 kv]) x_c1 pv
  have g4 := hh 4 [V.d, bo, bs, bb] "BadWeights" bo (by simp [D.pls, hV, po, ps, pb]) (by simp [mls, m_lam_4, ko.no]) x_c2 po
  have g5 := hh 5 [V.d, bs, bb] "BadWeights" bs (by simp [D.pls, hV, ps, pb]) (by simp [mls, m_lam_5, r5 ks]) x_c2 ps
  have g6 := hh 6 [V.d, bb] "BadBeats" bb (by simp [D.pls, hV, pb]) (by simp [mls, m_lam_6, r6 kb]) x_c3 pb
  have g7 := hh 7 [bv, bm, bs, bb] "BadVat" bv (by simp [D.pls, pv, pm, ps, pb]) (by simp [mls, m_lam_7, r7 kv]) x_c1 pv
  have g8 := hh 8 [V.d, bm, bs, bb] "BadWeights" bm (by simp [D.pls, hV, pm, ps, pb]) (by simp [mls, m_lam_8, r8 km]) x_c2 pm
  have g9 := hh 9 [V.d, bb] "BadBeats" bb (by simp [D.pls, hV, pb]) (by simp [mls, m_lam_9, r9 kb]) x_c3 pb
  have rv := kv.rp
  have rm := km.rp
  have rs := ks.rp
  have rb := kb.rp
  have ro := ko.rp
  clear hh kv km ks kb ko hsl hp hp1 hp2 hp3 hp4
  generalize M__law_heard = lh at *
  generalize hrows : [D.tup [D.own 0, D.str (Str.ofString "vat"), bv], D.tup [D.own 1, D.str (Str.ofString "weights"), bm],
          D.tup [D.own 2, D.str (Str.ofString "weights"), bs], D.tup [D.own 3, D.str (Str.ofString "vat"), bv],
          D.tup [D.own 4, D.str (Str.ofString "weights"), bo], D.tup [D.own 5, D.str (Str.ofString "weights"), bs],
          D.tup [D.own 6, D.str (Str.ofString "beats"), bb], D.tup [D.own 7, D.str (Str.ofString "vat"), bv],
          D.tup [D.own 8, D.str (Str.ofString "weights"), bm], D.tup [D.own 9, D.str (Str.ofString "beats"), bb]] = rows
  refine forL_eachD (fun env => ∃ o8 o9 o10 o11 o12 o13 o14, env = [some (.p .pot), some (.p V.d), some (.p bv), some (.p bm), some (.p bs), some (.p bb), some (.p bo), some (.p (.lst rows)), o8, o9, o10, o11, o12, o13, o14]) ?_ rows _ ?_ ⟨_, _, _, _, _, _, _, rfl⟩
  · rintro e ⟨o8, o9, o10, o11, o12, o13, o14, rfl⟩
    simp [retV]
    exact ⟨rfl, hp5⟩
  · rintro x hx env ⟨o8, o9, o10, o11, o12, o13, o14, rfl⟩
    rw [← hrows] at hx
    clear hrows
    simp only [List.mem_cons, List.not_mem_nil, or_false] at hx
    rcases hx with rfl | rfl | rfl | rfl | rfl | rfl | rfl | rfl | rfl | rfl
    all_goals
      refine ⟨_, rfl, ?_⟩
      simp [capDs, capD, caps__law_are_refused, List.lookup, getAll, pv, pm, ps, pb, po, hV, g0, g1, g2, g3, g4, g5, g6, g7, g8, g9, x_11, x_12, x_13, x_21, x_22, x_23, x_31, x_32, x_33, x_v1, x_v2, x_v3, hfa, lcM_cons, ne_w1, ne_w2, ne_w3, rv, rm, rs, rb, ro]
end
end VL

namespace VL
open PySem PySem.Spec PyProof.Rows L2 LamX
theorem right33 {n : Nat} {p : P3} (hp : Pot n p) (hn : n ≤ 2 ^ 40) : (M__law_right [.pot] p).wp fun d p' => d = .bl true ∧ Pot (n + 16) p' := by
  show (callF 13 1 B__law_right [.pot] p).wp _
  rw [right33_eq, callF_ok (ds := [D.pot]) (np := 1) rfl]
  have key : ∀ (V : Sv) (m h : Int) (k : Nat) (N : Int) (n' : Nat) (p' : P3), (m = 1 ∨ m = 2) → 1 ≤ h → h ≤ 4 → N = k → k ≤ 5 → 0 < k → Pot n' p' → n' ≤ 2 ^ 50 →
      (rt33 M__law_all M_does_die M_of_rule M__law_rule M_dying M_sizes M__law_sizes M__law_is_better M_best M__law_are_refused M__law_take [some (.p .pot), some (.p V.d), some (.p (.int m)), some (.p (.int h)), some (.p (.int N)), none, none, none, none, none, none, none, none] p').wp (wpF fun d p'' => d = .bl true ∧ Pot (n' + 8) p'') := by
    intro V m h k N n' p' hm h0 h1 hN hk hk0 hp' hn'
    refine rest_ok (aws := aw m) (b := fun t => W33 V (wOf t h)) (r := fun t => ruleD (wOf t h)) (g := fun t => gridD V (wOf t h)) (S := fun t => S33 V (wOf t h) k) law_tk (fun t => S_ok _ hk) (fun t ht => aw_ok hm h0 h1 ht) ?_ h0 h1
      (m_lallw hm) ?_ (fun t p => m_ofrule _) (fun t p => m_doesdie _) (fun p => m_dying hm h0 h1) (fun t kt p => m_sizes kt hN hk hk0) ?_ (fun o t p => m_lisbetter (S_ok _ hk) (S_ok _ hk)) (fun p => m_best hm h0 h1 hN hk hk0) hp' hn' (fun n p hp hn => refused33 hp hn)
    · rcases hm with rfl | rfl
      · rw [aw_len1]; decide
      · rw [aw_len2]; decide
    · intro t ht p
      have kk := wOf_ok (aw_ok hm h0 h1 ht)
      have := m_lrule (wOf t h) (p := p)
      rwa [kk.1, kk.2] at this
    · intro t kt p
      have kk := wOf_ok kt
      have := m_lsizes V (wOf t h) (p := p) hN hk hk0
      rwa [kk.1, kk.2] at this
  generalize rt33 M__law_all M_does_die M_of_rule M__law_rule M_dying M_sizes M__law_sizes M__law_is_better M_best M__law_are_refused M__law_take = R at key
  simp [env0]
  refine lsmall hp (by omega) fun V p1 hp1 => ?_
  refine law_tk _ 2 p1 _ hp1 (by omega) (by decide) (by decide) fun m p2 m0 m1 hp2 => ?_
  simp
  refine law_tk _ 4 p2 _ hp2 (by omega) (by decide) (by decide) fun h p3 h0 h1 hp3 => ?_
  simp
  refine law_tk _ 5 p3 _ hp3 (by omega) (by decide) (by decide) fun b p4 b0 b1 hp4 => ?_
  simp
  refine (key V (1 + m) (1 + h) (1 + b).toNat (1 + b) _ p4 (by omega) (by omega) (by omega) (by omega) (by omega) (by omega) hp4 (by omega)).mono ?_
  rintro ⟨fl, e⟩ p' hq
  cases fl with
  | ret d => exact ⟨hq.1, hq.2.mono (by omega)⟩
  | nx => exact ⟨hq.1, hq.2.mono (by omega)⟩
  | bk => exact hq
  | ct => exact hq
  | rtl d => exact hq
def plain33 : D := .tup [.int 1, .int 1, .int 1, .tup [.int (-9), .int 9], .tup [.int (-1), .int 1]]
theorem pl1 : M_dying [plain33, .int 1, .int 1] none = .ok (.tup [.tup [.int 1, .int 0, .int 0], .tup [.int 1, .int 1, .int 0]]) none := by kernel_rfl
theorem pl2 : M_best [plain33, .int 0, .int 1, .int 3] none = .ok (.tup []) none := by kernel_rfl
theorem pl3 : M_sizes [plain33, .tup [.int 1, .int 1, .int 0], .int 1, .int 3] none = .ok (.tup [.tup [.int 2, .int 1], .tup [.int 3, .int 1]]) none := by kernel_rfl
theorem pr1 : D.repr (.tup [.tup [.int 1, .int 0, .int 0], .tup [.int 1, .int 1, .int 0]]) = some (.str "((1, 0, 0), (1, 1, 0))") := by kernel_rfl
theorem pr3 : D.repr (.tup [.tup [.int 2, .int 1], .tup [.int 3, .int 1]]) = some (.str "((2, 1), (3, 1))") := by kernel_rfl
theorem pe2 : D.ne (.tup []) (.tup []) = some (.bl false) := by kernel_rfl
/-- held as a structure: nothing looks into it (looking into it evaluates the law's own head) -/
structure WpT (r : Res D) : Prop where
  h : r.wp fun d p => d = .bl true
def L33 (f1 f2 f3 fp f4 : List D → P3 → Res D) (ft : List D → P3 → Res (List D)) : MS := sSeq (xSet [] 1 (mTup (mCons (mC (.int 1)) (mCons (mC (.int 1)) (mCons (mC (.int 1)) (mCons (mTup (mCons (m1 D.usub (mC (.int 9))) (mCons (mC (.int 9)) (mNil)))) (mCons (mTup (mCons (m1 D.usub (mC (.int 1))) (mCons (mC (.int 1)) (mNil)))) (mNil)))))))) (sSeq (xIf [] (bOr (toB (m2 D.ne (mN dRepr (mCons (mCall (f1) (mCons (mVar 1) (mCons (mC (.int 1)) (mCons (mC (.int 1)) (mNil))))) (mNil))) (mC (.str "((1, 0, 0), (1, 1, 0))")))) (toB (m2 D.ne (mCall (f2) (mCons (mVar 1) (mCons (mC (.int 0)) (mCons (mC (.int 1)) (mCons (mC (.int 3)) (mNil)))))) (mTup (mNil))))) (sRet (mC (.bl false))) (sNil)) (sSeq (xIf [] (toB (m2 D.ne (mN dRepr (mCons (mCall (f3) (mCons (mVar 1) (mCons (mTup (mCons (mC (.int 1)) (mCons (mC (.int 1)) (mCons (mC (.int 0)) (mNil))))) (mCons (mC (.int 1)) (mCons (mC (.int 3)) (mNil)))))) (mNil))) (mC (.str "((2, 1), (3, 1))")))) (sRet (mC (.bl false))) (sNil)) (sSeq (sFor (eName 2) (mIter (mCall (fp) (mCons (mVar 0) (mCons (mC (.int 4)) (mNil))))) (sPot 3 (mCallN ft (mCons (mVar 0) (mCons (mVar 2) (mNil)))) (xIf [] (bNot (toB (mCall (f4) (mCons (mVar 3) (mNil))))) (sRet (mC (.bl false))) (sNil)))) (sRet (mC (.bl true))))))
theorem law_aux {f1 f2 f3 fp f4 : List D → P3 → Res D} {ft : List D → P3 → Res (List D)} (ns : List Int) (hpl : ∃ k : Int, 1 ≤ k ∧ k ≤ 1000 ∧ fp [.scr ns, .int 4] none = .ok (.lst (irange 0 k)) none) (hpt : PtOk ft)
    (q1 : f1 [plain33, .int 1, .int 1] none = .ok (.tup [.tup [.int 1, .int 0, .int 0], .tup [.int 1, .int 1, .int 0]]) none) (q2 : f2 [plain33, .int 0, .int 1, .int 3] none = .ok (.tup []) none) (q3 : f3 [plain33, .tup [.int 1, .int 1, .int 0], .int 1, .int 3] none = .ok (.tup [.tup [.int 2, .int 1], .tup [.int 3, .int 1]]) none)
    (hr : ∀ n p, Pot n p → n ≤ 2 ^ 40 → (f4 [.pot] p).wp fun d p' => d = .bl true ∧ Pot (n + 16) p') : WpT (callF 4 1 (L33 f1 f2 f3 fp f4 ft) [.scr ns] none) := by
  refine ⟨?_⟩
  obtain ⟨k, k0, k1, e⟩ := hpl
  rw [callF_ok (ds := [D.scr ns]) (np := 1) rfl]
  unfold plain33 at q1 q2 q3
  simp [L33, env0, q1, q2, q3, pr1, pr3, pe2, e]
  refine forL_each D.int (fun env => ∃ o1 o2 o3, env = [some (.p (.scr ns)), o1, o2, o3]) ?_ _ _ ?_ ⟨_, _, _, rfl⟩
  · rintro e ⟨o1, o2, o3, rfl⟩
    simp
  · rintro i hi env ⟨o1, o2, o3, rfl⟩
    refine ⟨_, rfl, ?_⟩
    obtain ⟨i0, i1⟩ := mem_ir.mp hi
    obtain ⟨x, y, x0, y0, y1, ep⟩ := hpt ns i none i0 (by omega)
    refine sPot_wp (x := x) (y := y) (z := 0) (by simp [ep]) ?_
    simp
    refine (hr 0 _ (pot0 x0 y0 y1) (by decide)).mono ?_
    rintro d p' ⟨rfl, hp'⟩
    obtain ⟨a, b, z, rfl, _⟩ := hp'
    simp [wpP, keepS]
theorem law_eq : M_law = callF 4 1 (L33 M_dying M_best M_sizes M__law_places M__law_right M__law_pot) := rfl
theorem wp_bl {r : Res D} (hw : WpT r) : ∃ p, r = .ok (.bl true) p := by
  have h := hw.h
  clear hw
  cases r with
  | ok d p => exact ⟨p, by rw [show d = .bl true from h]⟩
  | err x v p => exact h.elim
  | bad => exact h.elim
theorem law_math : ∀ ns : List Int, ns.length ≤ 63 → (∀ z ∈ ns, Builtin.Int.intBits z ≤ 1048576) → ∃ p, M_law [.scr ns] none = .ok (.bl true) p := by
  intro ns hns _
  rw [law_eq]
  exact wp_bl (law_aux ns (pl_ok hns (by decide) (by decide)) law_pot pl1 pl2 pl3 fun n p a b => right33 a b)
end VL

namespace VL
open PySem PySem.Spec PyProof.Rows L2 LamX
/-- the statement at place i of the program -/
def top (i : Nat) : Stmt := PySem.Challenge.pw_steeredback_k33_whole_weights_tried.main.body.getD i (.Pass ⟨0, 0, 0, 0⟩)
abbrev s_is_tuple : Stmt := top 1
abbrev s_is_whole : Stmt := top 2
abbrev s_is_integer : Stmt := top 3
abbrev s_common : Stmt := top 16
abbrev s_fraction : Stmt := top 17
abbrev s_is_row : Stmt := top 18
abbrev s_is_grid : Stmt := top 19
abbrev s_check_grid : Stmt := top 20
abbrev s_unit : Stmt := top 21
abbrev s_dot : Stmt := top 23
abbrev s_times : Stmt := top 22
abbrev s_applied : Stmt := top 24
abbrev s_power : Stmt := top 25
abbrev s_thinned : Stmt := top 26
abbrev s_last_row : Stmt := top 27
abbrev s_is_between : Stmt := top 38
abbrev s_is_vat : Stmt := top 39
abbrev s_check_vat : Stmt := top 40
abbrev s_is_rule : Stmt := top 46
abbrev s_check_rule : Stmt := top 47
abbrev s_own_row : Stmt := top 51
abbrev s_is_within : Stmt := top 52
abbrev s_does_die : Stmt := top 53
abbrev s_grid_by : Stmt := top 55
abbrev s_of_rule : Stmt := top 54
abbrev s_answers_of : Stmt := top 57
abbrev s_sum_of : Stmt := top 58
abbrev s_worst_of : Stmt := top 59
abbrev s_check_small : Stmt := top 65
abbrev s_rule_of : Stmt := top 66
abbrev s_all_weights : Stmt := top 67
abbrev s_dying_of : Stmt := top 68
abbrev s_dying : Stmt := top 69
abbrev s_looks_of : Stmt := top 70
abbrev s_sizes_of : Stmt := top 71
abbrev s_check_beats : Stmt := top 73
abbrev s_sizes : Stmt := top 72
abbrev s_is_less : Stmt := top 74
abbrev s_is_better : Stmt := top 75
abbrev s_best : Stmt := top 76
abbrev s__law_pot : Stmt := top 78
abbrev s__law_take : Stmt := top 79
abbrev s__law_of : Stmt := top 80
abbrev s__law_places : Stmt := top 81
abbrev s__law_heard : Stmt := top 82
abbrev s__law_common : Stmt := top 83
abbrev s__law_fraction : Stmt := top 84
abbrev s__law_plus : Stmt := top 85
abbrev s__law_by : Stmt := top 86
abbrev s__law_small : Stmt := top 87
abbrev s__law_rule : Stmt := top 88
abbrev s__law_all : Stmt := top 89
abbrev s__law_beat : Stmt := top 90
abbrev s__law_sizes : Stmt := top 91
abbrev s__law_less : Stmt := top 92
abbrev s__law_is_better : Stmt := top 93
abbrev s__law_are_refused : Stmt := top 94
abbrev s__law_right : Stmt := top 95
abbrev s_law : Stmt := top 96
structure Facts (P : Program) (w : World) (base : Heap) (g : Gx) : Prop where
  bt : Bt g.mg
  c_MOST_NUMBER : IntG g "MOST_NUMBER" 100000
  c_PAIR_grids : IntG g "PAIR_grids" 2
  c_MOST_UNDER_grids : IntG g "MOST_UNDER_grids" 10000
  c_MOST_SIZE : IntG g "MOST_SIZE" 4
  c_PAIR_vats : IntG g "PAIR_vats" 2
  c_FIVE_vats : IntG g "FIVE_vats" 5
  c_MOST_KEEPS : IntG g "MOST_KEEPS" 20
  c_MOST_UNDER_vats : IntG g "MOST_UNDER_vats" 20
  c_MOST_STRENGTH : IntG g "MOST_STRENGTH" 20
  c_MOST_LEVEL : IntG g "MOST_LEVEL" 200
  c_TRIPLE_vats : IntG g "TRIPLE_vats" 3
  c_MOST_WEATHER : IntG g "MOST_WEATHER" 50
  c_SEVEN : IntG g "SEVEN" 7
  c_MOST_WEIGHT_rules : IntG g "MOST_WEIGHT_rules" 50
  c_MOST_SUM : IntG g "MOST_SUM" 200
  c_MOST_LEVER : IntG g "MOST_LEVER" 50
  c_SIX : IntG g "SIX" 6
  c_TRIPLE_linear : IntG g "TRIPLE_linear" 3
  c_FIVE_linear : IntG g "FIVE_linear" 5
  c_MOST_WEIGHT_tuned : IntG g "MOST_WEIGHT_tuned" 5
  c_MOST_SHARE : IntG g "MOST_SHARE" 50
  c_TRIPLE_tuned : IntG g "TRIPLE_tuned" 3
  c_MOST_BEATS : IntG g "MOST_BEATS" 20
  e_BadGrid : ErrC P w base g "BadGrid"
  e_BadVat : ErrC P w base g "BadVat"
  e_BadRule : ErrC P w base g "BadRule"
  e_BadWeights : ErrC P w base g "BadWeights"
  e_BadBeats : ErrC P w base g "BadBeats"
  isc_BadWeights : IsC g exs "BadWeights" sub_BadWeights
  isc_BadVat : IsC g exs "BadVat" sub_BadVat
  isc_BadBeats : IsC g exs "BadBeats" sub_BadBeats
  cat_LeverError : CatC g exs "LeverError"
  val : ValC g exs
  fr_enumerate : g.mg "enumerate" = none
  d_is_tuple : DefAt g "is_tuple" s_is_tuple
  d_is_whole : DefAt g "is_whole" s_is_whole
  d_is_integer : DefAt g "is_integer" s_is_integer
  d_common : DefAt g "common" s_common
  d_fraction : DefAt g "fraction" s_fraction
  d_is_row : DefAt g "is_row" s_is_row
  d_is_grid : DefAt g "is_grid" s_is_grid
  d_check_grid : DefAt g "check_grid" s_check_grid
  d_unit : DefAt g "unit" s_unit
  d_dot : DefAt g "dot" s_dot
  d_times : DefAt g "times" s_times
  d_applied : DefAt g "applied" s_applied
  d_power : DefAt g "power" s_power
  d_thinned : DefAt g "thinned" s_thinned
  d_last_row : DefAt g "last_row" s_last_row
  d_is_between : DefAt g "is_between" s_is_between
  d_is_vat : DefAt g "is_vat" s_is_vat
  d_check_vat : DefAt g "check_vat" s_check_vat
  d_is_rule : DefAt g "is_rule" s_is_rule
  d_check_rule : DefAt g "check_rule" s_check_rule
  d_own_row : DefAt g "own_row" s_own_row
  d_is_within : DefAt g "is_within" s_is_within
  d_does_die : DefAt g "does_die" s_does_die
  d_grid_by : DefAt g "grid_by" s_grid_by
  d_of_rule : DefAt g "of_rule" s_of_rule
  d_answers_of : DefAt g "answers_of" s_answers_of
  d_sum_of : DefAt g "sum_of" s_sum_of
  d_worst_of : DefAt g "worst_of" s_worst_of
  d_check_small : DefAt g "check_small" s_check_small
  d_rule_of : DefAt g "rule_of" s_rule_of
  d_all_weights : DefAt g "all_weights" s_all_weights
  d_dying_of : DefAt g "dying_of" s_dying_of
  d_dying : DefAt g "dying" s_dying
  d_looks_of : DefAt g "looks_of" s_looks_of
  d_sizes_of : DefAt g "sizes_of" s_sizes_of
  d_check_beats : DefAt g "check_beats" s_check_beats
  d_sizes : DefAt g "sizes" s_sizes
  d_is_less : DefAt g "is_less" s_is_less
  d_is_better : DefAt g "is_better" s_is_better
  d_best : DefAt g "best" s_best
  d__law_pot : DefAt g "_law_pot" s__law_pot
  d__law_take : DefAt g "_law_take" s__law_take
  d__law_of : DefAt g "_law_of" s__law_of
  d__law_places : DefAt g "_law_places" s__law_places
  d__law_heard : DefAt g "_law_heard" s__law_heard
  d__law_common : DefAt g "_law_common" s__law_common
  d__law_fraction : DefAt g "_law_fraction" s__law_fraction
  d__law_plus : DefAt g "_law_plus" s__law_plus
  d__law_by : DefAt g "_law_by" s__law_by
  d__law_small : DefAt g "_law_small" s__law_small
  d__law_rule : DefAt g "_law_rule" s__law_rule
  d__law_all : DefAt g "_law_all" s__law_all
  d__law_beat : DefAt g "_law_beat" s__law_beat
  d__law_sizes : DefAt g "_law_sizes" s__law_sizes
  d__law_less : DefAt g "_law_less" s__law_less
  d__law_is_better : DefAt g "_law_is_better" s__law_is_better
  k__law_are_refused : MakerAt base g "_law_are_refused" s__law_are_refused
  d__law_right : DefAt g "_law_right" s__law_right
  d_law : DefAt g "law" s_law
def lam_0 : Lam := lamAt "_law_are_refused" s__law_are_refused 0 ["bad", "most", "share"]
def lam_1 : Lam := lamAt "_law_are_refused" s__law_are_refused 1 ["vat", "most", "share"]
def lam_2 : Lam := lamAt "_law_are_refused" s__law_are_refused 2 ["vat", "share"]
def lam_3 : Lam := lamAt "_law_are_refused" s__law_are_refused 3 ["bad", "odd", "share", "beats"]
def lam_4 : Lam := lamAt "_law_are_refused" s__law_are_refused 4 ["vat", "odd", "share", "beats"]
def lam_5 : Lam := lamAt "_law_are_refused" s__law_are_refused 5 ["vat", "share", "beats"]
def lam_6 : Lam := lamAt "_law_are_refused" s__law_are_refused 6 ["vat", "beats"]
def lam_7 : Lam := lamAt "_law_are_refused" s__law_are_refused 7 ["bad", "most", "share", "beats"]
def lam_8 : Lam := lamAt "_law_are_refused" s__law_are_refused 8 ["vat", "most", "share", "beats"]
def lam_9 : Lam := lamAt "_law_are_refused" s__law_are_refused 9 ["vat", "beats"]
def lams : Lams
  | 0 => some lam_0
  | 1 => some lam_1
  | 2 => some lam_2
  | 3 => some lam_3
  | 4 => some lam_4
  | 5 => some lam_5
  | 6 => some lam_6
  | 7 => some lam_7
  | 8 => some lam_8
  | 9 => some lam_9
  | _ => none
section
variable {P : Program} {w : World} {base : Heap} {g : Gx}
theorem sc_is_tuple : FnScope ["value", "least", "most"] ["value", "least", "most"] (L2.defScope s_is_tuple) := ⟨rfl, rfl, rfl, by decide +kernel, rfl, by decide +kernel, by decide +kernel⟩
theorem c_is_tuple (f : Facts P w base g)  : Cal P w base g 3 "is_tuple" ["value", "least", "most"] M_is_tuple :=
  cal_of (k := 2) (N := ["value", "least", "most"]) (m := B_is_tuple) f.d_is_tuple sc_is_tuple (fun _ _ _ _ _ _ us hl => match us, hl with | [_, _, _], _ => rfl) f.bt fun f0 cdv A outer s H E F =>
    (vss_one (vs_ret F.x.F (have F := F.x; (ve_and (x_isi F F.bt.tuple (by decide +kernel) (ve_var 0)) (ve_b1 (x_chain o_le o_le (ve_var 1) (x_len F (va_cons (ve_var 0) va_nil)) (ve_var 2)))))))
theorem sc_is_whole : FnScope ["value"] ["value"] (L2.defScope s_is_whole) := ⟨rfl, rfl, rfl, by decide +kernel, rfl, by decide +kernel, by decide +kernel⟩
theorem c_is_whole (f : Facts P w base g)  : Cal P w base g 3 "is_whole" ["value"] M_is_whole :=
  cal_of (k := 2) (N := ["value"]) (m := B_is_whole) f.d_is_whole sc_is_whole (fun _ _ _ _ _ _ us hl => match us, hl with | [_], _ => rfl) f.bt fun f0 cdv A outer s H E F =>
    (vss_one (vs_ret F.x.F (have F := F.x; (ve_and (x_isi F F.bt.int (by decide +kernel) (ve_var 0)) (ve_b1 (ve_not (x_isi F F.bt.bool (by decide +kernel) (ve_var 0))))))))
theorem sc_is_integer : FnScope ["value", "low", "high"] ["value", "low", "high"] (L2.defScope s_is_integer) := ⟨rfl, rfl, rfl, by decide +kernel, rfl, by decide +kernel, by decide +kernel⟩
theorem c_is_integer (f : Facts P w base g) (cal_is_whole : Cal P w base g 3 "is_whole" ["value"] M_is_whole) : Cal P w base g 4 "is_integer" ["value", "low", "high"] M_is_integer :=
  cal_of (k := 3) (N := ["value", "low", "high"]) (m := B_is_integer) f.d_is_integer sc_is_integer (fun _ _ _ _ _ _ us hl => match us, hl with | [_, _, _], _ => rfl) f.bt fun f0 cdv A outer s H E F =>
    (vss_one (vs_ret F.x.F (have F := F.x; (ve_and (ve_call (cal_is_whole) F.F (by omega) (va_cons (ve_var 0) va_nil)) (ve_b1 (x_chain o_le o_le (ve_var 1) (ve_var 0) (ve_var 2)))))))
theorem sc_common : FnScope ["one", "other"] ["one", "other"] (L2.defScope s_common) := ⟨rfl, rfl, rfl, by decide +kernel, rfl, by decide +kernel, by decide +kernel⟩
theorem c_common (f : Facts P w base g)  : Cal P w base g 3 "common" ["one", "other"] M_common :=
  cal_of (k := 2) (N := ["one", "other"]) (m := B_common) f.d_common sc_common (fun _ _ _ _ _ _ us hl => match us, hl with | [_, _], _ => rfl) f.bt fun f0 cdv A outer s H E F =>
    (vss_cons (vs_while fuel F.own (have F := F.x; (t_cmp (o_ne F) (ve_var 1) ve_int)) (vss_one (vs_par2 F.x.F.calm F.x.nd (pels_p (ve_var 1) (pels_p (ve_mod (ve_var 0) (ve_var 1)) PEls.nil)) (by decide)))) (vss_one (vs_ret F.x.F (ve_var 0))))
theorem sc_fraction : FnScope ["over", "under", "share"] ["over", "under"] (L2.defScope s_fraction) := ⟨rfl, rfl, rfl, by decide +kernel, rfl, by decide +kernel, by decide +kernel⟩
theorem c_fraction (f : Facts P w base g) (cal_common : Cal P w base g 3 "common" ["one", "other"] M_common) : Cal P w base g 4 "fraction" ["over", "under"] M_fraction :=
  cal_of (k := 3) (N := ["over", "under", "share"]) (m := B_fraction) f.d_fraction sc_fraction (fun _ _ _ _ _ _ us hl => match us, hl with | [_, _], _ => rfl) f.bt fun f0 cdv A outer s H E F =>
    (vss_cons (vx_if (t_cmp o_lt (ve_var 1) ve_int) (vss_one (vs_par2 F.x.F.calm F.x.nd (pels_p (ve_neg (ve_var 0)) (pels_p (ve_neg (ve_var 1)) PEls.nil)) (by decide))) vss_nil) (vss_cons (vx_set F.x.nd (have F := F.x; (ve_call (cal_common) F.F (by omega) (va_cons (x_abs F (va_cons (ve_var 0) va_nil)) (va_cons (ve_var 1) va_nil))))) (vss_one (vs_ret F.x.F (ve_tup (va_cons (ve_fdiv (ve_var 0) (ve_var 2)) (va_cons (ve_fdiv (ve_var 1) (ve_var 2)) va_nil)))))))
theorem sc_is_row : FnScope ["value", "many", "one"] ["value", "many"] (L2.defScope s_is_row) := ⟨rfl, rfl, rfl, by decide +kernel, rfl, by decide +kernel, by decide +kernel⟩
theorem c_is_row (f : Facts P w base g) (cal_is_tuple : Cal P w base g 3 "is_tuple" ["value", "least", "most"] M_is_tuple) (cal_is_integer : Cal P w base g 4 "is_integer" ["value", "low", "high"] M_is_integer) : Cal P w base g 5 "is_row" ["value", "many"] M_is_row :=
  cal_of (k := 4) (N := ["value", "many", "one"]) (m := B_is_row) f.d_is_row sc_is_row (fun _ _ _ _ _ _ us hl => match us, hl with | [_, _], _ => rfl) f.bt fun f0 cdv A outer s H E F =>
    (vss_one (vs_ret F.x.F (have F := F.x; (ve_and (ve_call (cal_is_tuple) F.F (by omega) (va_cons (ve_var 0) (va_cons (ve_var 1) (va_cons (ve_var 1) va_nil)))) (ve_b1 (x_all F (va_cons (ve_new (n_lc [("one", 2)] F (i_seq F (ve_var 0)) (tg_name F) (fun _ _ _ _ _ F => pts_none) (fun _ _ _ _ _ F => (ve_call (cal_is_integer) F.F (by omega) (va_cons (ve_var 2) (va_cons (ve_neg (x_gint F f.c_MOST_NUMBER)) (va_cons (x_gint F f.c_MOST_NUMBER) va_nil))))))) va_nil)))))))
theorem sc_is_grid : FnScope ["value", "row"] ["value"] (L2.defScope s_is_grid) := ⟨rfl, rfl, rfl, by decide +kernel, rfl, by decide +kernel, by decide +kernel⟩
theorem c_is_grid (f : Facts P w base g) (cal_is_tuple : Cal P w base g 3 "is_tuple" ["value", "least", "most"] M_is_tuple) (cal_is_integer : Cal P w base g 4 "is_integer" ["value", "low", "high"] M_is_integer) (cal_is_row : Cal P w base g 5 "is_row" ["value", "many"] M_is_row) : Cal P w base g 6 "is_grid" ["value"] M_is_grid :=
  cal_of (k := 5) (N := ["value", "row"]) (m := B_is_grid) f.d_is_grid sc_is_grid (fun _ _ _ _ _ _ us hl => match us, hl with | [_], _ => rfl) f.bt fun f0 cdv A outer s H E F =>
    (vss_cons (vx_if (have F := F.x; (PW.pt (vw_or (vt_not (vt_val (ve_call (cal_is_tuple) F.F (by omega) (va_cons (ve_var 0) (va_cons (x_gint F f.c_PAIR_grids) (va_cons (x_gint F f.c_PAIR_grids) va_nil)))))) (vw_or1 (vt_not (vt_val (ve_call (cal_is_integer) F.F (by omega) (va_cons (x_ix F (ve_var 0) ve_int) (va_cons ve_int (va_cons (x_gint F f.c_MOST_UNDER_grids) va_nil)))))))))) (vss_one (vs_ret F.x.F ve_bl)) vss_nil) (vss_cons (vx_if (have F := F.x; (vt_not (vt_val (ve_call (cal_is_tuple) F.F (by omega) (va_cons (x_ix F (ve_var 0) ve_int) (va_cons ve_int (va_cons (x_gint F f.c_MOST_SIZE) va_nil))))))) (vss_one (vs_ret F.x.F ve_bl)) vss_nil) (vss_one (vs_ret F.x.F (have F := F.x; (x_all F (va_cons (ve_new (n_lc [("row", 1)] F (i_seq F (x_ix F (ve_var 0) ve_int)) (tg_name F) (fun _ _ _ _ _ F => pts_none) (fun _ _ _ _ _ F => (ve_call (cal_is_row) F.F (by omega) (va_cons (ve_var 1) (va_cons (x_len F (va_cons (x_ix F (ve_var 0) ve_int) va_nil)) va_nil)))))) va_nil)))))))
theorem sc_check_grid : FnScope ["value"] ["value"] (L2.defScope s_check_grid) := ⟨rfl, rfl, rfl, by decide +kernel, rfl, by decide +kernel, by decide +kernel⟩
theorem c_check_grid (f : Facts P w base g) (cal_is_grid : Cal P w base g 6 "is_grid" ["value"] M_is_grid) : Cal P w base g 7 "check_grid" ["value"] M_check_grid :=
  cal_of (k := 6) (N := ["value"]) (m := B_check_grid) f.d_check_grid sc_check_grid (fun _ _ _ _ _ _ us hl => match us, hl with | [_], _ => rfl) f.bt fun f0 cdv A outer s H E F =>
    (vss_one (vx_if (have F := F.x; (vt_not (vt_val (ve_call (cal_is_grid) F.F (by omega) (va_cons (ve_var 0) va_nil))))) (vss_one (vx_raise F.x.F (by omega) f.e_BadGrid (ve_var 0))) vss_nil))
theorem sc_unit : FnScope ["many", "one", "other"] ["many"] (L2.defScope s_unit) := ⟨rfl, rfl, rfl, by decide +kernel, rfl, by decide +kernel, by decide +kernel⟩
theorem c_unit (f : Facts P w base g)  : Cal P w base g 3 "unit" ["many"] M_unit :=
  cal_of (k := 2) (N := ["many", "one", "other"]) (m := B_unit) f.d_unit sc_unit (fun _ _ _ _ _ _ us hl => match us, hl with | [_], _ => rfl) f.bt fun f0 cdv A outer s H E F =>
    (vss_one (vs_ret F.x.F (have F := F.x; (x_tuple2 F (va_cons (ve_new (n_lc [("one", 1)] F (vi_range1 F.bt.range (va_cons (ve_var 0) va_nil)) (tg_name F) (fun _ _ _ _ _ F => pts_none) (fun _ _ _ _ _ F => (x_tuple2 F (va_cons (ve_new (n_lc [("other", 2)] F (vi_range1 F.bt.range (va_cons (ve_var 0) va_nil)) (tg_name F) (fun _ _ _ _ _ F => pts_none) (fun _ _ _ _ _ F => (x_int F (va_cons (x_cmp (o_eq F) (ve_var 1) (ve_var 2)) va_nil))))) va_nil))))) va_nil)))))
theorem sc_dot : FnScope ["one", "other", "mine", "its"] ["one", "other"] (L2.defScope s_dot) := ⟨rfl, rfl, rfl, by decide +kernel, rfl, by decide +kernel, by decide +kernel⟩
theorem c_dot (f : Facts P w base g)  : Cal P w base g 3 "dot" ["one", "other"] M_dot :=
  cal_of (k := 2) (N := ["one", "other", "mine", "its"]) (m := B_dot) f.d_dot sc_dot (fun _ _ _ _ _ _ us hl => match us, hl with | [_, _], _ => rfl) f.bt fun f0 cdv A outer s H E F =>
    (vss_one (vs_ret F.x.F (have F := F.x; (x_sum F (va_cons (ve_new (n_lc [("mine", 2), ("its", 3)] F (i_zip2 F (va_cons (ve_var 0) (va_cons (ve_var 1) va_nil))) (tg_tup F (tgn_cons F (tgn_cons F TgN.nil))) (fun _ _ _ _ _ F => pts_none) (fun _ _ _ _ _ F => (x_mul F (ve_var 2) (ve_var 3))))) va_nil)))))
theorem sc_times : FnScope ["one", "other", "columns", "at", "row", "column"] ["one", "other"] (L2.defScope s_times) := ⟨rfl, rfl, rfl, by decide +kernel, rfl, by decide +kernel, by decide +kernel⟩
theorem c_times (f : Facts P w base g) (cal_dot : Cal P w base g 3 "dot" ["one", "other"] M_dot) : Cal P w base g 4 "times" ["one", "other"] M_times :=
  cal_of (k := 3) (N := ["one", "other", "columns", "at", "row", "column"]) (m := B_times) f.d_times sc_times (fun _ _ _ _ _ _ us hl => match us, hl with | [_, _], _ => rfl) f.bt fun f0 cdv A outer s H E F =>
    (vss_cons (vx_set F.x.nd (ve_new (have F := F.x; (n_lc [("at", 3)] F (vi_range1 F.bt.range (va_cons (x_len F (va_cons (x_ix F (ve_var 1) ve_int) va_nil)) va_nil)) (tg_name F) (fun _ _ _ _ _ F => pts_none) (fun _ _ _ _ _ F => (ve_new (n_lc [("row", 4)] F (i_seq F (ve_var 1)) (tg_name F) (fun _ _ _ _ _ F => pts_none) (fun _ _ _ _ _ F => (x_ix F (ve_var 4) (ve_var 3)))))))))) (vss_one (vs_ret F.x.F (have F := F.x; (x_tuple2 F (va_cons (ve_new (n_lc [("row", 4)] F (i_seq F (ve_var 0)) (tg_name F) (fun _ _ _ _ _ F => pts_none) (fun _ _ _ _ _ F => (x_tuple2 F (va_cons (ve_new (n_lc [("column", 5)] F (i_seq F (ve_var 2)) (tg_name F) (fun _ _ _ _ _ F => pts_none) (fun _ _ _ _ _ F => (ve_call (cal_dot) F.F (by omega) (va_cons (ve_var 4) (va_cons (ve_var 5) va_nil)))))) va_nil))))) va_nil))))))
theorem sc_applied : FnScope ["rows", "row", "line"] ["rows", "row"] (L2.defScope s_applied) := ⟨rfl, rfl, rfl, by decide +kernel, rfl, by decide +kernel, by decide +kernel⟩
theorem c_applied (f : Facts P w base g) (cal_dot : Cal P w base g 3 "dot" ["one", "other"] M_dot) : Cal P w base g 4 "applied" ["rows", "row"] M_applied :=
  cal_of (k := 3) (N := ["rows", "row", "line"]) (m := B_applied) f.d_applied sc_applied (fun _ _ _ _ _ _ us hl => match us, hl with | [_, _], _ => rfl) f.bt fun f0 cdv A outer s H E F =>
    (vss_one (vs_ret F.x.F (have F := F.x; (x_tuple2 F (va_cons (ve_new (n_lc [("line", 2)] F (i_seq F (ve_var 0)) (tg_name F) (fun _ _ _ _ _ F => pts_none) (fun _ _ _ _ _ F => (ve_call (cal_dot) F.F (by omega) (va_cons (ve_var 2) (va_cons (ve_var 1) va_nil)))))) va_nil)))))
theorem sc_power : FnScope ["number", "many", "found", "lap"] ["number", "many"] (L2.defScope s_power) := ⟨rfl, rfl, rfl, by decide +kernel, rfl, by decide +kernel, by decide +kernel⟩
theorem c_power (f : Facts P w base g)  : Cal P w base g 3 "power" ["number", "many"] M_power :=
  cal_of (k := 2) (N := ["number", "many", "found", "lap"]) (m := B_power) f.d_power sc_power (fun _ _ _ _ _ _ us hl => match us, hl with | [_, _], _ => rfl) f.bt fun f0 cdv A outer s H E F =>
    (vss_cons (vx_set F.x.nd ve_int) (vss_cons (vs_for F.own F.x.F.calm (have F := F.x; (vi_range1 F.bt.range (va_cons (ve_var 1) va_nil))) (pg_name F.x.nd rfl (by first | exact Or.inl rfl | exact Or.inr rfl) (by first | exact .inl rfl | exact .inr rfl)) be_name (vss_one (vx_set F.x.nd (have F := F.x; (x_mul F (ve_var 2) (ve_var 0)))))) (vss_one (vs_ret F.x.F (ve_var 2)))))
theorem sc_thinned : FnScope ["row", "share", "one"] ["row"] (L2.defScope s_thinned) := ⟨rfl, rfl, rfl, by decide +kernel, rfl, by decide +kernel, by decide +kernel⟩
theorem c_thinned (f : Facts P w base g) (cal_common : Cal P w base g 3 "common" ["one", "other"] M_common) : Cal P w base g 4 "thinned" ["row"] M_thinned :=
  cal_of (k := 3) (N := ["row", "share", "one"]) (m := B_thinned) f.d_thinned sc_thinned (fun _ _ _ _ _ _ us hl => match us, hl with | [_], _ => rfl) f.bt fun f0 cdv A outer s H E F =>
    (vss_cons (vx_set F.x.nd ve_int) (vss_cons (vs_for F.own F.x.F.calm (have F := F.x; (i_seq F (ve_var 0))) (pg_name F.x.nd rfl (by first | exact Or.inl rfl | exact Or.inr rfl) (by first | exact .inl rfl | exact .inr rfl)) be_name (vss_one (vx_set F.x.nd (have F := F.x; (ve_call (cal_common) F.F (by omega) (va_cons (ve_var 1) (va_cons (x_abs F (va_cons (ve_var 2) va_nil)) va_nil))))))) (vss_one (vs_ret F.x.F (have F := F.x; (ve_if (t_cmp o_gt (ve_var 1) ve_int) (ve_new (n_lc [("one", 2)] F (i_seq F (ve_var 0)) (tg_name F) (fun _ _ _ _ _ F => pts_none) (fun _ _ _ _ _ F => (ve_fdiv (ve_var 2) (ve_var 1))))) (ve_new (n_list2 F (va_cons (ve_var 0) va_nil)))))))))
theorem sc_last_row : FnScope ["rows", "many", "found", "here", "lap", "both", "number", "one", "at"] ["rows"] (L2.defScope s_last_row) := ⟨rfl, rfl, rfl, by decide +kernel, rfl, by decide +kernel, by decide +kernel⟩
theorem c_last_row (f : Facts P w base g) (cal_unit : Cal P w base g 3 "unit" ["many"] M_unit) (cal_times : Cal P w base g 4 "times" ["one", "other"] M_times) : Cal P w base g 5 "last_row" ["rows"] M_last_row :=
  cal_of (k := 4) (N := ["rows", "many", "found", "here", "lap", "both", "number", "one", "at"]) (m := B_last_row) f.d_last_row sc_last_row (fun _ _ _ _ _ _ us hl => match us, hl with | [_], _ => rfl) f.bt fun f0 cdv A outer s H E F =>
    (vss_cons (vx_set F.x.nd (have F := F.x; (x_len F (va_cons (ve_var 0) va_nil)))) (vss_cons (vs_par2 F.x.F.calm F.x.nd (pels_l (vn_lst (va_cons ve_int va_nil)) (pels_p (have F := F.x; (ve_call (cal_unit) F.F (by omega) (va_cons (ve_var 1) va_nil))) PEls.nil)) (by decide)) (vss_cons (vs_for F.own F.x.F.calm (have F := F.x; (vi_range2 F.bt.range (va_cons ve_int (va_cons (x_add F (ve_var 1) ve_int) va_nil)))) (pg_name F.x.nd rfl (by first | exact Or.inl rfl | exact Or.inr rfl) (by first | exact .inl rfl | exact .inr rfl)) be_name (vss_cons (vx_set F.x.nd (have F := F.x; (ve_call (cal_times) F.F (by omega) (va_cons (ve_var 0) (va_cons (ve_var 3) va_nil))))) (vss_cons (vx_set F.x.nd (have F := F.x; (ve_fdiv (ve_neg (x_sum F (va_cons (ve_new (n_lc [("at", 8)] F (vi_range1 F.bt.range (va_cons (ve_var 1) va_nil)) (tg_name F) (fun _ _ _ _ _ F => pts_none) (fun _ _ _ _ _ F => (x_ix F (x_ix F (ve_var 5) (ve_var 8)) (ve_var 8))))) va_nil))) (ve_var 4)))) (vss_cons (vx_app (ve_var 6)) (vss_one (vx_set F.x.nd (have F := F.x; (x_tuple2 F (va_cons (ve_new (n_lc [("one", 7)] F (vi_range1 F.bt.range (va_cons (ve_var 1) va_nil)) (tg_name F) (fun _ _ _ _ _ F => pts_none) (fun _ _ _ _ _ F => (x_tuple2 F (va_cons (ve_new (n_lc [("at", 8)] F (vi_range1 F.bt.range (va_cons (ve_var 1) va_nil)) (tg_name F) (fun _ _ _ _ _ F => pts_none) (fun _ _ _ _ _ F => (x_add F (x_ix F (x_ix F (ve_var 5) (ve_var 7)) (ve_var 8)) (x_mul F (ve_var 6) (x_int F (va_cons (x_cmp (o_eq F) (ve_var 7) (ve_var 8)) va_nil))))))) va_nil))))) va_nil))))))))) (vss_freeze 2 (vss_one (vs_ret F.x.F (have F := F.x; (x_tuple2 F (va_cons (x_rev F (ve_var 2)) va_nil)))))))))
theorem sc_is_between : FnScope ["value", "most"] ["value", "most"] (L2.defScope s_is_between) := ⟨rfl, rfl, rfl, by decide +kernel, rfl, by decide +kernel, by decide +kernel⟩
theorem c_is_between (f : Facts P w base g) (cal_is_tuple : Cal P w base g 3 "is_tuple" ["value", "least", "most"] M_is_tuple) (cal_is_integer : Cal P w base g 4 "is_integer" ["value", "low", "high"] M_is_integer) : Cal P w base g 5 "is_between" ["value", "most"] M_is_between :=
  cal_of (k := 4) (N := ["value", "most"]) (m := B_is_between) f.d_is_between sc_is_between (fun _ _ _ _ _ _ us hl => match us, hl with | [_, _], _ => rfl) f.bt fun f0 cdv A outer s H E F =>
    (vss_cons (vx_if (have F := F.x; (PW.pt (vw_or (vt_not (vt_val (ve_call (cal_is_tuple) F.F (by omega) (va_cons (ve_var 0) (va_cons (x_gint F f.c_PAIR_vats) (va_cons (x_gint F f.c_PAIR_vats) va_nil)))))) (vw_or1 (vt_not (vt_val (ve_call (cal_is_integer) F.F (by omega) (va_cons (x_ix F (ve_var 0) ve_int) (va_cons (ve_neg (ve_var 1)) (va_cons (ve_var 1) va_nil)))))))))) (vss_one (vs_ret F.x.F ve_bl)) vss_nil) (vss_one (vs_ret F.x.F (have F := F.x; (ve_call (cal_is_integer) F.F (by omega) (va_cons (x_ix F (ve_var 0) ve_int) (va_cons (x_ix F (ve_var 0) ve_int) (va_cons (ve_var 1) va_nil))))))))
theorem sc_is_vat : FnScope ["value"] ["value"] (L2.defScope s_is_vat) := ⟨rfl, rfl, rfl, by decide +kernel, rfl, by decide +kernel, by decide +kernel⟩
theorem c_is_vat (f : Facts P w base g) (cal_is_tuple : Cal P w base g 3 "is_tuple" ["value", "least", "most"] M_is_tuple) (cal_is_integer : Cal P w base g 4 "is_integer" ["value", "low", "high"] M_is_integer) (cal_is_between : Cal P w base g 5 "is_between" ["value", "most"] M_is_between) : Cal P w base g 6 "is_vat" ["value"] M_is_vat :=
  cal_of (k := 5) (N := ["value"]) (m := B_is_vat) f.d_is_vat sc_is_vat (fun _ _ _ _ _ _ us hl => match us, hl with | [_], _ => rfl) f.bt fun f0 cdv A outer s H E F =>
    (vss_cons (vx_if (have F := F.x; (PW.pt (vw_or (vt_not (vt_val (ve_call (cal_is_tuple) F.F (by omega) (va_cons (ve_var 0) (va_cons (x_gint F f.c_FIVE_vats) (va_cons (x_gint F f.c_FIVE_vats) va_nil)))))) (vw_or1 (vt_not (vt_val (ve_call (cal_is_integer) F.F (by omega) (va_cons (x_ix F (ve_var 0) ve_int) (va_cons ve_int (va_cons (x_gint F f.c_MOST_KEEPS) va_nil)))))))))) (vss_one (vs_ret F.x.F ve_bl)) vss_nil) (vss_cons (vx_if (have F := F.x; (PW.pt (vw_or (vt_not (vt_val (ve_call (cal_is_integer) F.F (by omega) (va_cons (x_ix F (ve_var 0) ve_int) (va_cons ve_int (va_cons (x_gint F f.c_MOST_UNDER_vats) va_nil)))))) (vw_or1 (vt_not (vt_val (ve_call (cal_is_integer) F.F (by omega) (va_cons (x_ix F (ve_var 0) (x_gint F f.c_PAIR_vats)) (va_cons (ve_neg (x_gint F f.c_MOST_STRENGTH)) (va_cons (x_gint F f.c_MOST_STRENGTH) va_nil)))))))))) (vss_one (vs_ret F.x.F ve_bl)) vss_nil) (vss_one (vs_ret F.x.F (have F := F.x; (ve_and (ve_call (cal_is_between) F.F (by omega) (va_cons (x_ix F (ve_var 0) (x_gint F f.c_TRIPLE_vats)) (va_cons (x_gint F f.c_MOST_LEVEL) va_nil))) (ve_b1 (ve_call (cal_is_between) F.F (by omega) (va_cons (x_ix F (ve_var 0) (x_add F (x_gint F f.c_TRIPLE_vats) ve_int)) (va_cons (x_gint F f.c_MOST_WEATHER) va_nil))))))))))
theorem sc_check_vat : FnScope ["value"] ["value"] (L2.defScope s_check_vat) := ⟨rfl, rfl, rfl, by decide +kernel, rfl, by decide +kernel, by decide +kernel⟩
theorem c_check_vat (f : Facts P w base g) (cal_is_vat : Cal P w base g 6 "is_vat" ["value"] M_is_vat) : Cal P w base g 7 "check_vat" ["value"] M_check_vat :=
  cal_of (k := 6) (N := ["value"]) (m := B_check_vat) f.d_check_vat sc_check_vat (fun _ _ _ _ _ _ us hl => match us, hl with | [_], _ => rfl) f.bt fun f0 cdv A outer s H E F =>
    (vss_one (vx_if (have F := F.x; (vt_not (vt_val (ve_call (cal_is_vat) F.F (by omega) (va_cons (ve_var 0) va_nil))))) (vss_one (vx_raise F.x.F (by omega) f.e_BadVat (ve_var 0))) vss_nil))
theorem sc_is_rule : FnScope ["value", "one"] ["value"] (L2.defScope s_is_rule) := ⟨rfl, rfl, rfl, by decide +kernel, rfl, by decide +kernel, by decide +kernel⟩
theorem c_is_rule (f : Facts P w base g) (cal_is_tuple : Cal P w base g 3 "is_tuple" ["value", "least", "most"] M_is_tuple) (cal_is_integer : Cal P w base g 4 "is_integer" ["value", "low", "high"] M_is_integer) (cal_is_between : Cal P w base g 5 "is_between" ["value", "most"] M_is_between) : Cal P w base g 6 "is_rule" ["value"] M_is_rule :=
  cal_of (k := 5) (N := ["value", "one"]) (m := B_is_rule) f.d_is_rule sc_is_rule (fun _ _ _ _ _ _ us hl => match us, hl with | [_], _ => rfl) f.bt fun f0 cdv A outer s H E F =>
    (vss_cons (vx_if (have F := F.x; (PW.pt (vw_or (vt_not (vt_val (ve_call (cal_is_tuple) F.F (by omega) (va_cons (ve_var 0) (va_cons (x_gint F f.c_SEVEN) (va_cons (x_gint F f.c_SEVEN) va_nil)))))) (vw_or1 (vt_not (vt_val (ve_call (cal_is_integer) F.F (by omega) (va_cons (x_ix F (ve_var 0) ve_int) (va_cons (ve_neg (x_gint F f.c_MOST_LEVEL)) (va_cons (x_gint F f.c_MOST_LEVEL) va_nil)))))))))) (vss_one (vs_ret F.x.F ve_bl)) vss_nil) (vss_cons (vx_if (have F := F.x; (vt_not (vt_val (x_all F (va_cons (ve_new (n_lc [("one", 1)] F (i_seq F (x_slice F (ve_var 0) (vo_some ve_int) (vo_some (ve_sub (x_gint F f.c_FIVE_vats) ve_int)))) (tg_name F) (fun _ _ _ _ _ F => pts_none) (fun _ _ _ _ _ F => (ve_call (cal_is_integer) F.F (by omega) (va_cons (ve_var 1) (va_cons (ve_neg (x_gint F f.c_MOST_WEIGHT_rules)) (va_cons (x_gint F f.c_MOST_WEIGHT_rules) va_nil))))))) va_nil))))) (vss_one (vs_ret F.x.F ve_bl)) vss_nil) (vss_cons (vx_if (have F := F.x; (PW.pt (vw_or (vt_not (vt_val (ve_call (cal_is_integer) F.F (by omega) (va_cons (x_ix F (ve_var 0) (ve_sub (x_gint F f.c_FIVE_vats) ve_int)) (va_cons ve_int (va_cons (x_gint F f.c_MOST_WEIGHT_rules) va_nil)))))) (vw_or1 (vt_not (vt_val (ve_call (cal_is_integer) F.F (by omega) (va_cons (x_ix F (ve_var 0) (x_gint F f.c_FIVE_vats)) (va_cons ve_int (va_cons (x_gint F f.c_MOST_SUM) va_nil)))))))))) (vss_one (vs_ret F.x.F ve_bl)) vss_nil) (vss_one (vs_ret F.x.F (have F := F.x; (ve_call (cal_is_between) F.F (by omega) (va_cons (x_ix F (ve_var 0) (x_gint F f.c_SIX)) (va_cons (x_gint F f.c_MOST_LEVER) va_nil)))))))))
theorem sc_check_rule : FnScope ["vat", "value"] ["vat", "value"] (L2.defScope s_check_rule) := ⟨rfl, rfl, rfl, by decide +kernel, rfl, by decide +kernel, by decide +kernel⟩
theorem c_check_rule (f : Facts P w base g) (cal_check_vat : Cal P w base g 7 "check_vat" ["value"] M_check_vat) (cal_is_rule : Cal P w base g 6 "is_rule" ["value"] M_is_rule) : Cal P w base g 8 "check_rule" ["vat", "value"] M_check_rule :=
  cal_of (k := 7) (N := ["vat", "value"]) (m := B_check_rule) f.d_check_rule sc_check_rule (fun _ _ _ _ _ _ us hl => match us, hl with | [_, _], _ => rfl) f.bt fun f0 cdv A outer s H E F =>
    (vss_cons (vx_expr (have F := F.x; (ve_call (cal_check_vat) F.F (by omega) (va_cons (ve_var 0) va_nil)))) (vss_one (vx_if (have F := F.x; (vt_not (vt_val (ve_call (cal_is_rule) F.F (by omega) (va_cons (ve_var 1) va_nil))))) (vss_one (vx_raise F.x.F (by omega) f.e_BadRule (ve_var 1))) vss_nil)))
theorem sc_own_row : FnScope ["grid", "at", "one"] ["grid"] (L2.defScope s_own_row) := ⟨rfl, rfl, rfl, by decide +kernel, rfl, by decide +kernel, by decide +kernel⟩
theorem c_own_row (f : Facts P w base g) (cal_power : Cal P w base g 3 "power" ["number", "many"] M_power) (cal_last_row : Cal P w base g 5 "last_row" ["rows"] M_last_row) : Cal P w base g 6 "own_row" ["grid"] M_own_row :=
  cal_of (k := 5) (N := ["grid", "at", "one"]) (m := B_own_row) f.d_own_row sc_own_row (fun _ _ _ _ _ _ us hl => match us, hl with | [_], _ => rfl) f.bt fun f0 cdv A outer s H E F =>
    (vss_one (vs_ret F.x.F (have F := F.x; (x_tuple2 F (va_cons (ve_new (n_lc [("at", 1), ("one", 2)] F (i_enum F f.fr_enumerate (va_cons (ve_call (cal_last_row) F.F (by omega) (va_cons (x_ix F (ve_var 0) ve_int) va_nil)) va_nil)) (tg_tup F (tgn_cons F (tgn_cons F TgN.nil))) (fun _ _ _ _ _ F => pts_none) (fun _ _ _ _ _ F => (x_mul F (ve_var 2) (ve_call (cal_power) F.F (by omega) (va_cons (x_ix F (ve_var 0) ve_int) (va_cons (ve_var 1) va_nil))))))) va_nil)))))
theorem sc_is_within : FnScope ["row", "here", "one", "its"] ["row"] (L2.defScope s_is_within) := ⟨rfl, rfl, rfl, by decide +kernel, rfl, by decide +kernel, by decide +kernel⟩
theorem c_is_within (f : Facts P w base g) (cal_thinned : Cal P w base g 4 "thinned" ["row"] M_thinned) : Cal P w base g 5 "is_within" ["row"] M_is_within :=
  cal_of (k := 4) (N := ["row", "here", "one", "its"]) (m := B_is_within) f.d_is_within sc_is_within (fun _ _ _ _ _ _ us hl => match us, hl with | [_], _ => rfl) f.bt fun f0 cdv A outer s H E F =>
    (vss_cons (vx_set F.x.nd (have F := F.x; (ve_new (n_list2 F (va_cons (ve_var 0) va_nil))))) (vss_cons (vs_while fuel F.own (have F := F.x; (t_cmp o_gt (x_len F (va_cons (ve_var 1) va_nil)) ve_int)) (vss_cons (vx_if (have F := F.x; (t_cmp o_ge (x_abs F (va_cons (x_ix F (ve_var 1) ve_int) va_nil)) (x_abs F (va_cons (x_ix F (ve_var 1) (ve_neg ve_int)) va_nil)))) (vss_one (vs_ret F.x.F ve_bl)) vss_nil) (vss_one (vx_set F.x.nd (have F := F.x; (ve_call (cal_thinned) F.F (by omega) (va_cons (x_slice F (ve_new (n_lc [("one", 2), ("its", 3)] F (i_zip2 F (va_cons (ve_var 1) (va_cons (x_rev F (ve_var 1)) va_nil))) (tg_tup F (tgn_cons F (tgn_cons F TgN.nil))) (fun _ _ _ _ _ F => pts_none) (fun _ _ _ _ _ F => (ve_sub (x_mul F (x_ix F (ve_var 1) (ve_neg ve_int)) (ve_var 2)) (x_mul F (x_ix F (ve_var 1) ve_int) (ve_var 3)))))) (vo_some ve_int) vo_no) va_nil))))))) (vss_one (vs_ret F.x.F ve_bl))))
theorem sc_does_die : FnScope ["grid"] ["grid"] (L2.defScope s_does_die) := ⟨rfl, rfl, rfl, by decide +kernel, rfl, by decide +kernel, by decide +kernel⟩
theorem c_does_die (f : Facts P w base g) (cal_check_grid : Cal P w base g 7 "check_grid" ["value"] M_check_grid) (cal_own_row : Cal P w base g 6 "own_row" ["grid"] M_own_row) (cal_is_within : Cal P w base g 5 "is_within" ["row"] M_is_within) : Cal P w base g 8 "does_die" ["grid"] M_does_die :=
  cal_of (k := 7) (N := ["grid"]) (m := B_does_die) f.d_does_die sc_does_die (fun _ _ _ _ _ _ us hl => match us, hl with | [_], _ => rfl) f.bt fun f0 cdv A outer s H E F =>
    (vss_cons (vx_expr (have F := F.x; (ve_call (cal_check_grid) F.F (by omega) (va_cons (ve_var 0) va_nil)))) (vss_one (vs_ret F.x.F (have F := F.x; (ve_call (cal_is_within) F.F (by omega) (va_cons (ve_call (cal_own_row) F.F (by omega) (va_cons (ve_var 0) va_nil)) va_nil))))))
theorem sc_grid_by : FnScope ["vat", "rule", "keeps", "under", "strength", "error", "total", "change", "share", "both", "level"] ["vat", "rule"] (L2.defScope s_grid_by) := ⟨rfl, rfl, rfl, by decide +kernel, rfl, by decide +kernel, by decide +kernel⟩
theorem c_grid_by (f : Facts P w base g)  : Cal P w base g 3 "grid_by" ["vat", "rule"] M_grid_by :=
  cal_of (k := 2) (N := ["vat", "rule", "keeps", "under", "strength", "error", "total", "change", "share", "both", "level"]) (m := B_grid_by) f.d_grid_by sc_grid_by (fun _ _ _ _ _ _ us hl => match us, hl with | [_, _], _ => rfl) f.bt fun f0 cdv A outer s H E F =>
    (vss_cons (vx_tup F.x.F.calm F.x.K (tn_cons F.x.nd (tn_cons F.x.nd (tn_cons F.x.nd tn_nil))) (have F := F.x; (x_slice F (ve_var 0) vo_no (vo_some (x_gint F f.c_TRIPLE_linear))))) (vss_cons (vx_tup F.x.F.calm F.x.K (tn_cons F.x.nd (tn_cons F.x.nd (tn_cons F.x.nd (tn_cons F.x.nd tn_nil)))) (have F := F.x; (x_slice F (ve_var 1) (vo_some ve_int) (vo_some (x_gint F f.c_FIVE_linear))))) (vss_cons (vx_set F.x.nd (have F := F.x; (x_mul F (ve_var 3) (ve_var 8)))) (vss_cons (vx_set F.x.nd (have F := F.x; (ve_sub (x_mul F (ve_var 2) (ve_var 8)) (x_mul F (x_mul F (ve_var 4) (x_add F (x_add F (ve_var 5) (ve_var 6)) (ve_var 7))) (ve_var 3))))) (vss_cons (vx_if (have F := F.x; (t_cmp (o_eq F) (x_mul F (ve_var 4) (ve_var 6)) ve_int)) (vss_one (vs_ret F.x.F (have F := F.x; (ve_tup (va_cons (ve_tup (va_cons (ve_tup (va_cons (ve_var 10) (va_cons (x_mul F (x_mul F (ve_neg (ve_var 4)) (ve_var 7)) (ve_var 3)) va_nil))) (va_cons (ve_tup (va_cons (ve_neg (ve_var 9)) (va_cons ve_int va_nil))) va_nil))) (va_cons (ve_var 9) va_nil)))))) vss_nil) (vss_one (vs_ret F.x.F (have F := F.x; (ve_tup (va_cons (ve_tup (va_cons (ve_tup (va_cons (ve_var 10) (va_cons (x_mul F (x_mul F (ve_var 4) (ve_var 6)) (ve_var 3)) (va_cons (x_mul F (x_mul F (ve_neg (ve_var 4)) (ve_var 7)) (ve_var 3)) va_nil)))) (va_cons (ve_tup (va_cons (ve_neg (ve_var 9)) (va_cons (ve_var 9) (va_cons ve_int va_nil)))) (va_cons (ve_tup (va_cons (ve_neg (ve_var 9)) (va_cons ve_int (va_cons ve_int va_nil)))) va_nil)))) (va_cons (ve_var 9) va_nil)))))))))))
theorem sc_of_rule : FnScope ["vat", "rule"] ["vat", "rule"] (L2.defScope s_of_rule) := ⟨rfl, rfl, rfl, by decide +kernel, rfl, by decide +kernel, by decide +kernel⟩
theorem c_of_rule (f : Facts P w base g) (cal_check_rule : Cal P w base g 8 "check_rule" ["vat", "value"] M_check_rule) (cal_grid_by : Cal P w base g 3 "grid_by" ["vat", "rule"] M_grid_by) : Cal P w base g 9 "of_rule" ["vat", "rule"] M_of_rule :=
  cal_of (k := 8) (N := ["vat", "rule"]) (m := B_of_rule) f.d_of_rule sc_of_rule (fun _ _ _ _ _ _ us hl => match us, hl with | [_, _], _ => rfl) f.bt fun f0 cdv A outer s H E F =>
    (vss_cons (vx_expr (have F := F.x; (ve_call (cal_check_rule) F.F (by omega) (va_cons (ve_var 0) (va_cons (ve_var 1) va_nil))))) (vss_one (vs_ret F.x.F (have F := F.x; (ve_call (cal_grid_by) F.F (by omega) (va_cons (ve_var 0) (va_cons (ve_var 1) va_nil)))))))
theorem sc_answers_of : FnScope ["grid", "push", "look", "beats", "found", "here", "lap"] ["grid", "push", "look", "beats"] (L2.defScope s_answers_of) := ⟨rfl, rfl, rfl, by decide +kernel, rfl, by decide +kernel, by decide +kernel⟩
theorem c_answers_of (f : Facts P w base g) (cal_dot : Cal P w base g 3 "dot" ["one", "other"] M_dot) (cal_applied : Cal P w base g 4 "applied" ["rows", "row"] M_applied) : Cal P w base g 5 "answers_of" ["grid", "push", "look", "beats"] M_answers_of :=
  cal_of (k := 4) (N := ["grid", "push", "look", "beats", "found", "here", "lap"]) (m := B_answers_of) f.d_answers_of sc_answers_of (fun _ _ _ _ _ _ us hl => match us, hl with | [_, _, _, _], _ => rfl) f.bt fun f0 cdv A outer s H E F =>
    (vss_cons (vs_par2 F.x.F.calm F.x.nd (pels_l (vn_lst va_nil) (pels_p (ve_var 1) PEls.nil)) (by decide)) (vss_cons (vs_for F.own F.x.F.calm (have F := F.x; (vi_range1 F.bt.range (va_cons (ve_var 3) va_nil))) (pg_name F.x.nd rfl (by first | exact Or.inl rfl | exact Or.inr rfl) (by first | exact .inl rfl | exact .inr rfl)) be_name (vss_cons (vx_app (have F := F.x; (ve_call (cal_dot) F.F (by omega) (va_cons (ve_var 2) (va_cons (ve_var 5) va_nil))))) (vss_one (vx_set F.x.nd (have F := F.x; (ve_call (cal_applied) F.F (by omega) (va_cons (x_ix F (ve_var 0) ve_int) (va_cons (ve_var 5) va_nil)))))))) (vss_freeze 4 (vss_one (vs_ret F.x.F (ve_var 4))))))
theorem sc_sum_of : FnScope ["grid", "numbers", "total", "under", "one"] ["grid", "numbers"] (L2.defScope s_sum_of) := ⟨rfl, rfl, rfl, by decide +kernel, rfl, by decide +kernel, by decide +kernel⟩
theorem c_sum_of (f : Facts P w base g) (cal_fraction : Cal P w base g 4 "fraction" ["over", "under"] M_fraction) (cal_power : Cal P w base g 3 "power" ["number", "many"] M_power) : Cal P w base g 5 "sum_of" ["grid", "numbers"] M_sum_of :=
  cal_of (k := 4) (N := ["grid", "numbers", "total", "under", "one"]) (m := B_sum_of) f.d_sum_of sc_sum_of (fun _ _ _ _ _ _ us hl => match us, hl with | [_, _], _ => rfl) f.bt fun f0 cdv A outer s H E F =>
    (vss_cons (vs_tupEl F.x.F.calm (tn_cons F.x.nd (tn_cons F.x.nd tn_nil)) (pels_p ve_int (pels_p ve_int PEls.nil)) rfl (by decide)) (vss_cons (vs_for F.own F.x.F.calm (have F := F.x; (i_seq F (x_rev F (ve_var 1)))) (pg_name F.x.nd rfl (by first | exact Or.inl rfl | exact Or.inr rfl) (by first | exact .inl rfl | exact .inr rfl)) be_name (vss_one (vs_par2 F.x.F.calm F.x.nd (pels_p (have F := F.x; (x_add F (ve_var 2) (x_mul F (ve_var 4) (ve_var 3)))) (pels_p (have F := F.x; (x_mul F (ve_var 3) (x_ix F (ve_var 0) ve_int))) PEls.nil)) (by decide)))) (vss_one (vs_ret F.x.F (have F := F.x; (ve_call (cal_fraction) F.F (by omega) (va_cons (ve_var 2) (va_cons (ve_call (cal_power) F.F (by omega) (va_cons (x_ix F (ve_var 0) ve_int) (va_cons (x_max2 F (va_cons ve_int (va_cons (ve_sub (x_len F (va_cons (ve_var 1) va_nil)) ve_int) va_nil))) va_nil))) va_nil))))))))
theorem sc_worst_of : FnScope ["grid", "push", "look", "weather", "beats", "some", "row", "one", "its"] ["grid", "push", "look", "weather", "beats"] (L2.defScope s_worst_of) := ⟨rfl, rfl, rfl, by decide +kernel, rfl, by decide +kernel, by decide +kernel⟩
theorem c_worst_of (f : Facts P w base g) (cal_answers_of : Cal P w base g 5 "answers_of" ["grid", "push", "look", "beats"] M_answers_of) (cal_sum_of : Cal P w base g 5 "sum_of" ["grid", "numbers"] M_sum_of) : Cal P w base g 6 "worst_of" ["grid", "push", "look", "weather", "beats"] M_worst_of :=
  cal_of (k := 5) (N := ["grid", "push", "look", "weather", "beats", "some", "row", "one", "its"]) (m := B_worst_of) f.d_worst_of sc_worst_of (fun _ _ _ _ _ _ us hl => match us, hl with | [_, _, _, _, _], _ => rfl) f.bt fun f0 cdv A outer s H E F =>
    (vss_cons (vx_set F.x.nd (have F := F.x; (ve_call (cal_answers_of) F.F (by omega) (va_cons (ve_var 0) (va_cons (ve_var 1) (va_cons (ve_var 2) (va_cons (ve_var 4) va_nil))))))) (vss_cons (s_newLc [("one", 7)] F.x (have F := F.x; (i_seq F (ve_var 5))) (tg_name F.x) (fun _ _ _ _ _ F => pts_none) (fun _ _ _ _ _ F => (ve_if (t_cmp o_gt (ve_var 7) ve_int) (x_ix F (ve_var 3) ve_int) (ve_if (t_cmp o_lt (ve_var 7) ve_int) (x_ix F (ve_var 3) ve_int) ve_int)))) (vss_freeze 6 (vss_one (vs_ret F.x.F (have F := F.x; (ve_tup (va_cons (ve_call (cal_sum_of) F.F (by omega) (va_cons (ve_var 0) (va_cons (ve_new (n_lc [("one", 7), ("its", 8)] F (i_zip2 F (va_cons (ve_var 5) (va_cons (ve_var 6) va_nil))) (tg_tup F (tgn_cons F (tgn_cons F TgN.nil))) (fun _ _ _ _ _ F => pts_none) (fun _ _ _ _ _ F => (x_mul F (ve_var 7) (ve_var 8))))) va_nil))) (va_cons (x_tuple2 F (va_cons (x_rev F (ve_var 6)) va_nil)) va_nil)))))))))
theorem sc_check_small : FnScope ["vat", "most", "share"] ["vat", "most", "share"] (L2.defScope s_check_small) := ⟨rfl, rfl, rfl, by decide +kernel, rfl, by decide +kernel, by decide +kernel⟩
theorem c_check_small (f : Facts P w base g) (cal_is_integer : Cal P w base g 4 "is_integer" ["value", "low", "high"] M_is_integer) (cal_check_vat : Cal P w base g 7 "check_vat" ["value"] M_check_vat) : Cal P w base g 8 "check_small" ["vat", "most", "share"] M_check_small :=
  cal_of (k := 7) (N := ["vat", "most", "share"]) (m := B_check_small) f.d_check_small sc_check_small (fun _ _ _ _ _ _ us hl => match us, hl with | [_, _, _], _ => rfl) f.bt fun f0 cdv A outer s H E F =>
    (vss_cons (vx_expr (have F := F.x; (ve_call (cal_check_vat) F.F (by omega) (va_cons (ve_var 0) va_nil)))) (vss_cons (vx_if (have F := F.x; (vt_not (vt_val (ve_call (cal_is_integer) F.F (by omega) (va_cons (ve_var 1) (va_cons ve_int (va_cons (x_gint F f.c_MOST_WEIGHT_tuned) va_nil))))))) (vss_one (vx_raise F.x.F (by omega) f.e_BadWeights (ve_var 1))) vss_nil) (vss_one (vx_if (have F := F.x; (vt_not (vt_val (ve_call (cal_is_integer) F.F (by omega) (va_cons (ve_var 2) (va_cons ve_int (va_cons (x_gint F f.c_MOST_SHARE) va_nil))))))) (vss_one (vx_raise F.x.F (by omega) f.e_BadWeights (ve_var 2))) vss_nil))))
theorem sc_rule_of : FnScope ["weights", "share"] ["weights", "share"] (L2.defScope s_rule_of) := ⟨rfl, rfl, rfl, by decide +kernel, rfl, by decide +kernel, by decide +kernel⟩
theorem c_rule_of (f : Facts P w base g)  : Cal P w base g 3 "rule_of" ["weights", "share"] M_rule_of :=
  cal_of (k := 2) (N := ["weights", "share"]) (m := B_rule_of) f.d_rule_of sc_rule_of (fun _ _ _ _ _ _ us hl => match us, hl with | [_, _], _ => rfl) f.bt fun f0 cdv A outer s H E F =>
    (vss_one (vs_ret F.x.F (have F := F.x; (ve_tup (va_cons ve_int (va_seq F (ve_var 0) (va_cons (ve_var 1) (va_cons ve_int (va_cons (ve_tup (va_cons ve_int (va_cons ve_int va_nil))) va_nil)))))))))
theorem sc_all_weights : FnScope ["most", "found", "lap", "longer", "row", "one"] ["most"] (L2.defScope s_all_weights) := ⟨rfl, rfl, rfl, by decide +kernel, rfl, by decide +kernel, by decide +kernel⟩
theorem c_all_weights (f : Facts P w base g)  : Cal P w base g 3 "all_weights" ["most"] M_all_weights :=
  cal_of (k := 2) (N := ["most", "found", "lap", "longer", "row", "one"]) (m := B_all_weights) f.d_all_weights sc_all_weights (fun _ _ _ _ _ _ us hl => match us, hl with | [_], _ => rfl) f.bt fun f0 cdv A outer s H E F =>
    (vss_cons (vx_set F.x.nd (ve_new (vn_lst (va_cons (ve_tup va_nil) va_nil)))) (vss_cons (vs_for F.own F.x.F.calm (have F := F.x; (vi_range1 F.bt.range (va_cons (x_gint F f.c_TRIPLE_tuned) va_nil))) (pg_name F.x.nd rfl (by first | exact Or.inl rfl | exact Or.inr rfl) (by first | exact .inl rfl | exact .inr rfl)) be_name (vss_cons (vx_new F.x.nd (vn_lst va_nil)) (vss_cons (vs_for F.own F.x.F.calm (have F := F.x; (i_seq F (ve_var 1))) (pg_name F.x.nd rfl (by first | exact Or.inl rfl | exact Or.inr rfl) (by first | exact .inl rfl | exact .inr rfl)) be_name (vss_one (vx_ext (have F := F.x; (ve_new (n_lc [("one", 5)] F (vi_range2 F.bt.range (va_cons (ve_neg (ve_var 0)) (va_cons (x_add F (ve_var 0) ve_int) va_nil))) (tg_name F) (fun _ _ _ _ _ F => pts_none) (fun _ _ _ _ _ F => (ve_tup (va_seq F (ve_var 4) (va_cons (ve_var 5) va_nil)))))))))) (vss_freeze 3 (vss_one (vx_set F.x.nd (ve_var 3))))))) (vss_one (vs_ret F.x.F (ve_var 1)))))
theorem sc_dying_of : FnScope ["vat", "most", "share", "one"] ["vat", "most", "share"] (L2.defScope s_dying_of) := ⟨rfl, rfl, rfl, by decide +kernel, rfl, by decide +kernel, by decide +kernel⟩
theorem c_dying_of (f : Facts P w base g) (cal_own_row : Cal P w base g 6 "own_row" ["grid"] M_own_row) (cal_is_within : Cal P w base g 5 "is_within" ["row"] M_is_within) (cal_grid_by : Cal P w base g 3 "grid_by" ["vat", "rule"] M_grid_by) (cal_rule_of : Cal P w base g 3 "rule_of" ["weights", "share"] M_rule_of) (cal_all_weights : Cal P w base g 3 "all_weights" ["most"] M_all_weights) : Cal P w base g 7 "dying_of" ["vat", "most", "share"] M_dying_of :=
  cal_of (k := 6) (N := ["vat", "most", "share", "one"]) (m := B_dying_of) f.d_dying_of sc_dying_of (fun _ _ _ _ _ _ us hl => match us, hl with | [_, _, _], _ => rfl) f.bt fun f0 cdv A outer s H E F =>
    (vss_one (vs_ret F.x.F (have F := F.x; (ve_new (n_lc [("one", 3)] F (i_seq F (ve_call (cal_all_weights) F.F (by omega) (va_cons (ve_var 1) va_nil))) (tg_name F) (fun _ _ _ _ _ F => pts_one (vt_val (ve_call (cal_is_within) F.F (by omega) (va_cons (ve_call (cal_own_row) F.F (by omega) (va_cons (ve_call (cal_grid_by) F.F (by omega) (va_cons (ve_var 0) (va_cons (ve_call (cal_rule_of) F.F (by omega) (va_cons (ve_var 3) (va_cons (ve_var 2) va_nil))) va_nil))) va_nil)) va_nil)))) (fun _ _ _ _ _ F => (ve_var 3)))))))
theorem sc_dying : FnScope ["vat", "most", "share"] ["vat", "most", "share"] (L2.defScope s_dying) := ⟨rfl, rfl, rfl, by decide +kernel, rfl, by decide +kernel, by decide +kernel⟩
theorem c_dying (f : Facts P w base g) (cal_check_small : Cal P w base g 8 "check_small" ["vat", "most", "share"] M_check_small) (cal_dying_of : Cal P w base g 7 "dying_of" ["vat", "most", "share"] M_dying_of) : Cal P w base g 9 "dying" ["vat", "most", "share"] M_dying :=
  cal_of (k := 8) (N := ["vat", "most", "share"]) (m := B_dying) f.d_dying sc_dying (fun _ _ _ _ _ _ us hl => match us, hl with | [_, _, _], _ => rfl) f.bt fun f0 cdv A outer s H E F =>
    (vss_cons (vx_expr (have F := F.x; (ve_call (cal_check_small) F.F (by omega) (va_cons (ve_var 0) (va_cons (ve_var 1) (va_cons (ve_var 2) va_nil)))))) (vss_one (vs_ret F.x.F (have F := F.x; (x_tuple2 F (va_cons (ve_call (cal_dying_of) F.F (by omega) (va_cons (ve_var 0) (va_cons (ve_var 1) (va_cons (ve_var 2) va_nil)))) va_nil))))))
theorem sc_looks_of : FnScope ["vat", "weights", "share", "error", "total", "change", "many", "level", "at", "lever"] ["vat", "weights", "share"] (L2.defScope s_looks_of) := ⟨rfl, rfl, rfl, by decide +kernel, rfl, by decide +kernel, by decide +kernel⟩
theorem c_looks_of (f : Facts P w base g) (cal_grid_by : Cal P w base g 3 "grid_by" ["vat", "rule"] M_grid_by) (cal_rule_of : Cal P w base g 3 "rule_of" ["weights", "share"] M_rule_of) : Cal P w base g 4 "looks_of" ["vat", "weights", "share"] M_looks_of :=
  cal_of (k := 3) (N := ["vat", "weights", "share", "error", "total", "change", "many", "level", "at", "lever"]) (m := B_looks_of) f.d_looks_of sc_looks_of (fun _ _ _ _ _ _ us hl => match us, hl with | [_, _, _], _ => rfl) f.bt fun f0 cdv A outer s H E F =>
    (vss_cons (vx_tup F.x.F.calm F.x.K (tn_cons F.x.nd (tn_cons F.x.nd (tn_cons F.x.nd tn_nil))) (ve_var 1)) (vss_cons (vx_set F.x.nd (have F := F.x; (x_len F (va_cons (x_ix F (ve_call (cal_grid_by) F.F (by omega) (va_cons (ve_var 0) (va_cons (ve_call (cal_rule_of) F.F (by omega) (va_cons (ve_var 1) (va_cons (ve_var 2) va_nil))) va_nil))) ve_int) va_nil)))) (vss_cons (vx_set F.x.nd (have F := F.x; (x_tuple2 F (va_cons (ve_new (n_lc [("at", 8)] F (vi_range1 F.bt.range (va_cons (ve_var 6) va_nil)) (tg_name F) (fun _ _ _ _ _ F => pts_none) (fun _ _ _ _ _ F => (x_int F (va_cons (x_cmp (o_eq F) (ve_var 8) ve_int) va_nil))))) va_nil)))) (vss_cons (vx_set F.x.nd (have F := F.x; (ve_if (t_cmp (o_eq F) (ve_var 6) (x_gint F f.c_TRIPLE_tuned)) (ve_tup (va_cons (ve_sub (ve_sub (ve_neg (ve_var 3)) (ve_var 4)) (ve_var 5)) (va_cons (ve_var 4) (va_cons (ve_neg (ve_var 5)) va_nil)))) (ve_tup (va_cons (ve_sub (ve_neg (ve_var 3)) (ve_var 5)) (va_cons (ve_neg (ve_var 5)) va_nil)))))) (vss_one (vs_ret F.x.F (ve_tup (va_cons (ve_var 7) (va_cons (ve_var 9) va_nil)))))))))
theorem sc_sizes_of : FnScope ["vat", "weights", "share", "beats", "grid", "push", "at", "size", "level", "lever", "most", "look"] ["vat", "weights", "share", "beats"] (L2.defScope s_sizes_of) := ⟨rfl, rfl, rfl, by decide +kernel, rfl, by decide +kernel, by decide +kernel⟩
theorem c_sizes_of (f : Facts P w base g) (cal_fraction : Cal P w base g 4 "fraction" ["over", "under"] M_fraction) (cal_grid_by : Cal P w base g 3 "grid_by" ["vat", "rule"] M_grid_by) (cal_worst_of : Cal P w base g 6 "worst_of" ["grid", "push", "look", "weather", "beats"] M_worst_of) (cal_rule_of : Cal P w base g 3 "rule_of" ["weights", "share"] M_rule_of) (cal_looks_of : Cal P w base g 4 "looks_of" ["vat", "weights", "share"] M_looks_of) : Cal P w base g 7 "sizes_of" ["vat", "weights", "share", "beats"] M_sizes_of :=
  cal_of (k := 6) (N := ["vat", "weights", "share", "beats", "grid", "push", "at", "size", "level", "lever", "most", "look"]) (m := B_sizes_of) f.d_sizes_of sc_sizes_of (fun _ _ _ _ _ _ us hl => match us, hl with | [_, _, _, _], _ => rfl) f.bt fun f0 cdv A outer s H E F =>
    (vss_cons (vx_set F.x.nd (have F := F.x; (ve_call (cal_grid_by) F.F (by omega) (va_cons (ve_var 0) (va_cons (ve_call (cal_rule_of) F.F (by omega) (va_cons (ve_var 1) (va_cons (ve_var 2) va_nil))) va_nil))))) (vss_cons (vx_set F.x.nd (have F := F.x; (x_tuple2 F (va_cons (ve_new (n_lc [("at", 6)] F (vi_range1 F.bt.range (va_cons (x_len F (va_cons (x_ix F (ve_var 4) ve_int) va_nil)) va_nil)) (tg_name F) (fun _ _ _ _ _ F => pts_none) (fun _ _ _ _ _ F => (x_int F (va_cons (x_cmp (o_eq F) (ve_var 6) ve_int) va_nil))))) va_nil)))) (vss_cons (vx_set F.x.nd (have F := F.x; (x_max2 F (va_cons (x_abs F (va_cons (x_ix F (x_ix F (ve_var 0) (x_add F (x_gint F f.c_TRIPLE_tuned) ve_int)) ve_int) va_nil)) (va_cons (x_abs F (va_cons (x_ix F (x_ix F (ve_var 0) (x_add F (x_gint F f.c_TRIPLE_tuned) ve_int)) ve_int) va_nil)) va_nil))))) (vss_cons (vx_tup F.x.F.calm F.x.K (tn_cons F.x.nd (tn_cons F.x.nd tn_nil)) (have F := F.x; (ve_call (cal_looks_of) F.F (by omega) (va_cons (ve_var 0) (va_cons (ve_var 1) (va_cons (ve_var 2) va_nil)))))) (vss_cons (s_newLc [("look", 11)] F.x (have F := F.x; (i_seq F (ve_tup (va_cons (ve_var 8) (va_cons (ve_var 9) va_nil))))) (tg_name F.x) (fun _ _ _ _ _ F => pts_none) (fun _ _ _ _ _ F => (x_ix F (ve_call (cal_worst_of) F.F (by omega) (va_cons (ve_var 4) (va_cons (ve_var 5) (va_cons (ve_var 11) (va_cons (ve_tup (va_cons (ve_neg (ve_var 7)) (va_cons (ve_var 7) va_nil))) (va_cons (ve_var 3) va_nil)))))) ve_int))) (vss_freeze 10 (vss_one (vs_ret F.x.F (have F := F.x; (ve_tup (va_cons (x_ix F (ve_var 10) ve_int) (va_cons (ve_call (cal_fraction) F.F (by omega) (va_cons (x_ix F (x_ix F (ve_var 10) ve_int) ve_int) (va_cons (x_mul F (x_ix F (x_ix F (ve_var 10) ve_int) ve_int) (ve_var 2)) va_nil))) va_nil))))))))))))
theorem sc_check_beats : FnScope ["value"] ["value"] (L2.defScope s_check_beats) := ⟨rfl, rfl, rfl, by decide +kernel, rfl, by decide +kernel, by decide +kernel⟩
theorem c_check_beats (f : Facts P w base g) (cal_is_integer : Cal P w base g 4 "is_integer" ["value", "low", "high"] M_is_integer) : Cal P w base g 5 "check_beats" ["value"] M_check_beats :=
  cal_of (k := 4) (N := ["value"]) (m := B_check_beats) f.d_check_beats sc_check_beats (fun _ _ _ _ _ _ us hl => match us, hl with | [_], _ => rfl) f.bt fun f0 cdv A outer s H E F =>
    (vss_one (vx_if (have F := F.x; (vt_not (vt_val (ve_call (cal_is_integer) F.F (by omega) (va_cons (ve_var 0) (va_cons ve_int (va_cons (x_gint F f.c_MOST_BEATS) va_nil))))))) (vss_one (vx_raise F.x.F (by omega) f.e_BadBeats (ve_var 0))) vss_nil))
theorem sc_sizes : FnScope ["vat", "weights", "share", "beats", "one"] ["vat", "weights", "share", "beats"] (L2.defScope s_sizes) := ⟨rfl, rfl, rfl, by decide +kernel, rfl, by decide +kernel, by decide +kernel⟩
theorem c_sizes (f : Facts P w base g) (cal_is_integer : Cal P w base g 4 "is_integer" ["value", "low", "high"] M_is_integer) (cal_check_vat : Cal P w base g 7 "check_vat" ["value"] M_check_vat) (cal_check_small : Cal P w base g 8 "check_small" ["vat", "most", "share"] M_check_small) (cal_sizes_of : Cal P w base g 7 "sizes_of" ["vat", "weights", "share", "beats"] M_sizes_of) (cal_check_beats : Cal P w base g 5 "check_beats" ["value"] M_check_beats) : Cal P w base g 9 "sizes" ["vat", "weights", "share", "beats"] M_sizes :=
  cal_of (k := 8) (N := ["vat", "weights", "share", "beats", "one"]) (m := B_sizes) f.d_sizes sc_sizes (fun _ _ _ _ _ _ us hl => match us, hl with | [_, _, _, _], _ => rfl) f.bt fun f0 cdv A outer s H E F =>
    (vss_cons (vx_expr (have F := F.x; (ve_call (cal_check_vat) F.F (by omega) (va_cons (ve_var 0) va_nil)))) (vss_cons (vx_if (have F := F.x; (PW.pt (vw_or (vt_not (vt_val (x_isi F F.bt.tuple (by decide +kernel) (ve_var 1)))) (vw_or1 (t_cmp (o_ne F) (x_len F (va_cons (ve_var 1) va_nil)) (x_gint F f.c_TRIPLE_tuned)))))) (vss_one (vx_raise F.x.F (by omega) f.e_BadWeights (ve_var 1))) vss_nil) (vss_cons (vx_if (have F := F.x; (vt_not (vt_val (x_all F (va_cons (ve_new (n_lc [("one", 4)] F (i_seq F (ve_var 1)) (tg_name F) (fun _ _ _ _ _ F => pts_none) (fun _ _ _ _ _ F => (ve_call (cal_is_integer) F.F (by omega) (va_cons (ve_var 4) (va_cons (ve_neg (x_gint F f.c_MOST_SHARE)) (va_cons (x_gint F f.c_MOST_SHARE) va_nil))))))) va_nil))))) (vss_one (vx_raise F.x.F (by omega) f.e_BadWeights (ve_var 1))) vss_nil) (vss_cons (vx_expr (have F := F.x; (ve_call (cal_check_small) F.F (by omega) (va_cons (ve_var 0) (va_cons ve_int (va_cons (ve_var 2) va_nil)))))) (vss_cons (vx_expr (have F := F.x; (ve_call (cal_check_beats) F.F (by omega) (va_cons (ve_var 3) va_nil)))) (vss_one (vs_ret F.x.F (have F := F.x; (ve_call (cal_sizes_of) F.F (by omega) (va_cons (ve_var 0) (va_cons (ve_var 1) (va_cons (ve_var 2) (va_cons (ve_var 3) va_nil)))))))))))))
theorem sc_is_less : FnScope ["one", "other"] ["one", "other"] (L2.defScope s_is_less) := ⟨rfl, rfl, rfl, by decide +kernel, rfl, by decide +kernel, by decide +kernel⟩
theorem c_is_less (f : Facts P w base g)  : Cal P w base g 3 "is_less" ["one", "other"] M_is_less :=
  cal_of (k := 2) (N := ["one", "other"]) (m := B_is_less) f.d_is_less sc_is_less (fun _ _ _ _ _ _ us hl => match us, hl with | [_, _], _ => rfl) f.bt fun f0 cdv A outer s H E F =>
    (vss_one (vs_ret F.x.F (have F := F.x; (x_cmp o_lt (x_mul F (x_ix F (ve_var 0) ve_int) (x_ix F (ve_var 1) ve_int)) (x_mul F (x_ix F (ve_var 1) ve_int) (x_ix F (ve_var 0) ve_int))))))
theorem sc_is_better : FnScope ["one", "other"] ["one", "other"] (L2.defScope s_is_better) := ⟨rfl, rfl, rfl, by decide +kernel, rfl, by decide +kernel, by decide +kernel⟩
theorem c_is_better (f : Facts P w base g) (cal_is_less : Cal P w base g 3 "is_less" ["one", "other"] M_is_less) : Cal P w base g 4 "is_better" ["one", "other"] M_is_better :=
  cal_of (k := 3) (N := ["one", "other"]) (m := B_is_better) f.d_is_better sc_is_better (fun _ _ _ _ _ _ us hl => match us, hl with | [_, _], _ => rfl) f.bt fun f0 cdv A outer s H E F =>
    (vss_cons (vx_if (have F := F.x; (PW.pt (vw_or (vt_val (ve_call (cal_is_less) F.F (by omega) (va_cons (x_ix F (ve_var 1) ve_int) (va_cons (x_ix F (ve_var 0) ve_int) va_nil)))) (vw_or1 (vt_val (ve_call (cal_is_less) F.F (by omega) (va_cons (x_ix F (ve_var 1) ve_int) (va_cons (x_ix F (ve_var 0) ve_int) va_nil)))))))) (vss_one (vs_ret F.x.F ve_bl)) vss_nil) (vss_one (vs_ret F.x.F (have F := F.x; (ve_or (ve_call (cal_is_less) F.F (by omega) (va_cons (x_ix F (ve_var 0) ve_int) (va_cons (x_ix F (ve_var 1) ve_int) va_nil))) (ve_b1 (ve_call (cal_is_less) F.F (by omega) (va_cons (x_ix F (ve_var 0) ve_int) (va_cons (x_ix F (ve_var 1) ve_int) va_nil)))))))))
theorem sc_best : FnScope ["vat", "most", "share", "beats", "rows", "weights", "row", "other"] ["vat", "most", "share", "beats"] (L2.defScope s_best) := ⟨rfl, rfl, rfl, by decide +kernel, rfl, by decide +kernel, by decide +kernel⟩
theorem c_best (f : Facts P w base g) (cal_check_small : Cal P w base g 8 "check_small" ["vat", "most", "share"] M_check_small) (cal_dying_of : Cal P w base g 7 "dying_of" ["vat", "most", "share"] M_dying_of) (cal_sizes_of : Cal P w base g 7 "sizes_of" ["vat", "weights", "share", "beats"] M_sizes_of) (cal_check_beats : Cal P w base g 5 "check_beats" ["value"] M_check_beats) (cal_is_better : Cal P w base g 4 "is_better" ["one", "other"] M_is_better) : Cal P w base g 9 "best" ["vat", "most", "share", "beats"] M_best :=
  cal_of (k := 8) (N := ["vat", "most", "share", "beats", "rows", "weights", "row", "other"]) (m := B_best) f.d_best sc_best (fun _ _ _ _ _ _ us hl => match us, hl with | [_, _, _, _], _ => rfl) f.bt fun f0 cdv A outer s H E F =>
    (vss_cons (vx_expr (have F := F.x; (ve_call (cal_check_small) F.F (by omega) (va_cons (ve_var 0) (va_cons (ve_var 1) (va_cons (ve_var 2) va_nil)))))) (vss_cons (vx_expr (have F := F.x; (ve_call (cal_check_beats) F.F (by omega) (va_cons (ve_var 3) va_nil)))) (vss_cons (vx_set F.x.nd (ve_new (have F := F.x; (n_lc [("weights", 5)] F (i_seq F (ve_call (cal_dying_of) F.F (by omega) (va_cons (ve_var 0) (va_cons (ve_var 1) (va_cons (ve_var 2) va_nil))))) (tg_name F) (fun _ _ _ _ _ F => pts_none) (fun _ _ _ _ _ F => (ve_tup (va_cons (ve_var 5) (va_seq F (ve_call (cal_sizes_of) F.F (by omega) (va_cons (ve_var 0) (va_cons (ve_var 5) (va_cons (ve_var 2) (va_cons (ve_var 3) va_nil))))) va_nil)))))))) (vss_one (vs_ret F.x.F (have F := F.x; (x_tuple2 F (va_cons (ve_new (n_lc [("row", 6)] F (i_seq F (ve_var 4)) (tg_name F) (fun _ _ _ _ _ F => pts_one (vt_not (vt_val (x_any F (va_cons (ve_new (n_lc [("other", 7)] F (i_seq F (ve_var 4)) (tg_name F) (fun _ _ _ _ _ F => pts_none) (fun _ _ _ _ _ F => (ve_call (cal_is_better) F.F (by omega) (va_cons (x_slice F (ve_var 7) (vo_some ve_int) vo_no) (va_cons (x_slice F (ve_var 6) (vo_some ve_int) vo_no) va_nil)))))) va_nil))))) (fun _ _ _ _ _ F => (ve_var 6)))) va_nil))))))))
theorem sc__law_pot : FnScope ["script", "place", "cell", "own", "small"] ["script", "place"] (L2.defScope s__law_pot) := ⟨rfl, rfl, rfl, by decide +kernel, rfl, by decide +kernel, by decide +kernel⟩
theorem c__law_pot (f : Facts P w base g)  : CalN P w base g 3 "_law_pot" ["script", "place"] M__law_pot :=
  caln_of (k := 2) (N := ["script", "place", "cell", "own", "small"]) (m := B__law_pot) f.d__law_pot sc__law_pot (fun _ _ _ _ _ _ us hl => match us, hl with | [_, _], _ => rfl) f.bt fun f0 cdv A outer s H E F =>
    (vss_cons (vx_set F.x.nd (have F := F.x; (ve_if (t_cmp o_lt (ve_var 1) (x_len F (va_cons (ve_var 0) va_nil))) (x_ix F (ve_var 0) (ve_var 1)) (x_add F (x_add F (ve_mod (x_sum F (va_cons (x_slice F (ve_var 0) vo_no (vo_some ve_int)) va_nil)) ve_int) (x_mul F ve_int (ve_var 1))) ve_int)))) (vss_cons (vx_set F.x.nd (have F := F.x; (x_mul F (ve_mod (x_int F (va_cons (x_abs F (va_cons (ve_var 2) va_nil)) va_nil)) (ve_powW (ve_powW ve_int ve_int) ve_int)) (x_int F (va_cons (x_cmp o_ge (x_abs F (va_cons (ve_var 2) va_nil)) (ve_powW ve_int ve_int)) va_nil))))) (vss_cons (vx_set F.x.nd (have F := F.x; (ve_mod (x_int F (va_cons (ve_var 2) va_nil)) ve_int))) (vss_one (vs_retNew F.x.F (have F := F.x; (vn_lst (va_cons (ve_var 3) (va_cons (ve_mod (x_int F (va_cons (x_add F (x_add F (x_mul F (ve_var 4) ve_int) (x_mul F (x_mul F ve_int (ve_var 1)) (ve_var 1))) ve_int) va_nil)) ve_int) (va_cons ve_int va_nil))))))))))
theorem sc__law_take : FnScope ["pot", "upto", "digit", "prime", "blend"] ["pot", "upto"] (L2.defScope s__law_take) := ⟨rfl, rfl, rfl, by decide +kernel, rfl, by decide +kernel, by decide +kernel⟩
theorem c__law_take (f : Facts P w base g)  : Cal P w base g 3 "_law_take" ["pot", "upto"] M__law_take :=
  cal_of (k := 2) (N := ["pot", "upto", "digit", "prime", "blend"]) (m := B__law_take) f.d__law_take sc__law_take (fun _ _ _ _ _ _ us hl => match us, hl with | [_, _], _ => rfl) f.bt fun f0 cdv A outer s H E F =>
    (vss_cons (vx_if (t_cmp o_gt (ve_potIx (k := 0) (ve_var 0) (by intro _ _; rfl)) ve_int) (vss_cons (vx_set F.x.nd (have F := F.x; (ve_mod (x_int F (va_cons (ve_potIx (k := 0) (ve_var 0) (by intro _ _; rfl)) va_nil)) (ve_var 1)))) (vss_cons (vs_potSet (k := 0) (ve_fdiv (ve_potIx (k := 0) (ve_var 0) (by intro _ _; rfl)) (ve_var 1))) (vss_one (vs_ret F.x.F (ve_var 2))))) vss_nil) (vss_cons (vs_potSet (k := 2) (have F := F.x; (x_add F (ve_potIx (k := 2) (ve_var 0) (by intro _ _; rfl)) ve_int))) (vss_cons (vx_set F.x.nd (have F := F.x; (x_ix F (ve_new (vn_lst (va_cons ve_int (va_cons ve_int (va_cons ve_int (va_cons ve_int (va_cons ve_int va_nil))))))) (ve_mod (x_int F (va_cons (ve_potIx (k := 2) (ve_var 0) (by intro _ _; rfl)) va_nil)) ve_int)))) (vss_cons (vx_set F.x.nd (have F := F.x; (ve_mod (x_int F (va_cons (ve_powW (x_int F (va_cons (x_add F (x_add F (ve_potIx (k := 1) (ve_var 0) (by intro _ _; rfl)) (x_mul F (x_mul F ve_int (ve_potIx (k := 2) (ve_var 0) (by intro _ _; rfl))) (ve_potIx (k := 2) (ve_var 0) (by intro _ _; rfl)))) ve_int) va_nil)) ve_int) va_nil)) (ve_var 3)))) (vss_cons (vx_set F.x.nd (have F := F.x; (ve_mod (x_int F (va_cons (x_mul F (ve_var 4) (x_add F (ve_mod (x_int F (va_cons (ve_var 4) va_nil)) ve_int) (x_mul F ve_int (ve_potIx (k := 2) (ve_var 0) (by intro _ _; rfl))))) va_nil)) ve_int))) (vss_one (vs_ret F.x.F (have F := F.x; (ve_mod (x_int F (va_cons (ve_fdiv (ve_var 4) ve_int) va_nil)) (ve_var 1))))))))))
theorem sc__law_of : FnScope ["pot", "some"] ["pot", "some"] (L2.defScope s__law_of) := ⟨rfl, rfl, rfl, by decide +kernel, rfl, by decide +kernel, by decide +kernel⟩
theorem c__law_of (f : Facts P w base g) (cal__law_take : Cal P w base g 3 "_law_take" ["pot", "upto"] M__law_take) : Cal P w base g 4 "_law_of" ["pot", "some"] M__law_of :=
  cal_of (k := 3) (N := ["pot", "some"]) (m := B__law_of) f.d__law_of sc__law_of (fun _ _ _ _ _ _ us hl => match us, hl with | [_, _], _ => rfl) f.bt fun f0 cdv A outer s H E F =>
    (vss_one (vs_ret F.x.F (have F := F.x; (x_ix F (ve_var 1) (ve_call (cal__law_take) F.F (by omega) (va_cons (ve_var 0) (va_cons (x_len F (va_cons (ve_var 1) va_nil)) va_nil)))))))
theorem sc__law_places : FnScope ["script", "most"] ["script", "most"] (L2.defScope s__law_places) := ⟨rfl, rfl, rfl, by decide +kernel, rfl, by decide +kernel, by decide +kernel⟩
theorem c__law_places (f : Facts P w base g)  : Cal P w base g 3 "_law_places" ["script", "most"] M__law_places :=
  cal_of (k := 2) (N := ["script", "most"]) (m := B__law_places) f.d__law_places sc__law_places (fun _ _ _ _ _ _ us hl => match us, hl with | [_, _], _ => rfl) f.bt fun f0 cdv A outer s H E F =>
    (vss_one (vs_ret F.x.F (have F := F.x; (ve_new (n_list2 F (va_cons (x_range F (va_cons (x_max2 F (va_cons ve_int (va_cons (x_min2 F (va_cons (ve_var 1) (va_cons (x_len F (va_cons (ve_var 0) va_nil)) va_nil))) va_nil))) va_nil)) va_nil))))))
theorem l_0 (f : Facts P w base g) (cal_dying : Cal P w base g 9 "dying" ["vat", "most", "share"] M_dying) : LamP P w base g 10 lam_0 (mls 0) :=
  lam_ok (k := 9) (m := m_lam_0) f.bt (NdefX.nscope_by (by kernel_rfl)) (fun _ _ _ _ _ => rfl) fun f0 c0 cl A outer s H E F =>
    (ve_call (cal_dying) F.F (by omega) (va_cons (ve_var 0) (va_cons (ve_var 1) (va_cons (ve_var 2) va_nil))))
theorem l_1 (f : Facts P w base g) (cal_dying : Cal P w base g 9 "dying" ["vat", "most", "share"] M_dying) : LamP P w base g 10 lam_1 (mls 1) :=
  lam_ok (k := 9) (m := m_lam_1) f.bt (NdefX.nscope_by (by kernel_rfl)) (fun _ _ _ _ _ => rfl) fun f0 c0 cl A outer s H E F =>
    (ve_call (cal_dying) F.F (by omega) (va_cons (ve_var 0) (va_cons (ve_var 1) (va_cons (ve_var 2) va_nil))))
theorem l_2 (f : Facts P w base g) (cal_dying : Cal P w base g 9 "dying" ["vat", "most", "share"] M_dying) : LamP P w base g 10 lam_2 (mls 2) :=
  lam_ok (k := 9) (m := m_lam_2) f.bt (NdefX.nscope_by (by kernel_rfl)) (fun _ _ _ _ _ => rfl) fun f0 c0 cl A outer s H E F =>
    (ve_call (cal_dying) F.F (by omega) (va_cons (ve_var 0) (va_cons ve_int (va_cons (ve_var 1) va_nil))))
theorem l_3 (f : Facts P w base g) (cal_sizes : Cal P w base g 9 "sizes" ["vat", "weights", "share", "beats"] M_sizes) : LamP P w base g 10 lam_3 (mls 3) :=
  lam_ok (k := 9) (m := m_lam_3) f.bt (NdefX.nscope_by (by kernel_rfl)) (fun _ _ _ _ _ => rfl) fun f0 c0 cl A outer s H E F =>
    (ve_call (cal_sizes) F.F (by omega) (va_cons (ve_var 0) (va_cons (ve_var 1) (va_cons (ve_var 2) (va_cons (ve_var 3) va_nil)))))
theorem l_4 (f : Facts P w base g) (cal_sizes : Cal P w base g 9 "sizes" ["vat", "weights", "share", "beats"] M_sizes) : LamP P w base g 10 lam_4 (mls 4) :=
  lam_ok (k := 9) (m := m_lam_4) f.bt (NdefX.nscope_by (by kernel_rfl)) (fun _ _ _ _ _ => rfl) fun f0 c0 cl A outer s H E F =>
    (ve_call (cal_sizes) F.F (by omega) (va_cons (ve_var 0) (va_cons (ve_var 1) (va_cons (ve_var 2) (va_cons (ve_var 3) va_nil)))))
theorem l_5 (f : Facts P w base g) (cal_sizes : Cal P w base g 9 "sizes" ["vat", "weights", "share", "beats"] M_sizes) : LamP P w base g 10 lam_5 (mls 5) :=
  lam_ok (k := 9) (m := m_lam_5) f.bt (NdefX.nscope_by (by kernel_rfl)) (fun _ _ _ _ _ => rfl) fun f0 c0 cl A outer s H E F =>
    (ve_call (cal_sizes) F.F (by omega) (va_cons (ve_var 0) (va_cons (ve_tup (va_cons ve_int (va_cons ve_int (va_cons ve_int va_nil)))) (va_cons (ve_var 1) (va_cons (ve_var 2) va_nil)))))
theorem l_6 (f : Facts P w base g) (cal_sizes : Cal P w base g 9 "sizes" ["vat", "weights", "share", "beats"] M_sizes) : LamP P w base g 10 lam_6 (mls 6) :=
  lam_ok (k := 9) (m := m_lam_6) f.bt (NdefX.nscope_by (by kernel_rfl)) (fun _ _ _ _ _ => rfl) fun f0 c0 cl A outer s H E F =>
    (ve_call (cal_sizes) F.F (by omega) (va_cons (ve_var 0) (va_cons (ve_tup (va_cons ve_int (va_cons ve_int (va_cons ve_int va_nil)))) (va_cons ve_int (va_cons (ve_var 1) va_nil)))))
theorem l_7 (f : Facts P w base g) (cal_best : Cal P w base g 9 "best" ["vat", "most", "share", "beats"] M_best) : LamP P w base g 10 lam_7 (mls 7) :=
  lam_ok (k := 9) (m := m_lam_7) f.bt (NdefX.nscope_by (by kernel_rfl)) (fun _ _ _ _ _ => rfl) fun f0 c0 cl A outer s H E F =>
    (ve_call (cal_best) F.F (by omega) (va_cons (ve_var 0) (va_cons (ve_var 1) (va_cons (ve_var 2) (va_cons (ve_var 3) va_nil)))))
theorem l_8 (f : Facts P w base g) (cal_best : Cal P w base g 9 "best" ["vat", "most", "share", "beats"] M_best) : LamP P w base g 10 lam_8 (mls 8) :=
  lam_ok (k := 9) (m := m_lam_8) f.bt (NdefX.nscope_by (by kernel_rfl)) (fun _ _ _ _ _ => rfl) fun f0 c0 cl A outer s H E F =>
    (ve_call (cal_best) F.F (by omega) (va_cons (ve_var 0) (va_cons (ve_var 1) (va_cons (ve_var 2) (va_cons (ve_var 3) va_nil)))))
theorem l_9 (f : Facts P w base g) (cal_best : Cal P w base g 9 "best" ["vat", "most", "share", "beats"] M_best) : LamP P w base g 10 lam_9 (mls 9) :=
  lam_ok (k := 9) (m := m_lam_9) f.bt (NdefX.nscope_by (by kernel_rfl)) (fun _ _ _ _ _ => rfl) fun f0 c0 cl A outer s H E F =>
    (ve_call (cal_best) F.F (by omega) (va_cons (ve_var 0) (va_cons ve_int (va_cons ve_int (va_cons (ve_var 1) va_nil)))))
theorem l_all (f : Facts P w base g) (cal_dying : Cal P w base g 9 "dying" ["vat", "most", "share"] M_dying) (cal_sizes : Cal P w base g 9 "sizes" ["vat", "weights", "share", "beats"] M_sizes) (cal_best : Cal P w base g 9 "best" ["vat", "most", "share", "beats"] M_best) : ∀ i L, lams i = some L → LamP P w base g 10 L (mls i) := fun i L h => by
  unfold lams at h
  split at h
  · cases h; exact l_0 f cal_dying
  · cases h; exact l_1 f cal_dying
  · cases h; exact l_2 f cal_dying
  · cases h; exact l_3 f cal_sizes
  · cases h; exact l_4 f cal_sizes
  · cases h; exact l_5 f cal_sizes
  · cases h; exact l_6 f cal_sizes
  · cases h; exact l_7 f cal_best
  · cases h; exact l_8 f cal_best
  · cases h; exact l_9 f cal_best
  · cases h
theorem sc__law_heard : FnScope ["call", "caught", "back", "error"] ["call"] (L2.defScope s__law_heard) := ⟨rfl, rfl, rfl, by decide +kernel, rfl, by decide +kernel, by decide +kernel⟩
theorem v__law_heard (f : Facts P w base g)  (hL : ∀ i L, lams i = some L → LamP P w base g 10 L (mls i)) : CalV P w base g lams 11 "_law_heard" ["call"] M__law_heard := by
  obtain ⟨CL, hCL, hexs⟩ := f.cat_LeverError.ex
  exact calv_of (k := 10) (N := ["call", "caught", "back", "error"]) (m := B__law_heard) f.d__law_heard sc__law_heard (fun _ _ _ _ _ _ us hl => match us, hl with | [_], _ => rfl) f.bt fun f0 cdv A outer s H E F =>
    (vss_cons (vs_tupEl F.x.F.calm (tn_cons F.x.nd (tn_cons F.x.nd tn_nil)) (pels_p ve_non (pels_p ve_non PEls.nil)) rfl (by decide)) (vss_cons (vs_heard F.x.nd (fun W pn xe tk => have F := F.x.tr tk; (ve_callC (lams := lams) F.F hL)) (nm_by (CL := CL) hCL) hexs (by decide)) (vss_one (vs_retV (ve_tup (va_cons (ve_var 1) (va_cons (ve_var 2) va_nil)))))))
theorem sc__law_common : FnScope ["one", "other"] ["one", "other"] (L2.defScope s__law_common) := ⟨rfl, rfl, rfl, by decide +kernel, rfl, by decide +kernel, by decide +kernel⟩
theorem c__law_common (f : Facts P w base g)  : Cal P w base g 3 "_law_common" ["one", "other"] M__law_common :=
  cal_of (k := 2) (N := ["one", "other"]) (m := B__law_common) f.d__law_common sc__law_common (fun _ _ _ _ _ _ us hl => match us, hl with | [_, _], _ => rfl) f.bt fun f0 cdv A outer s H E F =>
    (vss_cons (vs_while fuel F.own (have F := F.x; (t_cmp (o_ne F) (ve_var 1) ve_int)) (vss_one (vs_par2 F.x.F.calm F.x.nd (pels_p (ve_var 1) (pels_p (ve_mod (ve_var 0) (ve_var 1)) PEls.nil)) (by decide)))) (vss_one (vs_ret F.x.F (ve_var 0))))
theorem sc__law_fraction : FnScope ["over", "under", "share"] ["over", "under"] (L2.defScope s__law_fraction) := ⟨rfl, rfl, rfl, by decide +kernel, rfl, by decide +kernel, by decide +kernel⟩
theorem c__law_fraction (f : Facts P w base g) (cal__law_common : Cal P w base g 3 "_law_common" ["one", "other"] M__law_common) : Cal P w base g 4 "_law_fraction" ["over", "under"] M__law_fraction :=
  cal_of (k := 3) (N := ["over", "under", "share"]) (m := B__law_fraction) f.d__law_fraction sc__law_fraction (fun _ _ _ _ _ _ us hl => match us, hl with | [_, _], _ => rfl) f.bt fun f0 cdv A outer s H E F =>
    (vss_cons (vx_if (t_cmp o_lt (ve_var 1) ve_int) (vss_one (vs_par2 F.x.F.calm F.x.nd (pels_p (ve_neg (ve_var 0)) (pels_p (ve_neg (ve_var 1)) PEls.nil)) (by decide))) vss_nil) (vss_cons (vx_set F.x.nd (have F := F.x; (ve_call (cal__law_common) F.F (by omega) (va_cons (x_abs F (va_cons (ve_var 0) va_nil)) (va_cons (ve_var 1) va_nil))))) (vss_one (vs_ret F.x.F (ve_tup (va_cons (ve_fdiv (ve_var 0) (ve_var 2)) (va_cons (ve_fdiv (ve_var 1) (ve_var 2)) va_nil)))))))
theorem sc__law_plus : FnScope ["one", "other"] ["one", "other"] (L2.defScope s__law_plus) := ⟨rfl, rfl, rfl, by decide +kernel, rfl, by decide +kernel, by decide +kernel⟩
theorem c__law_plus (f : Facts P w base g) (cal__law_fraction : Cal P w base g 4 "_law_fraction" ["over", "under"] M__law_fraction) : Cal P w base g 5 "_law_plus" ["one", "other"] M__law_plus :=
  cal_of (k := 4) (N := ["one", "other"]) (m := B__law_plus) f.d__law_plus sc__law_plus (fun _ _ _ _ _ _ us hl => match us, hl with | [_, _], _ => rfl) f.bt fun f0 cdv A outer s H E F =>
    (vss_one (vs_ret F.x.F (have F := F.x; (ve_call (cal__law_fraction) F.F (by omega) (va_cons (x_add F (x_mul F (x_ix F (ve_var 0) ve_int) (x_ix F (ve_var 1) ve_int)) (x_mul F (x_ix F (ve_var 1) ve_int) (x_ix F (ve_var 0) ve_int))) (va_cons (x_mul F (x_ix F (ve_var 0) ve_int) (x_ix F (ve_var 1) ve_int)) va_nil))))))
theorem sc__law_by : FnScope ["one", "other"] ["one", "other"] (L2.defScope s__law_by) := ⟨rfl, rfl, rfl, by decide +kernel, rfl, by decide +kernel, by decide +kernel⟩
theorem c__law_by (f : Facts P w base g) (cal__law_fraction : Cal P w base g 4 "_law_fraction" ["over", "under"] M__law_fraction) : Cal P w base g 5 "_law_by" ["one", "other"] M__law_by :=
  cal_of (k := 4) (N := ["one", "other"]) (m := B__law_by) f.d__law_by sc__law_by (fun _ _ _ _ _ _ us hl => match us, hl with | [_, _], _ => rfl) f.bt fun f0 cdv A outer s H E F =>
    (vss_one (vs_ret F.x.F (have F := F.x; (ve_call (cal__law_fraction) F.F (by omega) (va_cons (x_mul F (x_ix F (ve_var 0) ve_int) (x_ix F (ve_var 1) ve_int)) (va_cons (x_mul F (x_ix F (ve_var 0) ve_int) (x_ix F (ve_var 1) ve_int)) va_nil))))))
theorem sc__law_small : FnScope ["pot", "keeps", "under", "low", "span"] ["pot"] (L2.defScope s__law_small) := ⟨rfl, rfl, rfl, by decide +kernel, rfl, by decide +kernel, by decide +kernel⟩
theorem c__law_small (f : Facts P w base g) (cal__law_take : Cal P w base g 3 "_law_take" ["pot", "upto"] M__law_take) : Cal P w base g 4 "_law_small" ["pot"] M__law_small :=
  cal_of (k := 3) (N := ["pot", "keeps", "under", "low", "span"]) (m := B__law_small) f.d__law_small sc__law_small (fun _ _ _ _ _ _ us hl => match us, hl with | [_], _ => rfl) f.bt fun f0 cdv A outer s H E F =>
    (vss_cons (vs_par2 F.x.F.calm F.x.nd (pels_p (have F := F.x; (ve_call (cal__law_take) F.F (by omega) (va_cons (ve_var 0) (va_cons ve_int va_nil)))) (pels_p (have F := F.x; (x_add F ve_int (ve_call (cal__law_take) F.F (by omega) (va_cons (ve_var 0) (va_cons ve_int va_nil))))) PEls.nil)) (by decide)) (vss_cons (vs_par2 F.x.F.calm F.x.nd (pels_p (have F := F.x; (ve_neg (ve_call (cal__law_take) F.F (by omega) (va_cons (ve_var 0) (va_cons ve_int va_nil))))) (pels_p (have F := F.x; (ve_call (cal__law_take) F.F (by omega) (va_cons (ve_var 0) (va_cons ve_int va_nil)))) PEls.nil)) (by decide)) (vss_one (vs_ret F.x.F (have F := F.x; (ve_tup (va_cons (ve_var 1) (va_cons (ve_var 2) (va_cons (ve_sub (ve_call (cal__law_take) F.F (by omega) (va_cons (ve_var 0) (va_cons ve_int va_nil))) ve_int) (va_cons (ve_tup (va_cons (ve_neg ve_int) (va_cons ve_int va_nil))) (va_cons (ve_tup (va_cons (ve_var 3) (va_cons (x_add F (ve_var 3) (ve_var 4)) va_nil))) va_nil)))))))))))
theorem sc__law_rule : FnScope ["weights", "share"] ["weights", "share"] (L2.defScope s__law_rule) := ⟨rfl, rfl, rfl, by decide +kernel, rfl, by decide +kernel, by decide +kernel⟩
theorem c__law_rule (f : Facts P w base g)  : Cal P w base g 3 "_law_rule" ["weights", "share"] M__law_rule :=
  cal_of (k := 2) (N := ["weights", "share"]) (m := B__law_rule) f.d__law_rule sc__law_rule (fun _ _ _ _ _ _ us hl => match us, hl with | [_, _], _ => rfl) f.bt fun f0 cdv A outer s H E F =>
    (vss_one (vs_ret F.x.F (have F := F.x; (x_add F (x_add F (ve_tup (va_cons ve_int va_nil)) (ve_var 0)) (ve_tup (va_cons (ve_var 1) (va_cons ve_int (va_cons (ve_tup (va_cons ve_int (va_cons ve_int va_nil))) va_nil))))))))
theorem sc__law_all : FnScope ["most", "found", "lap", "longer", "row", "one"] ["most"] (L2.defScope s__law_all) := ⟨rfl, rfl, rfl, by decide +kernel, rfl, by decide +kernel, by decide +kernel⟩
theorem c__law_all (f : Facts P w base g)  : Cal P w base g 3 "_law_all" ["most"] M__law_all :=
  cal_of (k := 2) (N := ["most", "found", "lap", "longer", "row", "one"]) (m := B__law_all) f.d__law_all sc__law_all (fun _ _ _ _ _ _ us hl => match us, hl with | [_], _ => rfl) f.bt fun f0 cdv A outer s H E F =>
    (vss_cons (vx_set F.x.nd (ve_new (vn_lst (va_cons (ve_tup va_nil) va_nil)))) (vss_cons (vs_for F.own F.x.F.calm (have F := F.x; (vi_range1 F.bt.range (va_cons ve_int va_nil))) (pg_name F.x.nd rfl (by first | exact Or.inl rfl | exact Or.inr rfl) (by first | exact .inl rfl | exact .inr rfl)) be_name (vss_cons (vx_new F.x.nd (vn_lst va_nil)) (vss_cons (vs_for F.own F.x.F.calm (have F := F.x; (i_seq F (ve_var 1))) (pg_name F.x.nd rfl (by first | exact Or.inl rfl | exact Or.inr rfl) (by first | exact .inl rfl | exact .inr rfl)) be_name (vss_one (vx_ext (have F := F.x; (ve_new (n_lc [("one", 5)] F (vi_range2 F.bt.range (va_cons (ve_neg (ve_var 0)) (va_cons (x_add F (ve_var 0) ve_int) va_nil))) (tg_name F) (fun _ _ _ _ _ F => pts_none) (fun _ _ _ _ _ F => (x_add F (ve_var 4) (ve_tup (va_cons (ve_var 5) va_nil)))))))))) (vss_freeze 3 (vss_one (vx_set F.x.nd (ve_var 3))))))) (vss_one (vs_ret F.x.F (ve_var 1)))))
theorem sc__law_beat : FnScope ["vat", "weights", "share", "here", "level", "total", "last", "error", "new", "change", "lever", "weight", "one", "behind"] ["vat", "weights", "share", "here"] (L2.defScope s__law_beat) := ⟨rfl, rfl, rfl, by decide +kernel, rfl, by decide +kernel, by decide +kernel⟩
theorem c__law_beat (f : Facts P w base g) (cal__law_plus : Cal P w base g 5 "_law_plus" ["one", "other"] M__law_plus) (cal__law_by : Cal P w base g 5 "_law_by" ["one", "other"] M__law_by) : Cal P w base g 6 "_law_beat" ["vat", "weights", "share", "here"] M__law_beat :=
  cal_of (k := 5) (N := ["vat", "weights", "share", "here", "level", "total", "last", "error", "new", "change", "lever", "weight", "one", "behind"]) (m := B__law_beat) f.d__law_beat sc__law_beat (fun _ _ _ _ _ _ us hl => match us, hl with | [_, _, _, _], _ => rfl) f.bt fun f0 cdv A outer s H E F =>
    (vss_cons (vx_tup F.x.F.calm F.x.K (tn_cons F.x.nd (tn_cons F.x.nd (tn_cons F.x.nd tn_nil))) (ve_var 3)) (vss_cons (vx_set F.x.nd (have F := F.x; (ve_tup (va_cons (ve_neg (x_ix F (ve_var 4) ve_int)) (va_cons (x_ix F (ve_var 4) ve_int) va_nil))))) (vss_cons (vx_set F.x.nd (have F := F.x; (ve_if (t_cmp (o_ne F) (x_mul F (x_ix F (ve_var 0) ve_int) (x_ix F (ve_var 1) ve_int)) ve_int) (ve_call (cal__law_plus) F.F (by omega) (va_cons (ve_var 5) (va_cons (ve_var 7) va_nil))) (ve_tup (va_cons ve_int (va_cons ve_int va_nil)))))) (vss_cons (vx_set F.x.nd (have F := F.x; (ve_call (cal__law_plus) F.F (by omega) (va_cons (ve_var 7) (va_cons (ve_tup (va_cons (ve_neg (x_ix F (ve_var 6) ve_int)) (va_cons (x_ix F (ve_var 6) ve_int) va_nil))) va_nil))))) (vss_cons (vx_set F.x.nd (ve_tup (va_cons ve_int (va_cons ve_int va_nil)))) (vss_cons (vs_for2 F.own F.x.F.calm (have F := F.x; (i_zip2 F (va_cons (ve_var 1) (va_cons (ve_tup (va_cons (ve_var 7) (va_cons (ve_var 8) (va_cons (ve_var 9) va_nil)))) va_nil)))) (f_tup F.x.F.calm F.x.K (tn_cons F.x.nd (tn_cons F.x.nd tn_nil))) (vss_one (vx_set F.x.nd (have F := F.x; (ve_call (cal__law_plus) F.F (by omega) (va_cons (ve_var 10) (va_cons (ve_call (cal__law_by) F.F (by omega) (va_cons (ve_tup (va_cons (ve_var 11) (va_cons (ve_var 2) va_nil))) (va_cons (ve_var 12) va_nil))) va_nil))))))) (vss_cons (vx_set F.x.nd (have F := F.x; (ve_call (cal__law_plus) F.F (by omega) (va_cons (ve_call (cal__law_by) F.F (by omega) (va_cons (ve_tup (va_cons (x_ix F (ve_var 0) ve_int) (va_cons (x_ix F (ve_var 0) ve_int) va_nil))) (va_cons (ve_var 4) va_nil))) (va_cons (ve_call (cal__law_by) F.F (by omega) (va_cons (ve_tup (va_cons (x_ix F (ve_var 0) ve_int) (va_cons ve_int va_nil))) (va_cons (ve_var 10) va_nil))) va_nil))))) (vss_one (vs_ret F.x.F (ve_tup (va_cons (ve_tup (va_cons (ve_var 13) (va_cons (ve_var 8) (va_cons (ve_var 7) va_nil)))) (va_cons (ve_var 10) va_nil))))))))))))
theorem sc__law_sizes : FnScope ["vat", "weights", "share", "beats", "size", "here", "level", "lever", "beat", "later", "setting"] ["vat", "weights", "share", "beats"] (L2.defScope s__law_sizes) := ⟨rfl, rfl, rfl, by decide +kernel, rfl, by decide +kernel, by decide +kernel⟩
theorem c__law_sizes (f : Facts P w base g) (cal__law_plus : Cal P w base g 5 "_law_plus" ["one", "other"] M__law_plus) (cal__law_by : Cal P w base g 5 "_law_by" ["one", "other"] M__law_by) (cal__law_beat : Cal P w base g 6 "_law_beat" ["vat", "weights", "share", "here"] M__law_beat) : Cal P w base g 7 "_law_sizes" ["vat", "weights", "share", "beats"] M__law_sizes :=
  cal_of (k := 6) (N := ["vat", "weights", "share", "beats", "size", "here", "level", "lever", "beat", "later", "setting"]) (m := B__law_sizes) f.d__law_sizes sc__law_sizes (fun _ _ _ _ _ _ us hl => match us, hl with | [_, _, _, _], _ => rfl) f.bt fun f0 cdv A outer s H E F =>
    (vss_cons (vx_set F.x.nd (have F := F.x; (x_max2 F (va_cons (x_abs F (va_cons (x_ix F (x_ix F (ve_var 0) ve_int) ve_int) va_nil)) (va_cons (x_abs F (va_cons (x_ix F (x_ix F (ve_var 0) ve_int) ve_int) va_nil)) va_nil))))) (vss_cons (vs_tupEl F.x.F.calm (tn_cons F.x.nd (tn_cons F.x.nd (tn_cons F.x.nd tn_nil))) (pels_p (ve_tup (va_cons (ve_tup (va_cons ve_int (va_cons ve_int va_nil))) (va_cons (ve_tup (va_cons ve_int (va_cons ve_int va_nil))) (va_cons (ve_tup (va_cons ve_int (va_cons ve_int va_nil))) va_nil)))) (pels_p (ve_tup (va_cons ve_int (va_cons ve_int va_nil))) (pels_p (ve_tup (va_cons ve_int (va_cons ve_int va_nil))) PEls.nil))) rfl (by decide)) (vss_cons (vs_for F.own F.x.F.calm (have F := F.x; (vi_range1 F.bt.range (va_cons (ve_var 3) va_nil))) (pg_name F.x.nd rfl (by first | exact Or.inl rfl | exact Or.inr rfl) (by first | exact .inl rfl | exact .inr rfl)) be_name (vss_cons (vx_tup F.x.F.calm F.x.K (tn_cons F.x.nd (tn_cons F.x.nd tn_nil)) (have F := F.x; (ve_call (cal__law_beat) F.F (by omega) (va_cons (ve_var 0) (va_cons (ve_var 1) (va_cons (ve_var 2) (va_cons (ve_var 5) va_nil))))))) (vss_cons (vx_set F.x.nd (have F := F.x; (ve_call (cal__law_plus) F.F (by omega) (va_cons (ve_var 6) (va_cons (ve_tup (va_cons (x_abs F (va_cons (x_ix F (x_ix F (ve_var 5) ve_int) ve_int) va_nil)) (va_cons (x_ix F (x_ix F (ve_var 5) ve_int) ve_int) va_nil))) va_nil))))) (vss_cons (vx_set F.x.nd (have F := F.x; (ve_call (cal__law_plus) F.F (by omega) (va_cons (ve_var 7) (va_cons (ve_tup (va_cons (x_abs F (va_cons (x_ix F (ve_var 10) ve_int) va_nil)) (va_cons (x_ix F (ve_var 10) ve_int) va_nil))) va_nil))))) (vss_one (vx_set F.x.nd (ve_var 9))))))) (vss_one (vs_ret F.x.F (have F := F.x; (ve_tup (va_cons (ve_call (cal__law_by) F.F (by omega) (va_cons (ve_tup (va_cons (ve_var 4) (va_cons ve_int va_nil))) (va_cons (ve_var 6) va_nil))) (va_cons (ve_call (cal__law_by) F.F (by omega) (va_cons (ve_tup (va_cons (ve_var 4) (va_cons ve_int va_nil))) (va_cons (ve_var 7) va_nil))) va_nil)))))))))
theorem sc__law_less : FnScope ["one", "other"] ["one", "other"] (L2.defScope s__law_less) := ⟨rfl, rfl, rfl, by decide +kernel, rfl, by decide +kernel, by decide +kernel⟩
theorem c__law_less (f : Facts P w base g)  : Cal P w base g 3 "_law_less" ["one", "other"] M__law_less :=
  cal_of (k := 2) (N := ["one", "other"]) (m := B__law_less) f.d__law_less sc__law_less (fun _ _ _ _ _ _ us hl => match us, hl with | [_, _], _ => rfl) f.bt fun f0 cdv A outer s H E F =>
    (vss_one (vs_ret F.x.F (have F := F.x; (x_cmp o_lt (x_mul F (x_ix F (ve_var 0) ve_int) (x_ix F (ve_var 1) ve_int)) (x_mul F (x_ix F (ve_var 1) ve_int) (x_ix F (ve_var 0) ve_int))))))
theorem sc__law_is_better : FnScope ["one", "other"] ["one", "other"] (L2.defScope s__law_is_better) := ⟨rfl, rfl, rfl, by decide +kernel, rfl, by decide +kernel, by decide +kernel⟩
theorem c__law_is_better (f : Facts P w base g) (cal__law_less : Cal P w base g 3 "_law_less" ["one", "other"] M__law_less) : Cal P w base g 4 "_law_is_better" ["one", "other"] M__law_is_better :=
  cal_of (k := 3) (N := ["one", "other"]) (m := B__law_is_better) f.d__law_is_better sc__law_is_better (fun _ _ _ _ _ _ us hl => match us, hl with | [_, _], _ => rfl) f.bt fun f0 cdv A outer s H E F =>
    (vss_cons (vx_if (have F := F.x; (PW.pt (vw_or (vt_val (ve_call (cal__law_less) F.F (by omega) (va_cons (x_ix F (ve_var 1) ve_int) (va_cons (x_ix F (ve_var 0) ve_int) va_nil)))) (vw_or1 (vt_val (ve_call (cal__law_less) F.F (by omega) (va_cons (x_ix F (ve_var 1) ve_int) (va_cons (x_ix F (ve_var 0) ve_int) va_nil)))))))) (vss_one (vs_ret F.x.F ve_bl)) vss_nil) (vss_one (vs_ret F.x.F (have F := F.x; (ve_or (ve_call (cal__law_less) F.F (by omega) (va_cons (x_ix F (ve_var 0) ve_int) (va_cons (x_ix F (ve_var 1) ve_int) va_nil))) (ve_b1 (ve_call (cal__law_less) F.F (by omega) (va_cons (x_ix F (ve_var 0) ve_int) (va_cons (x_ix F (ve_var 1) ve_int) va_nil)))))))))
theorem ct__law_are_refused {f : Addr} {cdv : Value} {A : Around} {outer : List Env} {s : Shared} {H : Hp} {E : XK} : CapTOk lams (vX P w g base ["pot", "vat", "bad", "most", "share", "beats", "odd", "rows", "call", "word", "value", "caught", "kinds", "is_kind", "name"] "_law_are_refused" s__law_are_refused f cdv A outer s H E) caps__law_are_refused := (ct_cons (i := 0) (js := [2, 3, 4]) (L := lam_0) rfl (cap_by (by kernel_rfl)) (ct_cons (i := 1) (js := [1, 3, 4]) (L := lam_1) rfl (cap_by (by kernel_rfl)) (ct_cons (i := 2) (js := [1, 4]) (L := lam_2) rfl (cap_by (by kernel_rfl)) (ct_cons (i := 3) (js := [2, 6, 4, 5]) (L := lam_3) rfl (cap_by (by kernel_rfl)) (ct_cons (i := 4) (js := [1, 6, 4, 5]) (L := lam_4) rfl (cap_by (by kernel_rfl)) (ct_cons (i := 5) (js := [1, 4, 5]) (L := lam_5) rfl (cap_by (by kernel_rfl)) (ct_cons (i := 6) (js := [1, 5]) (L := lam_6) rfl (cap_by (by kernel_rfl)) (ct_cons (i := 7) (js := [2, 3, 4, 5]) (L := lam_7) rfl (cap_by (by kernel_rfl)) (ct_cons (i := 8) (js := [1, 3, 4, 5]) (L := lam_8) rfl (cap_by (by kernel_rfl)) (ct_cons (i := 9) (js := [1, 5]) (L := lam_9) rfl (cap_by (by kernel_rfl)) ct_nil))))))))))
theorem sc__law_are_refused : FnScope ["pot", "vat", "bad", "most", "share", "beats", "odd", "rows", "call", "word", "value", "caught", "kinds", "is_kind", "name"] ["pot", "vat"] (L2.defScope s__law_are_refused) := ⟨rfl, rfl, rfl, by decide +kernel, rfl, by decide +kernel, by decide +kernel⟩
theorem v__law_are_refused (f : Facts P w base g) (cal_dying : Cal P w base g 9 "dying" ["vat", "most", "share"] M_dying) (cal_sizes : Cal P w base g 9 "sizes" ["vat", "weights", "share", "beats"] M_sizes) (cal_best : Cal P w base g 9 "best" ["vat", "most", "share", "beats"] M_best) (cal__law_of : Cal P w base g 4 "_law_of" ["pot", "some"] M__law_of) (calv__law_heard : CalV P w base g lams 11 "_law_heard" ["call"] M__law_heard) : CalV P w base g lams 12 "_law_are_refused" ["pot", "vat"] M__law_are_refused := by
  exact calm_of (k := 11) (N := ["pot", "vat", "bad", "most", "share", "beats", "odd", "rows", "call", "word", "value", "caught", "kinds", "is_kind", "name"]) (m := B__law_are_refused) f.k__law_are_refused sc__law_are_refused (fun _ _ _ _ _ _ us hl => match us, hl with | [_, _], _ => rfl) f.bt fun f0 c Pt A outer s H E TB hTm hTu F =>
    (vss_cons (vs_tupEl F.x.F.calm (tn_cons F.x.nd (tn_cons F.x.nd tn_nil)) (pels_p (have F := F.x; (ve_callP cal__law_of F.F (by omega) (va_cons (ve_var 0) (va_cons (ve_new (vn_lst (va_cons ve_non (va_cons (ve_tup va_nil) (va_cons (ve_tup (va_cons ve_int (va_cons ve_int (va_cons ve_int va_nil)))) (va_cons (x_slice F (ve_var 1) vo_no (vo_some ve_int)) va_nil)))))) va_nil)))) (pels_p (have F := F.x; (ve_callP cal__law_of F.F (by omega) (va_cons (ve_var 0) (va_cons (ve_new (vn_lst (va_cons ve_non (va_cons (ve_neg ve_int) (va_cons ve_int (va_cons ve_bl va_nil)))))) va_nil)))) PEls.nil)) rfl (by decide)) (vss_cons (vs_tupEl F.x.F.calm (tn_cons F.x.nd (tn_cons F.x.nd tn_nil)) (pels_p (have F := F.x; (ve_callP cal__law_of F.F (by omega) (va_cons (ve_var 0) (va_cons (ve_new (vn_lst (va_cons ve_non (va_cons ve_int (va_cons ve_int (va_cons ve_bl va_nil)))))) va_nil)))) (pels_p (have F := F.x; (ve_callP cal__law_of F.F (by omega) (va_cons (ve_var 0) (va_cons (ve_new (vn_lst (va_cons ve_non (va_cons ve_int (va_cons ve_int (va_cons ve_bl va_nil)))))) va_nil)))) PEls.nil)) rfl (by decide)) (vss_cons (vx_set F.x.nd (have F := F.x; (ve_callP cal__law_of F.F (by omega) (va_cons (ve_var 0) (va_cons (ve_new (vn_lst (va_cons ve_non (va_cons (ve_tup (va_cons ve_int (va_cons ve_int va_nil))) (va_cons (ve_tup (va_cons ve_int (va_cons ve_int (va_cons ve_int va_nil)))) (va_cons (ve_new (vn_lst (va_cons ve_int (va_cons ve_int (va_cons ve_int va_nil))))) (va_cons (ve_tup (va_cons ve_bl (va_cons ve_int (va_cons ve_int va_nil)))) va_nil))))))) va_nil))))) (vss_cons (vx_new F.x.nd (vn_lst (va_cons (ve_tup (va_cons (ve_lam (L := lam_0) TB rfl hTm hTu rfl (by kernel_rfl) (by kernel_rfl) (by kernel_rfl) (by kernel_rfl) rfl (lamfree_by (by kernel_rfl))) (va_cons ve_str (va_cons (ve_var 2) va_nil)))) va_nil))) (vss_cons (vx_app (ve_tup (va_cons (ve_lam (L := lam_1) TB rfl hTm hTu rfl (by kernel_rfl) (by kernel_rfl) (by kernel_rfl) (by kernel_rfl) rfl (lamfree_by (by kernel_rfl))) (va_cons ve_str (va_cons (ve_var 3) va_nil))))) (vss_cons (vx_app (ve_tup (va_cons (ve_lam (L := lam_2) TB rfl hTm hTu rfl (by kernel_rfl) (by kernel_rfl) (by kernel_rfl) (by kernel_rfl) rfl (lamfree_by (by kernel_rfl))) (va_cons ve_str (va_cons (ve_var 4) va_nil))))) (vss_cons (vx_app (ve_tup (va_cons (ve_lam (L := lam_3) TB rfl hTm hTu rfl (by kernel_rfl) (by kernel_rfl) (by kernel_rfl) (by kernel_rfl) rfl (lamfree_by (by kernel_rfl))) (va_cons ve_str (va_cons (ve_var 2) va_nil))))) (vss_cons (vx_app (ve_tup (va_cons (ve_lam (L := lam_4) TB rfl hTm hTu rfl (by kernel_rfl) (by kernel_rfl) (by kernel_rfl) (by kernel_rfl) rfl (lamfree_by (by kernel_rfl))) (va_cons ve_str (va_cons (ve_var 6) va_nil))))) (vss_cons (vx_app (ve_tup (va_cons (ve_lam (L := lam_5) TB rfl hTm hTu rfl (by kernel_rfl) (by kernel_rfl) (by kernel_rfl) (by kernel_rfl) rfl (lamfree_by (by kernel_rfl))) (va_cons ve_str (va_cons (ve_var 4) va_nil))))) (vss_cons (vx_app (ve_tup (va_cons (ve_lam (L := lam_6) TB rfl hTm hTu rfl (by kernel_rfl) (by kernel_rfl) (by kernel_rfl) (by kernel_rfl) rfl (lamfree_by (by kernel_rfl))) (va_cons ve_str (va_cons (ve_var 5) va_nil))))) (vss_cons (vx_app (ve_tup (va_cons (ve_lam (L := lam_7) TB rfl hTm hTu rfl (by kernel_rfl) (by kernel_rfl) (by kernel_rfl) (by kernel_rfl) rfl (lamfree_by (by kernel_rfl))) (va_cons ve_str (va_cons (ve_var 2) va_nil))))) (vss_cons (vx_app (ve_tup (va_cons (ve_lam (L := lam_8) TB rfl hTm hTu rfl (by kernel_rfl) (by kernel_rfl) (by kernel_rfl) (by kernel_rfl) rfl (lamfree_by (by kernel_rfl))) (va_cons ve_str (va_cons (ve_var 3) va_nil))))) (vss_cons (vx_app (ve_tup (va_cons (ve_lam (L := lam_9) TB rfl hTm hTu rfl (by kernel_rfl) (by kernel_rfl) (by kernel_rfl) (by kernel_rfl) rfl (lamfree_by (by kernel_rfl))) (va_cons ve_str (va_cons (ve_var 5) va_nil))))) (vss_freeze 7 (vss_cons (vs_for2 F.own F.x.F.calm (have F := F.x; (i_seq F (ve_var 7))) (f_tup F.x.F.calm F.x.K (tn_cons F.x.nd (tn_cons F.x.nd (tn_cons F.x.nd tn_nil)))) (vss_cons (vx_set F.x.nd (have F := F.x; (x_ix F (ve_callV (lams := lams) caps__law_are_refused calv__law_heard F.F (by omega) (va_cons (ve_var 8) va_nil) ct__law_are_refused) ve_int))) (vss_cons (vx_new F.x.nd (have F := F.x; (vn_lst (va_cons (ve_tup (va_cons (x_isE F f.isc_BadVat (ve_var 11)) (va_cons ve_str va_nil))) (va_cons (ve_tup (va_cons (x_isE F f.isc_BadWeights (ve_var 11)) (va_cons ve_str va_nil))) va_nil))))) (vss_cons (vx_app (have F := F.x; (ve_tup (va_cons (x_isE F f.isc_BadBeats (ve_var 11)) (va_cons ve_str va_nil))))) (vss_freeze 12 (vss_one (vx_if (have F := F.x; (PW.pt (vw_or (t_cmp (o_ne F) (ve_new (n_lc [("is_kind", 13), ("name", 14)] F (i_seq F (ve_var 12)) (tg_tup F (tgn_cons F (tgn_cons F TgN.nil))) (fun _ _ _ _ _ F => pts_one (vt_val (ve_var 13))) (fun _ _ _ _ _ F => (ve_var 14)))) (ve_new (vn_lst (va_cons (ve_var 9) va_nil)))) (vw_or1 (vt_rpNe (t_cmp (o_ne F) (x_repr F (va_cons (x_val F f.val (ve_var 11)) va_nil)) (x_repr F (va_cons (ve_var 10) va_nil)))))))) (vss_one (vs_retV ve_bl)) vss_nil))))))) (vss_one (vs_retV ve_bl)))))))))))))))))
theorem sc__law_right : FnScope ["pot", "vat", "most", "share", "beats", "due", "one", "weights", "at", "rows", "some", "row", "other"] ["pot"] (L2.defScope s__law_right) := ⟨rfl, rfl, rfl, by decide +kernel, rfl, by decide +kernel, by decide +kernel⟩
theorem c__law_right (f : Facts P w base g) (cal_does_die : Cal P w base g 8 "does_die" ["grid"] M_does_die) (cal_of_rule : Cal P w base g 9 "of_rule" ["vat", "rule"] M_of_rule) (cal_dying : Cal P w base g 9 "dying" ["vat", "most", "share"] M_dying) (cal_sizes : Cal P w base g 9 "sizes" ["vat", "weights", "share", "beats"] M_sizes) (cal_best : Cal P w base g 9 "best" ["vat", "most", "share", "beats"] M_best) (cal__law_take : Cal P w base g 3 "_law_take" ["pot", "upto"] M__law_take) (cal__law_small : Cal P w base g 4 "_law_small" ["pot"] M__law_small) (cal__law_rule : Cal P w base g 3 "_law_rule" ["weights", "share"] M__law_rule) (cal__law_all : Cal P w base g 3 "_law_all" ["most"] M__law_all) (cal__law_sizes : Cal P w base g 7 "_law_sizes" ["vat", "weights", "share", "beats"] M__law_sizes) (cal__law_is_better : Cal P w base g 4 "_law_is_better" ["one", "other"] M__law_is_better) (cal__law_are_refused : Cal P w base g 12 "_law_are_refused" ["pot", "vat"] M__law_are_refused) : Cal P w base g 13 "_law_right" ["pot"] M__law_right :=
  cal_of (k := 12) (N := ["pot", "vat", "most", "share", "beats", "due", "one", "weights", "at", "rows", "some", "row", "other"]) (m := B__law_right) f.d__law_right sc__law_right (fun _ _ _ _ _ _ us hl => match us, hl with | [_], _ => rfl) f.bt fun f0 cdv A outer s H E F =>
    (vss_cons (vs_tupEl F.x.F.calm (tn_cons F.x.nd (tn_cons F.x.nd (tn_cons F.x.nd (tn_cons F.x.nd tn_nil)))) (pels_p (have F := F.x; (ve_call (cal__law_small) F.F (by omega) (va_cons (ve_var 0) va_nil))) (pels_p (have F := F.x; (x_add F ve_int (ve_call (cal__law_take) F.F (by omega) (va_cons (ve_var 0) (va_cons ve_int va_nil))))) (pels_p (have F := F.x; (x_add F ve_int (ve_call (cal__law_take) F.F (by omega) (va_cons (ve_var 0) (va_cons ve_int va_nil))))) (pels_p (have F := F.x; (x_add F ve_int (ve_call (cal__law_take) F.F (by omega) (va_cons (ve_var 0) (va_cons ve_int va_nil))))) PEls.nil)))) rfl (by decide)) (vss_cons (s_newLc [("one", 6)] F.x (have F := F.x; (i_seq F (ve_call (cal__law_all) F.F (by omega) (va_cons (ve_var 2) va_nil)))) (tg_name F.x) (fun _ _ _ _ _ F => pts_one (vt_val (ve_call (cal_does_die) F.F (by omega) (va_cons (ve_call (cal_of_rule) F.F (by omega) (va_cons (ve_var 1) (va_cons (ve_call (cal__law_rule) F.F (by omega) (va_cons (ve_var 6) (va_cons (ve_var 3) va_nil))) va_nil))) va_nil)))) (fun _ _ _ _ _ F => (ve_var 6))) (vss_freeze 5 (vss_cons (vx_if (have F := F.x; (vt_rpNe (t_cmp (o_ne F) (x_repr F (va_cons (ve_call (cal_dying) F.F (by omega) (va_cons (ve_var 1) (va_cons (ve_var 2) (va_cons (ve_var 3) va_nil)))) va_nil)) (x_repr F (va_cons (x_tuple2 F (va_cons (ve_var 5) va_nil)) va_nil))))) (vss_one (vs_ret F.x.F ve_bl)) vss_nil) (vss_cons (vx_set F.x.nd (have F := F.x; (x_tuple2 F (va_cons (ve_new (n_lc [("at", 8)] F (vi_range1 F.bt.range (va_cons ve_int va_nil)) (tg_name F) (fun _ _ _ _ _ F => pts_none) (fun _ _ _ _ _ F => (ve_sub (ve_call (cal__law_take) F.F (by omega) (va_cons (ve_var 0) (va_cons ve_int va_nil))) ve_int)))) va_nil)))) (vss_cons (vx_if (have F := F.x; (vt_rpNe (t_cmp (o_ne F) (x_repr F (va_cons (ve_call (cal_sizes) F.F (by omega) (va_cons (ve_var 1) (va_cons (ve_var 7) (va_cons (ve_var 3) (va_cons (ve_var 4) va_nil))))) va_nil)) (x_repr F (va_cons (ve_call (cal__law_sizes) F.F (by omega) (va_cons (ve_var 1) (va_cons (ve_var 7) (va_cons (ve_var 3) (va_cons (ve_var 4) va_nil))))) va_nil))))) (vss_one (vs_ret F.x.F ve_bl)) vss_nil) (vss_cons (vx_set F.x.nd (ve_new (have F := F.x; (n_lc [("one", 6)] F (i_seq F (ve_var 5)) (tg_name F) (fun _ _ _ _ _ F => pts_none) (fun _ _ _ _ _ F => (x_add F (ve_tup (va_cons (ve_var 6) va_nil)) (ve_call (cal__law_sizes) F.F (by omega) (va_cons (ve_var 1) (va_cons (ve_var 6) (va_cons (ve_var 3) (va_cons (ve_var 4) va_nil))))))))))) (vss_cons (s_newLc [("row", 11)] F.x (have F := F.x; (i_seq F (ve_var 9))) (tg_name F.x) (fun _ _ _ _ _ F => pts_one (vt_not (vt_val (x_any F (va_cons (ve_new (n_lc [("other", 12)] F (i_seq F (ve_var 9)) (tg_name F) (fun _ _ _ _ _ F => pts_none) (fun _ _ _ _ _ F => (ve_call (cal__law_is_better) F.F (by omega) (va_cons (x_slice F (ve_var 12) (vo_some ve_int) vo_no) (va_cons (x_slice F (ve_var 11) (vo_some ve_int) vo_no) va_nil)))))) va_nil))))) (fun _ _ _ _ _ F => (ve_var 11))) (vss_freeze 10 (vss_cons (vx_if (have F := F.x; (vt_rpNe (t_cmp (o_ne F) (x_repr F (va_cons (ve_call (cal_best) F.F (by omega) (va_cons (ve_var 1) (va_cons (ve_var 2) (va_cons (ve_var 3) (va_cons (ve_var 4) va_nil))))) va_nil)) (x_repr F (va_cons (x_tuple2 F (va_cons (ve_var 10) va_nil)) va_nil))))) (vss_one (vs_ret F.x.F ve_bl)) vss_nil) (vss_one (vs_ret F.x.F (have F := F.x; (ve_call (cal__law_are_refused) F.F (by omega) (va_cons (ve_var 0) (va_cons (ve_var 1) va_nil))))))))))))))))
theorem sc_law : FnScope ["script", "plain", "place", "pot"] ["script"] (L2.defScope s_law) := ⟨rfl, rfl, rfl, by decide +kernel, rfl, by decide +kernel, by decide +kernel⟩
theorem c_law (f : Facts P w base g) (cal_dying : Cal P w base g 9 "dying" ["vat", "most", "share"] M_dying) (cal_sizes : Cal P w base g 9 "sizes" ["vat", "weights", "share", "beats"] M_sizes) (cal_best : Cal P w base g 9 "best" ["vat", "most", "share", "beats"] M_best) (cal__law_pot : CalN P w base g 3 "_law_pot" ["script", "place"] M__law_pot) (cal__law_places : Cal P w base g 3 "_law_places" ["script", "most"] M__law_places) (cal__law_right : Cal P w base g 13 "_law_right" ["pot"] M__law_right) (fp : ∀ a, Facts P w base (g.at_ a)) (calp_dying : ∀ a, Cal P w base (g.at_ a) 9 "dying" ["vat", "most", "share"] M_dying) (calp_sizes : ∀ a, Cal P w base (g.at_ a) 9 "sizes" ["vat", "weights", "share", "beats"] M_sizes) (calp_best : ∀ a, Cal P w base (g.at_ a) 9 "best" ["vat", "most", "share", "beats"] M_best) (calp__law_places : ∀ a, Cal P w base (g.at_ a) 3 "_law_places" ["script", "most"] M__law_places) (calp__law_right : ∀ a, Cal P w base (g.at_ a) 13 "_law_right" ["pot"] M__law_right) (hpa : g.pa = none) : Cal P w base g 14 "law" ["script"] M_law :=
  cal_of (k := 13) (N := ["script", "plain", "place", "pot"]) (m := B_law) f.d_law sc_law (fun _ _ _ _ _ _ us hl => match us, hl with | [_], _ => rfl) f.bt fun f0 cdv A outer s H E F =>
    (vss_cons (vx_set F.x.nd (ve_tup (va_cons ve_int (va_cons ve_int (va_cons ve_int (va_cons (ve_tup (va_cons (ve_neg ve_int) (va_cons ve_int va_nil))) (va_cons (ve_tup (va_cons (ve_neg ve_int) (va_cons ve_int va_nil))) va_nil))))))) (vss_cons (vx_if (have F := F.x; (PW.pt (vw_or (t_cmp (o_ne F) (x_repr F (va_cons (ve_call (cal_dying) F.F (by omega) (va_cons (ve_var 1) (va_cons ve_int (va_cons ve_int va_nil)))) va_nil)) ve_str) (vw_or1 (t_cmp (o_ne F) (ve_call (cal_best) F.F (by omega) (va_cons (ve_var 1) (va_cons ve_int (va_cons ve_int (va_cons ve_int va_nil))))) (ve_tup va_nil)))))) (vss_one (vs_ret F.x.F ve_bl)) vss_nil) (vss_cons (vx_if (have F := F.x; (t_cmp (o_ne F) (x_repr F (va_cons (ve_call (cal_sizes) F.F (by omega) (va_cons (ve_var 1) (va_cons (ve_tup (va_cons ve_int (va_cons ve_int (va_cons ve_int va_nil)))) (va_cons ve_int (va_cons ve_int va_nil))))) va_nil)) ve_str)) (vss_one (vs_ret F.x.F ve_bl)) vss_nil) (vss_cons (vs_for F.own F.x.F.calm (have F := F.x; (i_seq F (ve_call (cal__law_places) F.F (by omega) (va_cons (ve_var 0) (va_cons ve_int va_nil))))) (pg_name F.x.nd rfl (by first | exact Or.inl rfl | exact Or.inr rfl) (by first | exact .inl rfl | exact .inr rfl)) be_name (vss_pot hpa F.x.nd (vn_call cal__law_pot F.x.F (by omega) (va_cons (ve_var 0) (va_cons (ve_var 2) va_nil))) (fun a => have F := F.at_ (a := a); (vss_one (vx_if (have F := F.x; (vt_not (vt_val (ve_call ((calp__law_right a)) F.F (by omega) (va_cons (ve_var 3) va_nil))))) (vss_one (vs_ret F.x.F ve_bl)) vss_nil))))) (vss_one (vs_ret F.x.F ve_bl))))))
end
theorem law_cal {P : Program} {w : World} {base : Heap} {K : PySem.W.Frag} {mg : Str → Option Value} {T : List (Addr × Str)} (fp : ∀ pa, Facts P w base ⟨K, mg, pa, T⟩) : Cal P w base ⟨K, mg, none, T⟩ 14 "law" ["script"] M_law := by
  have cal_is_tuple : ∀ pa, Cal P w base ⟨K, mg, pa, T⟩ 3 "is_tuple" ["value", "least", "most"] M_is_tuple := fun pa => c_is_tuple (fp pa) 
  have cal_is_whole : ∀ pa, Cal P w base ⟨K, mg, pa, T⟩ 3 "is_whole" ["value"] M_is_whole := fun pa => c_is_whole (fp pa) 
  have cal_is_integer : ∀ pa, Cal P w base ⟨K, mg, pa, T⟩ 4 "is_integer" ["value", "low", "high"] M_is_integer := fun pa => c_is_integer (fp pa) (cal_is_whole pa)
  have cal_common : ∀ pa, Cal P w base ⟨K, mg, pa, T⟩ 3 "common" ["one", "other"] M_common := fun pa => c_common (fp pa) 
  have cal_fraction : ∀ pa, Cal P w base ⟨K, mg, pa, T⟩ 4 "fraction" ["over", "under"] M_fraction := fun pa => c_fraction (fp pa) (cal_common pa)
  have cal_is_row : ∀ pa, Cal P w base ⟨K, mg, pa, T⟩ 5 "is_row" ["value", "many"] M_is_row := fun pa => c_is_row (fp pa) (cal_is_tuple pa) (cal_is_integer pa)
  have cal_is_grid : ∀ pa, Cal P w base ⟨K, mg, pa, T⟩ 6 "is_grid" ["value"] M_is_grid := fun pa => c_is_grid (fp pa) (cal_is_tuple pa) (cal_is_integer pa) (cal_is_row pa)
  have cal_check_grid : ∀ pa, Cal P w base ⟨K, mg, pa, T⟩ 7 "check_grid" ["value"] M_check_grid := fun pa => c_check_grid (fp pa) (cal_is_grid pa)
  have cal_unit : ∀ pa, Cal P w base ⟨K, mg, pa, T⟩ 3 "unit" ["many"] M_unit := fun pa => c_unit (fp pa) 
  have cal_dot : ∀ pa, Cal P w base ⟨K, mg, pa, T⟩ 3 "dot" ["one", "other"] M_dot := fun pa => c_dot (fp pa) 
  have cal_times : ∀ pa, Cal P w base ⟨K, mg, pa, T⟩ 4 "times" ["one", "other"] M_times := fun pa => c_times (fp pa) (cal_dot pa)
  have cal_applied : ∀ pa, Cal P w base ⟨K, mg, pa, T⟩ 4 "applied" ["rows", "row"] M_applied := fun pa => c_applied (fp pa) (cal_dot pa)
  have cal_power : ∀ pa, Cal P w base ⟨K, mg, pa, T⟩ 3 "power" ["number", "many"] M_power := fun pa => c_power (fp pa) 
  have cal_thinned : ∀ pa, Cal P w base ⟨K, mg, pa, T⟩ 4 "thinned" ["row"] M_thinned := fun pa => c_thinned (fp pa) (cal_common pa)
  have cal_last_row : ∀ pa, Cal P w base ⟨K, mg, pa, T⟩ 5 "last_row" ["rows"] M_last_row := fun pa => c_last_row (fp pa) (cal_unit pa) (cal_times pa)
  have cal_is_between : ∀ pa, Cal P w base ⟨K, mg, pa, T⟩ 5 "is_between" ["value", "most"] M_is_between := fun pa => c_is_between (fp pa) (cal_is_tuple pa) (cal_is_integer pa)
  have cal_is_vat : ∀ pa, Cal P w base ⟨K, mg, pa, T⟩ 6 "is_vat" ["value"] M_is_vat := fun pa => c_is_vat (fp pa) (cal_is_tuple pa) (cal_is_integer pa) (cal_is_between pa)
  have cal_check_vat : ∀ pa, Cal P w base ⟨K, mg, pa, T⟩ 7 "check_vat" ["value"] M_check_vat := fun pa => c_check_vat (fp pa) (cal_is_vat pa)
  have cal_is_rule : ∀ pa, Cal P w base ⟨K, mg, pa, T⟩ 6 "is_rule" ["value"] M_is_rule := fun pa => c_is_rule (fp pa) (cal_is_tuple pa) (cal_is_integer pa) (cal_is_between pa)
  have cal_check_rule : ∀ pa, Cal P w base ⟨K, mg, pa, T⟩ 8 "check_rule" ["vat", "value"] M_check_rule := fun pa => c_check_rule (fp pa) (cal_check_vat pa) (cal_is_rule pa)
  have cal_own_row : ∀ pa, Cal P w base ⟨K, mg, pa, T⟩ 6 "own_row" ["grid"] M_own_row := fun pa => c_own_row (fp pa) (cal_power pa) (cal_last_row pa)
  have cal_is_within : ∀ pa, Cal P w base ⟨K, mg, pa, T⟩ 5 "is_within" ["row"] M_is_within := fun pa => c_is_within (fp pa) (cal_thinned pa)
  have cal_does_die : ∀ pa, Cal P w base ⟨K, mg, pa, T⟩ 8 "does_die" ["grid"] M_does_die := fun pa => c_does_die (fp pa) (cal_check_grid pa) (cal_own_row pa) (cal_is_within pa)
  have cal_grid_by : ∀ pa, Cal P w base ⟨K, mg, pa, T⟩ 3 "grid_by" ["vat", "rule"] M_grid_by := fun pa => c_grid_by (fp pa) 
  have cal_of_rule : ∀ pa, Cal P w base ⟨K, mg, pa, T⟩ 9 "of_rule" ["vat", "rule"] M_of_rule := fun pa => c_of_rule (fp pa) (cal_check_rule pa) (cal_grid_by pa)
  have cal_answers_of : ∀ pa, Cal P w base ⟨K, mg, pa, T⟩ 5 "answers_of" ["grid", "push", "look", "beats"] M_answers_of := fun pa => c_answers_of (fp pa) (cal_dot pa) (cal_applied pa)
  have cal_sum_of : ∀ pa, Cal P w base ⟨K, mg, pa, T⟩ 5 "sum_of" ["grid", "numbers"] M_sum_of := fun pa => c_sum_of (fp pa) (cal_fraction pa) (cal_power pa)
  have cal_worst_of : ∀ pa, Cal P w base ⟨K, mg, pa, T⟩ 6 "worst_of" ["grid", "push", "look", "weather", "beats"] M_worst_of := fun pa => c_worst_of (fp pa) (cal_answers_of pa) (cal_sum_of pa)
  have cal_check_small : ∀ pa, Cal P w base ⟨K, mg, pa, T⟩ 8 "check_small" ["vat", "most", "share"] M_check_small := fun pa => c_check_small (fp pa) (cal_is_integer pa) (cal_check_vat pa)
  have cal_rule_of : ∀ pa, Cal P w base ⟨K, mg, pa, T⟩ 3 "rule_of" ["weights", "share"] M_rule_of := fun pa => c_rule_of (fp pa) 
  have cal_all_weights : ∀ pa, Cal P w base ⟨K, mg, pa, T⟩ 3 "all_weights" ["most"] M_all_weights := fun pa => c_all_weights (fp pa) 
  have cal_dying_of : ∀ pa, Cal P w base ⟨K, mg, pa, T⟩ 7 "dying_of" ["vat", "most", "share"] M_dying_of := fun pa => c_dying_of (fp pa) (cal_own_row pa) (cal_is_within pa) (cal_grid_by pa) (cal_rule_of pa) (cal_all_weights pa)
  have cal_dying : ∀ pa, Cal P w base ⟨K, mg, pa, T⟩ 9 "dying" ["vat", "most", "share"] M_dying := fun pa => c_dying (fp pa) (cal_check_small pa) (cal_dying_of pa)
  have cal_looks_of : ∀ pa, Cal P w base ⟨K, mg, pa, T⟩ 4 "looks_of" ["vat", "weights", "share"] M_looks_of := fun pa => c_looks_of (fp pa) (cal_grid_by pa) (cal_rule_of pa)
  have cal_sizes_of : ∀ pa, Cal P w base ⟨K, mg, pa, T⟩ 7 "sizes_of" ["vat", "weights", "share", "beats"] M_sizes_of := fun pa => c_sizes_of (fp pa) (cal_fraction pa) (cal_grid_by pa) (cal_worst_of pa) (cal_rule_of pa) (cal_looks_of pa)
  have cal_check_beats : ∀ pa, Cal P w base ⟨K, mg, pa, T⟩ 5 "check_beats" ["value"] M_check_beats := fun pa => c_check_beats (fp pa) (cal_is_integer pa)
  have cal_sizes : ∀ pa, Cal P w base ⟨K, mg, pa, T⟩ 9 "sizes" ["vat", "weights", "share", "beats"] M_sizes := fun pa => c_sizes (fp pa) (cal_is_integer pa) (cal_check_vat pa) (cal_check_small pa) (cal_sizes_of pa) (cal_check_beats pa)
  have cal_is_less : ∀ pa, Cal P w base ⟨K, mg, pa, T⟩ 3 "is_less" ["one", "other"] M_is_less := fun pa => c_is_less (fp pa) 
  have cal_is_better : ∀ pa, Cal P w base ⟨K, mg, pa, T⟩ 4 "is_better" ["one", "other"] M_is_better := fun pa => c_is_better (fp pa) (cal_is_less pa)
  have cal_best : ∀ pa, Cal P w base ⟨K, mg, pa, T⟩ 9 "best" ["vat", "most", "share", "beats"] M_best := fun pa => c_best (fp pa) (cal_check_small pa) (cal_dying_of pa) (cal_sizes_of pa) (cal_check_beats pa) (cal_is_better pa)
  have cal__law_pot : ∀ pa, CalN P w base ⟨K, mg, pa, T⟩ 3 "_law_pot" ["script", "place"] M__law_pot := fun pa => c__law_pot (fp pa) 
  have cal__law_take : ∀ pa, Cal P w base ⟨K, mg, pa, T⟩ 3 "_law_take" ["pot", "upto"] M__law_take := fun pa => c__law_take (fp pa) 
  have cal__law_of : ∀ pa, Cal P w base ⟨K, mg, pa, T⟩ 4 "_law_of" ["pot", "some"] M__law_of := fun pa => c__law_of (fp pa) (cal__law_take pa)
  have cal__law_places : ∀ pa, Cal P w base ⟨K, mg, pa, T⟩ 3 "_law_places" ["script", "most"] M__law_places := fun pa => c__law_places (fp pa) 
  have hL := fun pa => l_all (fp pa) (cal_dying pa) (cal_sizes pa) (cal_best pa)
  have calv__law_heard : ∀ pa, CalV P w base ⟨K, mg, pa, T⟩ lams 11 "_law_heard" ["call"] M__law_heard := fun pa => v__law_heard (fp pa)  (hL pa)
  have cal__law_common : ∀ pa, Cal P w base ⟨K, mg, pa, T⟩ 3 "_law_common" ["one", "other"] M__law_common := fun pa => c__law_common (fp pa) 
  have cal__law_fraction : ∀ pa, Cal P w base ⟨K, mg, pa, T⟩ 4 "_law_fraction" ["over", "under"] M__law_fraction := fun pa => c__law_fraction (fp pa) (cal__law_common pa)
  have cal__law_plus : ∀ pa, Cal P w base ⟨K, mg, pa, T⟩ 5 "_law_plus" ["one", "other"] M__law_plus := fun pa => c__law_plus (fp pa) (cal__law_fraction pa)
  have cal__law_by : ∀ pa, Cal P w base ⟨K, mg, pa, T⟩ 5 "_law_by" ["one", "other"] M__law_by := fun pa => c__law_by (fp pa) (cal__law_fraction pa)
  have cal__law_small : ∀ pa, Cal P w base ⟨K, mg, pa, T⟩ 4 "_law_small" ["pot"] M__law_small := fun pa => c__law_small (fp pa) (cal__law_take pa)
  have cal__law_rule : ∀ pa, Cal P w base ⟨K, mg, pa, T⟩ 3 "_law_rule" ["weights", "share"] M__law_rule := fun pa => c__law_rule (fp pa) 
  have cal__law_all : ∀ pa, Cal P w base ⟨K, mg, pa, T⟩ 3 "_law_all" ["most"] M__law_all := fun pa => c__law_all (fp pa) 
  have cal__law_beat : ∀ pa, Cal P w base ⟨K, mg, pa, T⟩ 6 "_law_beat" ["vat", "weights", "share", "here"] M__law_beat := fun pa => c__law_beat (fp pa) (cal__law_plus pa) (cal__law_by pa)
  have cal__law_sizes : ∀ pa, Cal P w base ⟨K, mg, pa, T⟩ 7 "_law_sizes" ["vat", "weights", "share", "beats"] M__law_sizes := fun pa => c__law_sizes (fp pa) (cal__law_plus pa) (cal__law_by pa) (cal__law_beat pa)
  have cal__law_less : ∀ pa, Cal P w base ⟨K, mg, pa, T⟩ 3 "_law_less" ["one", "other"] M__law_less := fun pa => c__law_less (fp pa) 
  have cal__law_is_better : ∀ pa, Cal P w base ⟨K, mg, pa, T⟩ 4 "_law_is_better" ["one", "other"] M__law_is_better := fun pa => c__law_is_better (fp pa) (cal__law_less pa)
  have cal__law_are_refused : ∀ pa, Cal P w base ⟨K, mg, pa, T⟩ 12 "_law_are_refused" ["pot", "vat"] M__law_are_refused := fun pa => (v__law_are_refused (fp pa) (cal_dying pa) (cal_sizes pa) (cal_best pa) (cal__law_of pa) (calv__law_heard pa)).toP
  have cal__law_right : ∀ pa, Cal P w base ⟨K, mg, pa, T⟩ 13 "_law_right" ["pot"] M__law_right := fun pa => c__law_right (fp pa) (cal_does_die pa) (cal_of_rule pa) (cal_dying pa) (cal_sizes pa) (cal_best pa) (cal__law_take pa) (cal__law_small pa) (cal__law_rule pa) (cal__law_all pa) (cal__law_sizes pa) (cal__law_is_better pa) (cal__law_are_refused pa)
  exact c_law (fp none) (cal_dying none) (cal_sizes none) (cal_best none) (cal__law_pot none) (cal__law_places none) (cal__law_right none) (fun a => fp (some a)) (fun a => cal_dying (some a)) (fun a => cal_sizes (some a)) (fun a => cal_best (some a)) (fun a => cal__law_places (some a)) (fun a => cal__law_right (some a)) rfl
end VL

namespace VL
open PySem PySem.Spec PyProof.Rows L2 LamX
/-! ### the end, over a head by facts -/
def dOf (x : Str) (st : Stmt) : He.DefD := ⟨(x, none), x, x, defArgs st, defBody st, defScope st, [], []⟩
def dMe (C m : Str) (st : Stmt) : He.DefD := ⟨(C, some m), m, C ++ "." ++ m, defArgs st, defBody st, defScope st, [], []⟩
section
variable {K : PySem.W.Frag} {mg : Str → Option Value} {h : Heap} {pa : Option Addr} {T : List (Addr × Str)} {fa : List He.Fa} {fn : List He.DefD}
theorem funD_fun {x qual : Str} {st : Stmt} {f : Addr} {fd : FuncData} (F : FunD K x qual (defArgs st) (defBody st) (defScope st) [] [] f fd) : L2.Fun K x qual st f fd := by
  obtain ⟨⟨oc, od, dV, kV, doc, pm, an, cdv, ct, osl, rfl, lk, hc, hd, hk⟩, kp⟩ := F
  rcases hd with ⟨_, rfl⟩ | ⟨hd, _⟩
  · exact ⟨⟨oc, od, kV, doc, pm, an, cdv, ct, osl, rfl, lk, hc⟩, kp⟩
  · exact absurd rfl hd
theorem defAt_h (X : K.In h) (G : h.Ns mainGlobals mg) (c : He.SaysD fa fn K) (i j : Nat) {x : Str} {st : Stmt} (h1 : fa[i]? = some (.glo x)) (h2 : fn[j]? = some (dOf x st)) : DefAt ⟨K, mg, pa, T⟩ x st := by
  obtain ⟨fd, F⟩ := c.def_ j h2
  exact ⟨_, fd, He.glo_ok X G (c.fact i h1), funD_fun F⟩
theorem makerAt_h {base : Heap} {ts : List He.Tab} {tf : List He.Defn} (X : K.In h) (G : h.Ns mainGlobals mg) (c : He.SaysD fa fn K) (i j : Nat) {x : Str} {st : Stmt} (h1 : fa[i]? = some (.glo x)) (h2 : fn[j]? = some (dOf x st))
    (tb : TabB base mg (He.cT K (x, none)).1 (He.cT K (x, none)).2) (h3 : ((He.cT K (x, none)).2, (x ++ ".<locals>.") ++ "<lambda>") ∈ T) (h4 : ∀ p ∈ T, p.1 = (He.cT K (x, none)).2 → p.2 = (x ++ ".<locals>.") ++ "<lambda>") : MakerAt base ⟨K, mg, pa, T⟩ x st := by
  obtain ⟨fd, F⟩ := c.def_ j h2
  have F' := funD_fun F
  obtain ⟨⟨oc, od, kV, doc, pm, an, cdv, ct, osl, rfl, lk, hc⟩, kp⟩ := id F'
  obtain ⟨cc, rfl⟩ := He.codeIn_ref hc
  have e : He.codeOf K (x, none) = cc := He.codeOf_eq lk rfl
  refine ⟨_, _, cc, (He.cT K (x, none)).2, He.glo_ok X G (c.fact i h1), F', rfl, ?_, h3, h4⟩
  have e2 : (He.cT K (x, none)).1 = cc := e
  rw [e2] at tb
  exact tb
theorem intG_h (X : K.In h) (G : h.Ns mainGlobals mg) (c : He.SaysD fa fn K) (i : Nat) {x : Str} {n : Int} (h1 : fa[i]? = some (.int x n)) : IntG ⟨K, mg, pa, T⟩ x n := by
  obtain ⟨t, e⟩ := He.int_ok X G (c.fact i h1)
  exact ⟨_, e, t, rfl⟩
theorem strG_h (X : K.In h) (G : h.Ns mainGlobals mg) (c : He.SaysD fa fn K) (i : Nat) {x n : Str} (h1 : fa[i]? = some (.str x n)) : StrG ⟨K, mg, pa, T⟩ x n := by
  obtain ⟨t, e⟩ := He.str_ok X G (c.fact i h1)
  exact ⟨_, e, t, rfl⟩
def freeL : List He.Fa := [.free "len", .free "abs", .free "min", .free "max", .free "int", .free "tuple", .free "list", .free "range", .free "zip", .free "all", .free "any", .free "sum", .free "repr", .free "isinstance", .free "str", .free "bool", .free "ValueError"]
theorem bt_h {rest : List He.Fa} (X : K.In h) (G : h.Ns mainGlobals mg) (c : He.SaysD (freeL ++ rest) fn K) : Bt mg :=
  ⟨He.free_ok X G (c.fact 0 rfl), He.free_ok X G (c.fact 1 rfl), He.free_ok X G (c.fact 2 rfl), He.free_ok X G (c.fact 3 rfl), He.free_ok X G (c.fact 4 rfl), He.free_ok X G (c.fact 5 rfl), He.free_ok X G (c.fact 6 rfl), He.free_ok X G (c.fact 7 rfl), He.free_ok X G (c.fact 8 rfl),
    He.free_ok X G (c.fact 9 rfl), He.free_ok X G (c.fact 10 rfl), He.free_ok X G (c.fact 11 rfl), He.free_ok X G (c.fact 12 rfl), He.free_ok X G (c.fact 13 rfl), He.free_ok X G (c.fact 14 rfl), He.free_ok X G (c.fact 15 rfl)⟩
theorem ve_free {rest : List He.Fa} (X : K.In h) (G : h.Ns mainGlobals mg) (c : He.SaysD (freeL ++ rest) fn K) : mg "ValueError" = none := He.free_ok X G (c.fact 16 rfl)
end
/-! own exceptions -/
def oexB (K : PySem.W.Frag) (C : Addr) : Bool := match K.lookup C with
  | some ⟨.type t, _, .cls cd, sl⟩ => decide (t = "type") && (match cd.mro, sl.toList with
    | .ref C' :: bm, [_, _, _, _, some (.builtin n), _] => C' == C && n == "ValueError.__new__" && !cd.hasDel && cd.hasDict && PySem.HandSPX.refsVE bm
    | _, _ => false)
  | _ => false
theorem oexB_ok {K : PySem.W.Frag} {C : Addr} (q : oexB K C = true) : ∃ nm q N bs bm sn sub ab col dd k0 k1 k2 k3 k5, K.lookup C = some (excClassObj nm q C N bs bm true sn sub ab col dd k0 k1 k2 k3 k5 "ValueError.__new__") ∧ PySem.HandSPX.refsVE bm = true := by
  unfold oexB at q
  split at q
  · rename_i t dd cd sl ho
    obtain ⟨q0, q⟩ := Bool.and_eq_true_iff.mp q
    have ht := of_decide_eq_true q0
    subst ht
    split at q
    · rename_i C' bm k0 k1 k2 k3 n k5 hm hs
      simp only [Bool.and_eq_true, beq_iff_eq, Bool.not_eq_true'] at q
      obtain ⟨_, ⟨⟨⟨hC, hn⟩, hdl⟩, hd⟩, ht⟩ := q
      subst hC
      subst hn
      obtain ⟨nm, bs, mro, ns, qn, hdc, sn, sub, ab, col, del⟩ := cd
      dsimp only at hm hdl hd
      subst hm
      subst hdl
      subst hd
      have hsl : sl = #[k0, k1, k2, k3, some (.builtin "ValueError.__new__"), k5] := by
        obtain ⟨l⟩ := sl
        simp only at hs
        rw [hs]
      subst hsl
      exact ⟨nm, qn, ns, bs, bm, sn, sub, ab, col, dd, k0, k1, k2, k3, k5, ho, ht⟩
    · cases q
  · cases q
/-- of the class x; B: the class whose __init__ it has -/
def errB (K : PySem.W.Frag) (B x : Str) : Bool := oexB K (He.ga K x) && (decide (PySem.W.findIn K (.ref (He.ga K x)) "__setattr__" = some (some (.builtin "object.__setattr__"))) && (decide (PySem.W.subIn K (.ref (He.ga K x)) (.type "BaseException") = some true) &&
  (decide (PySem.W.typeIn K (.ref (He.ga K x)) = some (.type "type")) && (PySem.W.keepIn K (.ref (He.ga K x)) && (decide (PySem.W.findIn K (.ref (He.ga K x)) "__init__" = some (some (.ref (He.fAd K (B, some "__init__"))))) &&
  (decide (PySem.W.typeIn K (.ref (He.fAd K (B, some "__init__"))) = some (.type "function")) && (decide (PySem.W.findIn K (.ref (He.ga K x)) "value" = some none)))))))) && xfB K (He.ga K x)
def exB (K : PySem.W.Frag) (x : Str) : Bool := decide (PySem.W.findIn K (.ref (He.ga K x)) "__class__" = some (some (.builtin "object.__class__"))) && (decide (PySem.W.specialIn K (.builtin "object.__class__") "__get__" = some (some (.builtin "getset_descriptor.__get__"))) && (decide (PySem.W.takesIn K (.builtin "object.__class__") = some true) && decide (PySem.W.mroIn K (He.ga K x) (.type "object") = some true)))
def iscB (K : PySem.W.Frag) (exs : List Str) (c : Str) (sub : Str → Bool) : Bool := decide (PySem.W.kitOne K (.type "NoneType") (.ref (He.ga K c)) = some false) && exs.all fun x => exB K x && decide (PySem.W.kitOne K (.ref (He.ga K x)) (.ref (He.ga K c)) = some (sub x))
def catB (K : PySem.W.Frag) (exs : List Str) (c : Str) : Bool := exs.all fun x => decide (PySem.W.exmOne K (.ref (He.ga K x)) (.ref (He.ga K c)) = some true)
def veB (K : PySem.W.Frag) : Bool := match PySem.W.findCls K (.type "ValueError") (.type "type") "__init__" with
  | some (.val (.builtin n)) => decide (n = "ValueError.__init__")
  | _ => false
theorem veB_ok {K : PySem.W.Frag} (h : veB K = true) : PySem.W.findCls K (.type "ValueError") (.type "type") "__init__" = some (.val (.builtin "ValueError.__init__")) := by
  unfold veB at h
  split at h
  · rename_i n e
    rw [e, of_decide_eq_true h]
  · cases h
section
variable {K : PySem.W.Frag} {mg : Str → Option Value} {h : Heap} {pa : Option Addr} {T : List (Addr × Str)} {fa : List He.Fa} {fn : List He.DefD} {exs : List Str}
theorem xf_of {B x : Str} (e : errB K B x = true) : XfC K (He.ga K x) := xfB_ok (Bool.and_eq_true_iff.mp e).2
theorem val_of {B x : Str} (e : errB K B x = true) : PySem.W.findIn K (.ref (He.ga K x)) "value" = some none := by
  obtain ⟨e, _⟩ := Bool.and_eq_true_iff.mp e
  obtain ⟨_, e⟩ := He.ba e
  obtain ⟨_, e⟩ := He.ba e
  obtain ⟨_, e⟩ := He.ba e
  obtain ⟨_, e⟩ := He.ba e
  obtain ⟨_, e⟩ := He.ba e
  obtain ⟨_, e⟩ := He.ba e
  obtain ⟨_, e⟩ := He.ba e
  exact of_decide_eq_true e
theorem errC_h {P : Program} {w : World} {base : Heap} {B x : Str} {st : Stmt} {fd : FuncData} {p1 p2 p3 p4 p5 p6 p7 p8 p9 p10 : Pos} (e : errB K B x = true) (hx : mg x = some (.ref (He.ga K x))) (F : L2.Fun K "__init__" (B ++ "." ++ "__init__") st (He.fAd K (B, some "__init__")) fd) (hsc : defScope st = scI)
    (hb : defBody st = [.Expr (.Call (.Attribute (.Name "ValueError" p1) "__init__" p2) [.Name "self" p3, .Name "value" p4] [] p5) p6, .Assign [.Attribute (.Name "self" p7) "value" p8] (.Name "value" p9) p10])
    (hc : ∀ env : Env, ∃ pl : Sem Bool, eval (.Call (.Attribute (.Name "ValueError" p1) "__init__" p2) [.Name "self" p3, .Name "value" p4] [] p5) env = (do
      let ov ← eval (.Name "ValueError" p1) env
      standAt p2.atName
      let (f, first) ← holding [ov] (getMethod ov "__init__" pl)
      callWith p5 f first (backTo p5 (starEach [.Name "self" p3, .Name "value" p4] env)) (backToKw p5 (keywordEach [] env))))
    (hm : mg "ValueError" = none) (vV : veB K = true) (hbi : ∀ (kV doc pm : Value) (an : Option Addr) (cdv ct : Value) (us : List Value), us.length = 2 → bindArgs (PySem.W.fnOf "__init__" (B ++ "." ++ "__init__") (L2.defArgs st) (L2.defBody st) (L2.defScope st) .none kV doc pm an cdv ct) ⟨us, []⟩ = pure ((["self", "value"] : List Str).zip us)) : ErrC P w base ⟨K, mg, pa, T⟩ x := by
  obtain ⟨e1, _⟩ := Bool.and_eq_true_iff.mp e
  obtain ⟨c1, e1⟩ := He.ba e1
  obtain ⟨c2, e1⟩ := He.ba e1
  obtain ⟨c3, e1⟩ := He.ba e1
  obtain ⟨c4, e1⟩ := He.ba e1
  obtain ⟨c5, e1⟩ := He.ba e1
  obtain ⟨c6, e1⟩ := He.ba e1
  obtain ⟨c7, c8⟩ := He.ba e1
  refine ⟨He.ga K x, He.fAd K (B, some "__init__"), fd, ⟨oexB_ok c1, of_decide_eq_true c2, of_decide_eq_true c3, of_decide_eq_true c4, c5⟩, of_decide_eq_true c6, of_decide_eq_true c7, of_decide_eq_true c8, hx, ?_, init_ok (k := 0) F hsc hb hc hm (veB_ok vV)⟩
  exact F.binds (ps := ["self", "value"]) hbi
theorem isC_h {B c : Str} {sub : Str → Bool} (e : iscB K exs c sub = true) (hx : ∀ x, exs.contains x = true → mg x = some (.ref (He.ga K x))) (he : exs.all (errB K B) = true) (hc : mg c = some (.ref (He.ga K c))) : IsC ⟨K, mg, pa, T⟩ exs c sub := by
  obtain ⟨e1, e2⟩ := He.ba e
  refine ⟨_, hc, of_decide_eq_true e1, fun x D h1 h2 => ?_⟩
  have h3 := hx x h1
  rw [show mg x = some (.ref D) from h2] at h3
  cases h3
  have hm : x ∈ exs := by simpa using h1
  obtain ⟨e3, e4⟩ := He.ba (List.all_eq_true.mp e2 x hm)
  obtain ⟨a1, e3⟩ := He.ba e3
  obtain ⟨a2, e3⟩ := He.ba e3
  obtain ⟨a3, a4⟩ := He.ba e3
  have xf := xf_of (List.all_eq_true.mp he x hm)
  exact ⟨⟨xf.ga, xf.gg, xf.exC, xf.hdC, of_decide_eq_true a1, of_decide_eq_true a2, of_decide_eq_true a3, of_decide_eq_true a4⟩, of_decide_eq_true e4⟩
theorem catC_h {c : Str} (e : catB K exs c = true) (hx : ∀ x, exs.contains x = true → mg x = some (.ref (He.ga K x))) (hc : mg c = some (.ref (He.ga K c))) : CatC ⟨K, mg, pa, T⟩ exs c := by
  refine ⟨_, hc, fun x D h1 h2 => ?_⟩
  have h3 := hx x h1
  rw [show mg x = some (.ref D) from h2] at h3
  cases h3
  exact of_decide_eq_true (List.all_eq_true.mp e x (by simpa using h1))
theorem valC_h {B : Str} (hx : ∀ x, exs.contains x = true → mg x = some (.ref (He.ga K x))) (he : exs.all (errB K B) = true) : ValC ⟨K, mg, pa, T⟩ exs := by
  refine ⟨fun x D h1 h2 => ?_⟩
  have h3 := hx x h1
  rw [show mg x = some (.ref D) from h2] at h3
  cases h3
  have e := List.all_eq_true.mp he x (by simpa using h1)
  exact ⟨xf_of e, val_of e⟩
end
/-! the law's call over such a head -/
theorem law_endX {l : PySem.W.OpenLaw} {n k : Nat} {q : Program} {loose : List Str} {XP : (Str → Option Value) → Heap → Prop} {d : DefRec} {x y : Str} {mf : List D → P3 → Res D} {N : Nat} {fa : List He.Fa} {fn : List He.DefD} {tf : List He.Defn} {ex : PySem.W.Frag → Bool} {sfx : List Str}
    (hn : l.most = some n) (hn2 : n ≤ sizeLine) (hdf : d.params.defaults = []) (hr : Room k callerA) (hd : d.name = y)
    (F : ∀ (w : World) (mg : Str → Option Value) (h : Heap) (K : PySem.W.Frag) (base : Heap), K.In h → h.Ns mainGlobals mg → He.SaysD fa fn K → ex K = true → K.In base → base.Ns mainGlobals mg → (∀ p ∈ tf.map (He.cT K), TabB base mg p.1 p.2) →
      Cal l.prog w base ⟨K, mg, none, (tf.map fun p => ((He.cT K p).2, (p.1 ++ ".<locals>.") ++ "<lambda>"))⟩ k y [x] mf)
    (hm : ∀ ns : List Int, ns.length ≤ n → (∀ z ∈ ns, Builtin.Int.intBits z ≤ 1048576) → ∃ p, mf [.scr ns] none = .ok (.bl true) p) :
    PySem.W.WalkO q loose XP (He.hookX N fa fn [] tf ex).says l.row.toRowW d [] (fun f vs => PySem.call f vs) := by
  subst hd
  refine Att.attach_callB hn hdf fun w s₀ s₁ mg mb fa' o pm cd doc a vs ns G Y ho hd hcd hmg hobj hints hlen hbits hg => ?_
  obtain ⟨K, KX, c⟩ := Y
  have c1 := c.t.d
  refine vl_call (cs := tf.map (He.cT K)) (T := tf.map fun p => ((He.cT K p).2, (p.1 ++ ".<locals>.") ++ "<lambda>")) (x := x) (k := k) KX G.T.g G.T.b G.T.builtins G.T.nolimit hg ?_ ?_ ?_ ?_ G.T.bmain hobj hints (Nat.le_trans hlen hn2) hr fun base h1 h2 h3 => ?_
  · intro p hp
    obtain ⟨p', hp', rfl⟩ := List.mem_map.mp hp
    exact c.empty p' hp'
  · intro p hp
    obtain ⟨p', hp', rfl⟩ := List.mem_map.mp hp
    exact c.out p' hp'
  · intro p hp
    obtain ⟨p', hp', rfl⟩ := List.mem_map.mp hp
    exact PySem.W.codeHd_of_K KX (c.hd p' hp')
  · intro p hp
    obtain ⟨p', hp', rfl⟩ := List.mem_map.mp hp
    exact List.mem_map.mpr ⟨_, List.mem_map.mpr ⟨p', hp', rfl⟩, rfl⟩
  · obtain ⟨f, fd, e1, e2, e3, e4⟩ := (F w mg _ K base KX G.T.g c1 c.more h1 h2 h3).ex
    have e1 : mg d.name = some (.ref f) := e1
    rw [hmg] at e1
    cases e1
    refine ⟨fd, mf, e4, fun s u hu => ?_, hm ns hlen hbits⟩
    have := e3 s [u] hu rfl
    simpa using this
end VL

namespace VL
open PySem PySem.Spec PyProof.Rows L2 LamX
def faL : List He.Fa := freeL ++ (([.glo "is_tuple", .glo "is_whole", .glo "is_integer", .glo "common", .glo "fraction", .glo "is_row", .glo "is_grid", .glo "check_grid", .glo "unit", .glo "dot", .glo "times", .glo "applied", .glo "power", .glo "thinned", .glo "last_row", .glo "is_between", .glo "is_vat", .glo "check_vat", .glo "is_rule", .glo "check_rule", .glo "own_row", .glo "is_within", .glo "does_die", .glo "grid_by", .glo "of_rule", .glo "answers_of", .glo "sum_of", .glo "worst_of", .glo "check_small", .glo "rule_of"] : List He.Fa) ++ (([.glo "all_weights", .glo "dying_of", .glo "dying", .glo "looks_of", .glo "sizes_of", .glo "check_beats", .glo "sizes", .glo "is_less", .glo "is_better", .glo "best", .glo "_law_pot", .glo "_law_take", .glo "_law_of", .glo "_law_places", .glo "_law_heard", .glo "_law_common", .glo "_law_fraction", .glo "_law_plus", .glo "_law_by", .glo "_law_small", .glo "_law_rule", .glo "_law_all", .glo "_law_beat", .glo "_law_sizes", .glo "_law_less", .glo "_law_is_better", .glo "_law_are_refused", .glo "_law_right", .glo "law", .glo "LeverError"] : List He.Fa) ++ (([.glo "BadVat", .glo "BadRule", .glo "BadGrid", .glo "BadBeats", .glo "BadWeights", .int "MOST_NUMBER" 100000, .int "PAIR_grids" 2, .int "MOST_UNDER_grids" 10000, .int "MOST_SIZE" 4, .int "PAIR_vats" 2, .int "FIVE_vats" 5, .int "MOST_KEEPS" 20, .int "MOST_UNDER_vats" 20, .int "MOST_STRENGTH" 20, .int "MOST_LEVEL" 200, .int "TRIPLE_vats" 3, .int "MOST_WEATHER" 50, .int "SEVEN" 7, .int "MOST_WEIGHT_rules" 50, .int "MOST_SUM" 200, .int "MOST_LEVER" 50, .int "SIX" 6, .int "TRIPLE_linear" 3, .int "FIVE_linear" 5, .int "MOST_WEIGHT_tuned" 5, .int "MOST_SHARE" 50, .int "TRIPLE_tuned" 3, .int "MOST_BEATS" 20, .free "enumerate"] : List He.Fa))))
def clsAt (i : Nat) : Stmt → Stmt
  | .ClassDef _ _ _ b _ _ _ _ _ _ _ => b.getD i (.Pass ⟨0, 0, 0, 0⟩)
  | s => s
abbrev s_init : Stmt := clsAt 0 (top 5)
def fnL : List He.DefD := ([dOf "is_tuple" s_is_tuple, dOf "is_whole" s_is_whole, dOf "is_integer" s_is_integer, dOf "common" s_common, dOf "fraction" s_fraction, dOf "is_row" s_is_row, dOf "is_grid" s_is_grid, dOf "check_grid" s_check_grid, dOf "unit" s_unit, dOf "dot" s_dot, dOf "times" s_times, dOf "applied" s_applied, dOf "power" s_power, dOf "thinned" s_thinned, dOf "last_row" s_last_row, dOf "is_between" s_is_between, dOf "is_vat" s_is_vat, dOf "check_vat" s_check_vat, dOf "is_rule" s_is_rule, dOf "check_rule" s_check_rule, dOf "own_row" s_own_row, dOf "is_within" s_is_within, dOf "does_die" s_does_die, dOf "grid_by" s_grid_by, dOf "of_rule" s_of_rule, dOf "answers_of" s_answers_of, dOf "sum_of" s_sum_of, dOf "worst_of" s_worst_of, dOf "check_small" s_check_small, dOf "rule_of" s_rule_of] : List He.DefD) ++ (([dOf "all_weights" s_all_weights, dOf "dying_of" s_dying_of, dOf "dying" s_dying, dOf "looks_of" s_looks_of, dOf "sizes_of" s_sizes_of, dOf "check_beats" s_check_beats, dOf "sizes" s_sizes, dOf "is_less" s_is_less, dOf "is_better" s_is_better, dOf "best" s_best, dOf "_law_pot" s__law_pot, dOf "_law_take" s__law_take, dOf "_law_of" s__law_of, dOf "_law_places" s__law_places, dOf "_law_heard" s__law_heard, dOf "_law_common" s__law_common, dOf "_law_fraction" s__law_fraction, dOf "_law_plus" s__law_plus, dOf "_law_by" s__law_by, dOf "_law_small" s__law_small, dOf "_law_rule" s__law_rule, dOf "_law_all" s__law_all, dOf "_law_beat" s__law_beat, dOf "_law_sizes" s__law_sizes, dOf "_law_less" s__law_less, dOf "_law_is_better" s__law_is_better, dOf "_law_are_refused" s__law_are_refused, dOf "_law_right" s__law_right, dOf "law" s_law, dMe "LeverError" "__init__" s_init] : List He.DefD))
def tfL : List He.Defn := [("_law_are_refused", none)]
def exK (K : PySem.W.Frag) : Bool := (veB K && (exs.all (errB K "LeverError") && (iscB K exs "BadWeights" sub_BadWeights && (iscB K exs "BadVat" sub_BadVat && (iscB K exs "BadBeats" sub_BadBeats && catB K exs "LeverError")))))
theorem facts_h {P : Program} {w : World} {base h : Heap} {K : PySem.W.Frag} {mg : Str → Option Value} {pa : Option Addr} (X : K.In h) (G : h.Ns mainGlobals mg) (c : He.SaysD faL fnL K) (e : exK K = true)
    (tb : ∀ p ∈ tfL.map (He.cT K), TabB base mg p.1 p.2) : Facts P w base ⟨K, mg, pa, tfL.map fun p => ((He.cT K p).2, (p.1 ++ ".<locals>.") ++ "<lambda>")⟩ := by
  obtain ⟨e0, e⟩ := He.ba e
  obtain ⟨e1, e⟩ := He.ba e
  obtain ⟨e2, e⟩ := He.ba e
  obtain ⟨e3, e⟩ := He.ba e
  obtain ⟨e4, e⟩ := He.ba e
  have e5 := e
  have hx : ∀ x, exs.contains x = true → mg x = some (.ref (He.ga K x)) := fun x hx => by
    have hm : x ∈ exs := by simpa using hx
    simp only [exs, List.mem_cons, List.not_mem_nil, or_false] at hm
    rcases hm with rfl | rfl | rfl | rfl | rfl | rfl
    · exact He.glo_ok X G (c.fact 76 rfl)
    · exact He.glo_ok X G (c.fact 77 rfl)
    · exact He.glo_ok X G (c.fact 78 rfl)
    · exact He.glo_ok X G (c.fact 79 rfl)
    · exact He.glo_ok X G (c.fact 80 rfl)
    · exact He.glo_ok X G (c.fact 81 rfl)
  obtain ⟨fdI, FI⟩ := c.def_ 59 (d := dMe "LeverError" "__init__" s_init) rfl
  have er : ∀ x, x ∈ exs → ErrC P w base ⟨K, mg, pa, tfL.map fun p => ((He.cT K p).2, (p.1 ++ ".<locals>.") ++ "<lambda>")⟩ x := fun x hm => errC_h (st := s_init) (List.all_eq_true.mp e1 x hm) (hx x (by simpa using hm)) (funD_fun FI) rfl rfl (fun env => ⟨_, rfl⟩) (ve_free X G c) e0 (fun _ _ _ _ _ _ us hl => match us, hl with | [_, _], _ => rfl)
  exact {
    bt := bt_h X G c,
    c_MOST_NUMBER := intG_h X G c 82 rfl,
    c_PAIR_grids := intG_h X G c 83 rfl,
    c_MOST_UNDER_grids := intG_h X G c 84 rfl,
    c_MOST_SIZE := intG_h X G c 85 rfl,
    c_PAIR_vats := intG_h X G c 86 rfl,
    c_FIVE_vats := intG_h X G c 87 rfl,
    c_MOST_KEEPS := intG_h X G c 88 rfl,
    c_MOST_UNDER_vats := intG_h X G c 89 rfl,
    c_MOST_STRENGTH := intG_h X G c 90 rfl,
    c_MOST_LEVEL := intG_h X G c 91 rfl,
    c_TRIPLE_vats := intG_h X G c 92 rfl,
    c_MOST_WEATHER := intG_h X G c 93 rfl,
    c_SEVEN := intG_h X G c 94 rfl,
    c_MOST_WEIGHT_rules := intG_h X G c 95 rfl,
    c_MOST_SUM := intG_h X G c 96 rfl,
    c_MOST_LEVER := intG_h X G c 97 rfl,
    c_SIX := intG_h X G c 98 rfl,
    c_TRIPLE_linear := intG_h X G c 99 rfl,
    c_FIVE_linear := intG_h X G c 100 rfl,
    c_MOST_WEIGHT_tuned := intG_h X G c 101 rfl,
    c_MOST_SHARE := intG_h X G c 102 rfl,
    c_TRIPLE_tuned := intG_h X G c 103 rfl,
    c_MOST_BEATS := intG_h X G c 104 rfl,
    e_BadGrid := er "BadGrid" (by decide),
    e_BadVat := er "BadVat" (by decide),
    e_BadRule := er "BadRule" (by decide),
    e_BadWeights := er "BadWeights" (by decide),
    e_BadBeats := er "BadBeats" (by decide),
    isc_BadWeights := isC_h e2 hx e1 (hx _ (by decide)),
    isc_BadVat := isC_h e3 hx e1 (hx _ (by decide)),
    isc_BadBeats := isC_h e4 hx e1 (hx _ (by decide)),
    cat_LeverError := catC_h e5 hx (hx _ (by decide)),
    val := valC_h hx e1,
    fr_enumerate := He.free_ok X G (c.fact 105 rfl),
    d_is_tuple := defAt_h X G c 17 0 rfl rfl,
    d_is_whole := defAt_h X G c 18 1 rfl rfl,
    d_is_integer := defAt_h X G c 19 2 rfl rfl,
    d_common := defAt_h X G c 20 3 rfl rfl,
    d_fraction := defAt_h X G c 21 4 rfl rfl,
    d_is_row := defAt_h X G c 22 5 rfl rfl,
    d_is_grid := defAt_h X G c 23 6 rfl rfl,
    d_check_grid := defAt_h X G c 24 7 rfl rfl,
    d_unit := defAt_h X G c 25 8 rfl rfl,
    d_dot := defAt_h X G c 26 9 rfl rfl,
    d_times := defAt_h X G c 27 10 rfl rfl,
    d_applied := defAt_h X G c 28 11 rfl rfl,
    d_power := defAt_h X G c 29 12 rfl rfl,
    d_thinned := defAt_h X G c 30 13 rfl rfl,
    d_last_row := defAt_h X G c 31 14 rfl rfl,
    d_is_between := defAt_h X G c 32 15 rfl rfl,
    d_is_vat := defAt_h X G c 33 16 rfl rfl,
    d_check_vat := defAt_h X G c 34 17 rfl rfl,
    d_is_rule := defAt_h X G c 35 18 rfl rfl,
    d_check_rule := defAt_h X G c 36 19 rfl rfl,
    d_own_row := defAt_h X G c 37 20 rfl rfl,
    d_is_within := defAt_h X G c 38 21 rfl rfl,
    d_does_die := defAt_h X G c 39 22 rfl rfl,
    d_grid_by := defAt_h X G c 40 23 rfl rfl,
    d_of_rule := defAt_h X G c 41 24 rfl rfl,
    d_answers_of := defAt_h X G c 42 25 rfl rfl,
    d_sum_of := defAt_h X G c 43 26 rfl rfl,
    d_worst_of := defAt_h X G c 44 27 rfl rfl,
    d_check_small := defAt_h X G c 45 28 rfl rfl,
    d_rule_of := defAt_h X G c 46 29 rfl rfl,
    d_all_weights := defAt_h X G c 47 30 rfl rfl,
    d_dying_of := defAt_h X G c 48 31 rfl rfl,
    d_dying := defAt_h X G c 49 32 rfl rfl,
    d_looks_of := defAt_h X G c 50 33 rfl rfl,
    d_sizes_of := defAt_h X G c 51 34 rfl rfl,
    d_check_beats := defAt_h X G c 52 35 rfl rfl,
    d_sizes := defAt_h X G c 53 36 rfl rfl,
    d_is_less := defAt_h X G c 54 37 rfl rfl,
    d_is_better := defAt_h X G c 55 38 rfl rfl,
    d_best := defAt_h X G c 56 39 rfl rfl,
    d__law_pot := defAt_h X G c 57 40 rfl rfl,
    d__law_take := defAt_h X G c 58 41 rfl rfl,
    d__law_of := defAt_h X G c 59 42 rfl rfl,
    d__law_places := defAt_h X G c 60 43 rfl rfl,
    d__law_heard := defAt_h X G c 61 44 rfl rfl,
    d__law_common := defAt_h X G c 62 45 rfl rfl,
    d__law_fraction := defAt_h X G c 63 46 rfl rfl,
    d__law_plus := defAt_h X G c 64 47 rfl rfl,
    d__law_by := defAt_h X G c 65 48 rfl rfl,
    d__law_small := defAt_h X G c 66 49 rfl rfl,
    d__law_rule := defAt_h X G c 67 50 rfl rfl,
    d__law_all := defAt_h X G c 68 51 rfl rfl,
    d__law_beat := defAt_h X G c 69 52 rfl rfl,
    d__law_sizes := defAt_h X G c 70 53 rfl rfl,
    d__law_less := defAt_h X G c 71 54 rfl rfl,
    d__law_is_better := defAt_h X G c 72 55 rfl rfl,
    k__law_are_refused := makerAt_h (ts := []) (tf := []) X G c 73 56 rfl rfl (tb _ (List.mem_map.mpr ⟨_, List.mem_cons_self, rfl⟩)) List.mem_cons_self (fun p hp _ => by rw [List.mem_singleton.mp hp]),
    d__law_right := defAt_h X G c 74 57 rfl rfl,
    d_law := defAt_h X G c 75 58 rfl rfl }
abbrev RW : PySem.W.OpenRow := PySem.W.OpenLaw.row PySem.Challenge.rw_steeredback_k33_whole_weights_tried
abbrev hkL : PySem.W.Hook := He.hookX 5 faL fnL [] tfL exK
def obL (s : PySem.W.SharedT) : He.AlX := He.obsX 5 faL fnL [] tfL exK (HandSHeadRun.getT s)
theorem obL_eq (s : PySem.W.SharedT) : obL s = hkL.obs s.abs := He.obsX_eq (HandSHeadRun.getT_eq s)
def looseL : List Str := (["is_tuple", "is_whole", "is_integer", "LeverError", "BadVat", "BadRule", "BadGrid", "BadBeats", "BadWeights", "MOST_SIZE", "MOST_NUMBER", "MOST_UNDER_grids", "PAIR_grids", "common", "fraction", "is_row", "is_grid", "check_grid", "unit", "times", "dot", "applied", "power", "thinned", "last_row", "MOST_KEEPS", "MOST_UNDER_vats", "MOST_STRENGTH", "MOST_LEVEL", "MOST_WEATHER"] : List Str) ++ (["MOST_LEVER", "PAIR_vats", "TRIPLE_vats", "FIVE_vats", "is_between", "is_vat", "check_vat", "MOST_WEIGHT_rules", "MOST_SUM", "SEVEN", "SIX", "is_rule", "check_rule", "TRIPLE_linear", "FIVE_linear", "own_row", "is_within", "does_die", "of_rule", "grid_by", "answers_of", "sum_of", "worst_of", "MOST_WEIGHT_tuned", "MOST_SHARE", "MOST_BEATS", "TRIPLE_tuned", "check_small", "rule_of", "all_weights"] : List Str) ++ (["dying_of", "dying", "looks_of", "sizes_of", "sizes", "check_beats", "is_less", "is_better", "best", "_law_pot", "_law_take", "_law_of", "_law_places", "_law_heard", "_law_common", "_law_fraction", "_law_plus", "_law_by", "_law_small", "_law_rule", "_law_all", "_law_beat", "_law_sizes", "_law_less", "_law_is_better", "_law_are_refused", "_law_right"] : List Str)
theorem runL (w : World) : HandSHeadRun.RunEq RW (PySem.W.view RW.prog [96]) hkL obL 20000 looseL w := by
  intro os
  kernel_rfl
theorem walkL : ∀ ns : List Int, ns.length ≤ 63 → (∀ z ∈ ns, Builtin.Int.intBits z ≤ 1048576) → ∃ p, M_law [.scr ns] none = .ok (.bl true) p := law_math
end VL
open PySem PySem.W PySem.Calls PyProof.Rows
set_option maxRecDepth 100000 in
set_option maxHeartbeats 0 in
theorem PySem.Challenge.cw_steeredback_k33_whole_weights_tried_holds : PySem.Challenge.rw_steeredback_k33_whole_weights_tried.Holds := by
  w_on; o_law
  refine HandSHeadRun.head_any (r := VL.RW) (q := view VL.RW.prog [96]) (H := VL.hkL) (ob := VL.obL) (M := 20000) (loose := VL.looseL) (d := HandSHeadRun.topDef VL.RW.prog 96) (kwd := []) VL.obL_eq
    (by kernel_rfl) (fun s => by kernel_rfl) VL.runL (by kernel_rfl) (by kernel_rfl) (by kernel_rfl) (by rfl) (by first | assumption | decide +kernel) (by decide +kernel) ⟨rfl, rfl, rfl, rfl, rfl, by decide +kernel⟩ ?hw ?hc
  case hw => w_witness2
  case hc =>
    exact VL.law_endX (l := PySem.Challenge.rw_steeredback_k33_whole_weights_tried) (n := 63) (k := 14) (x := "script") (y := "law") (mf := VL.M_law) (sfx := []) rfl (by decide) (by kernel_rfl) ⟨rfl, by decide, by decide⟩ (by kernel_rfl)
      (fun w mg h K base X G c e X2 G2 tb => VL.law_cal fun pa => VL.facts_h X G c e tb) VL.walkL
