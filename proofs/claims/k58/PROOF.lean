import PyProof.Rows.All
import Wide.All
import OpenK.AllK
import Wide.FinOn
import HandS.ForMost
import HandS.ForExc
import HandS.IsInst
import HandS.Deep
import HandS.TupAny
import HandS.TupMul
import HandS.Lambda
import HandS.ExcInit
import HandS.ExcValue
import HandS.EndTab
import HandS.Wide
import HandS.Star
import HandS.Text
import HandS.Flow
import HandS.Style
import HandS.SortInts
import HandS.Codes
import HandS.ExcOwn
import HandS.Zip
import KE.GoesEnum
import KE.GoesNew
import HandS.RaiseMore
import HandS.Conv
import HandS.Sort
import HandS.Nested
import HandS.TryMany
import HandS.ExcIs
import HandS.ExcField
import PyProof.StrLawsRepr
import KE.KNestM
import HandS.Ends
import HandS.Head0
import HandS.Head1
import HandS.Head2
import HandS.HeadEnd
import HandS.HeadHook1
import HandS.HeadHook2
import HandS.HeadHook3
import HandS.HeadHook4
import PySem.Challenge.RW_steeredback_k58_whole_stuck_levers
set_option Elab.async false
set_option linter.all false
set_option maxRecDepth 100000
set_option maxHeartbeats 4000000
namespace VL
open PySem PySem.Spec PyProof.Rows L2 LamX

abbrev St := L2.St
/-- data trees -/
inductive D where
  | non
  | bl (b : Bool)
  | int (i : Int)
  | str (x : Str)
  | tup (ds : List D)
  | lst (ds : List D)
  | dct (kvs : List (D × D))
  | glb (x : Str)
  | exc (x : Str) (v : D)
  | clo (i : Nat) (caps : List D)
  | own (i : Nat)
  | pot
  | scr (ns : List Int)
  | rng (lo hi : Int)
deriving Inhabited

/-- what is fixed through the law: the written part, the module's names, the pot's address, the tables of code objects -/
structure Gx where
  K : PySem.W.Frag
  mg : Str → Option Value
  pa : Option Addr
  T : List (Addr × Str)

/-- a list that never changes -/
def FzL (H : Hp) (a : Addr) (xs : List V) : Prop := ∃ o, H a = some (.frz o (.lst xs))
theorem FzL.sq {K : PySem.W.Frag} {H : Hp} {a : Addr} {xs : List V} (h : FzL H a xs) : SqL K H a xs := by
  obtain ⟨o, h⟩ := h
  exact .inl (.inr ⟨o, h⟩)

/-- the closures that are known: with what they captured; the frame's own -/
structure CO where
  co : Addr → Nat → List V → Prop
  ow : Addr → Nat → Prop
structure CO.le (a b : CO) : Prop where
  co : ∀ f i ws, a.co f i ws → b.co f i ws
  ow : ∀ f i, a.ow f i → b.ow f i
theorem CO.le.refl {a : CO} : a.le a := ⟨fun _ _ _ h => h, fun _ _ h => h⟩

/-- an error object that is held -/
def XO (C d : Addr) (a : Addr) : HO := .ext fun h => ∃ oe : Obj, h.get? a = some oe ∧ Zc (.ref C) (some d) oe ∧ ∃ vs, oe.data = .fields vs

mutual
inductive Rep (g : Gx) (co : CO) (H : Hp) : V → D → Prop
  | non : Rep g co H .non .non
  | bl (b : Bool) : Rep g co H (.bl b) (.bl b)
  | int (i : Int) : Rep g co H (.int i) (.int i)
  | str (x : Str) : Rep g co H (.str x) (.str x)
  | tup {a : Addr} {xs : List V} {ds : List D} : SqT g.K H a xs → RepL g co H xs ds → Rep g co H (.ref a) (.tup ds)
  | lst {a : Addr} {xs : List V} {ds : List D} : FzL H a xs → RepL g co H xs ds → Rep g co H (.ref a) (.lst ds)
  | glb {x : Str} {a : Addr} : g.mg x = some (.ref a) → Rep g co H (.ref a) (.glb x)
  | exc {a C d : Addr} {x : Str} {y : V} {v : D} {o : Obj} : H a = some (.frz o (XO C d a)) → g.mg x = some (.ref C) → H d = some (.xd [("value", y)]) → Rep g co H y v → Rep g co H (.ref a) (.exc x v)
  | clo {f : Addr} {i : Nat} {ws : List V} {caps : List D} : co.co f i ws → RepL g co H ws caps → Rep g co H (.ref f) (.clo i caps)
  | own {f : Addr} {i : Nat} : co.ow f i → Rep g co H (.ref f) (.own i)
  | pot {a : Addr} : g.pa = some a → Rep g co H (.ref a) .pot
  | rng {a : Addr} {lo hi : Int} : H a = some (.rng lo hi) → Rep g co H (.ref a) (.rng lo hi)
  | scr {a : Addr} {ns : List Int} : (∃ o, H a = some (.frz o (.lst (ns.map V.int)))) ∨ (∀ H', SqL g.K H' a (ns.map V.int)) → Rep g co H (.ref a) (.scr ns)
inductive RepL (g : Gx) (co : CO) (H : Hp) : List V → List D → Prop
  | nil : RepL g co H [] []
  | cons {v : V} {vs : List V} {d : D} {ds : List D} : Rep g co H v d → RepL g co H vs ds → RepL g co H (v :: vs) (d :: ds)
end

/-- everything that is tracked is as it was -/
abbrev Grow (H H' : Hp) : Prop := ∀ b o, H b = some o → H' b = some o
/-- .. but the pot and the tables -/
def Ext (g : Gx) (H H' : Hp) : Prop := ∀ b o, H b = some o → (g.pa = some b → ∀ xs, o ≠ .lst xs) → (∀ ps, o ≠ .tbl ps) → H' b = some o
/-- what never changes -/
def Hard : HO → Prop
  | .tup _ => True
  | .frz _ _ => True
  | .xd _ => True
  | .rng _ _ => True
  | .ext φ => ∃ c q, HO.ext φ = CodeO c q
  | _ => False
def Ext1 (H H' : Hp) : Prop := ∀ b o, H b = some o → Hard o → H' b = some o
theorem Ext.hard {g : Gx} {H H' : Hp} (e : Ext g H H') : Ext1 H H' := fun b o h k => e b o h (fun _ xs z => by subst z; exact k) (fun ps z => by subst z; exact k)
theorem Ext1.refl {H : Hp} : Ext1 H H := fun _ _ h _ => h
theorem Ext1.trans {H H1 H2 : Hp} (a : Ext1 H H1) (b : Ext1 H1 H2) : Ext1 H H2 := fun c o h k => b c o (a c o h k) k
theorem Grow.ext {g : Gx} {H H' : Hp} (h : Grow H H') : Ext g H H' := fun b o e _ _ => h b o e
theorem Ext.refl {g : Gx} {H : Hp} : Ext g H H := fun _ _ h _ _ => h
theorem Ext.trans {g : Gx} {H H1 H2 : Hp} (a : Ext g H H1) (b : Ext g H1 H2) : Ext g H H2 := fun c o h k n => b c o (a c o h k n) k n
theorem Grow.trans {H H1 H2 : Hp} (a : Grow H H1) (b : Grow H1 H2) : Grow H H2 := fun c o h => b c o (a c o h)
theorem Grow.upd {H : Hp} {p : Addr} {o : HO} (h : H p = none) : Grow H (upd H p o) := fun b x e => by
  rw [upd_ne (ne_of_none e h)]; exact e
theorem sqT_ext {K : PySem.W.Frag} {H H' : Hp} {a : Addr} {xs : List V} (e : Ext1 H H') (h : SqT K H a xs) : SqT K H' a xs := by
  rcases h with (h | ⟨o, h⟩) | h
  · exact .inl (.inl (e _ _ h trivial))
  · exact .inl (.inr ⟨o, e _ _ h trivial⟩)
  · exact .inr h
theorem FzL.ext {H H' : Hp} {a : Addr} {xs : List V} (e : Ext1 H H') (h : FzL H a xs) : FzL H' a xs := by
  obtain ⟨o, h⟩ := h
  exact ⟨o, e _ _ h trivial⟩
mutual
theorem Rep.ext {g : Gx} {co co' : CO} {H H' : Hp} (e : Ext1 H H') (hc : co.le co') : ∀ {v : V} {d : D}, Rep g co H v d → Rep g co' H' v d
  | _, _, .non => .non
  | _, _, .bl b => .bl b
  | _, _, .int i => .int i
  | _, _, .str x => .str x
  | _, _, .tup s r => .tup (sqT_ext e s) (RepL.ext e hc r)
  | _, _, .lst s r => .lst (s.ext e) (RepL.ext e hc r)
  | _, _, .glb h => .glb h
  | _, _, .exc h1 h2 h3 r => .exc (e _ _ h1 trivial) h2 (e _ _ h3 trivial) (Rep.ext e hc r)
  | _, _, .clo h r => .clo (hc.co _ _ _ h) (RepL.ext e hc r)
  | _, _, .own h => .own (hc.ow _ _ h)
  | _, _, .pot h => .pot h
  | _, _, .rng h => .rng (e _ _ h trivial)
  | _, _, .scr h => .scr (h.elim (fun z => .inl (FzL.ext e z)) fun z => .inr z)
theorem RepL.ext {g : Gx} {co co' : CO} {H H' : Hp} (e : Ext1 H H') (hc : co.le co') : ∀ {vs : List V} {ds : List D}, RepL g co H vs ds → RepL g co' H' vs ds
  | _, _, .nil => .nil
  | _, _, .cons r t => .cons (Rep.ext e hc r) (RepL.ext e hc t)
end
theorem RepL.length {g : Gx} {co : CO} {H : Hp} : ∀ {vs : List V} {ds : List D}, RepL g co H vs ds → vs.length = ds.length
  | _, _, .nil => rfl
  | _, _, .cons _ t => congrArg (· + 1) t.length
theorem RepL.get {g : Gx} {co : CO} {H : Hp} : ∀ {vs : List V} {ds : List D} {i : Nat} {d : D}, RepL g co H vs ds → ds[i]? = some d → ∃ v, vs[i]? = some v ∧ Rep g co H v d
  | _, _, _, _, .nil, h => by simp at h
  | _, _, 0, _, .cons r _, h => by simp at h; subst h; exact ⟨_, rfl, r⟩
  | _, _, i + 1, _, .cons _ t, h => by
    obtain ⟨v, h1, h2⟩ := RepL.get (i := i) t (by simpa using h)
    exact ⟨v, by simpa using h1, h2⟩
theorem RepL.getV {g : Gx} {co : CO} {H : Hp} : ∀ {vs : List V} {ds : List D} {i : Nat} {v : V}, RepL g co H vs ds → vs[i]? = some v → ∃ d, ds[i]? = some d ∧ Rep g co H v d
  | _, _, _, _, .nil, h => by simp at h
  | _, _, 0, _, .cons r _, h => by simp at h; subst h; exact ⟨_, rfl, r⟩
  | _, _, i + 1, _, .cons _ t, h => by
    obtain ⟨d, h1, h2⟩ := RepL.getV (i := i) t (by simpa using h)
    exact ⟨d, by simpa using h1, h2⟩
theorem RepL.append {g : Gx} {co : CO} {H : Hp} : ∀ {vs ws : List V} {ds es : List D}, RepL g co H vs ds → RepL g co H ws es → RepL g co H (vs ++ ws) (ds ++ es)
  | _, _, _, _, .nil, s => s
  | _, _, _, _, .cons r t, s => .cons r (RepL.append t s)
theorem RepL.take {g : Gx} {co : CO} {H : Hp} : ∀ {vs : List V} {ds : List D} (n : Nat), RepL g co H vs ds → RepL g co H (vs.take n) (ds.take n)
  | _, _, 0, _ => by simpa using RepL.nil
  | _, _, n + 1, .nil => .nil
  | _, _, n + 1, .cons r t => .cons r (RepL.take n t)
theorem RepL.drop {g : Gx} {co : CO} {H : Hp} : ∀ {vs : List V} {ds : List D} (n : Nat), RepL g co H vs ds → RepL g co H (vs.drop n) (ds.drop n)
  | _, _, 0, r => r
  | _, _, n + 1, .nil => .nil
  | _, _, n + 1, .cons _ t => RepL.drop n t
theorem RepL.reverse {g : Gx} {co : CO} {H : Hp} : ∀ {vs : List V} {ds : List D}, RepL g co H vs ds → RepL g co H vs.reverse ds.reverse
  | _, _, .nil => .nil
  | _, _, .cons r t => by
    rw [List.reverse_cons, List.reverse_cons]
    exact (RepL.reverse t).append (.cons r .nil)
theorem RepL.set {g : Gx} {co : CO} {H : Hp} {v : V} {d : D} (r : Rep g co H v d) : ∀ {vs : List V} {ds : List D} (i : Nat), RepL g co H vs ds → RepL g co H (vs.set i v) (ds.set i d)
  | _, _, _, .nil => .nil
  | _, _, 0, .cons _ t => .cons r t
  | _, _, i + 1, .cons q t => .cons q (RepL.set r i t)

/-! ### the state -/
abbrev P3 := Option (Int × Int × Int)
def PotR (g : Gx) (H : Hp) (p : P3) : Prop :=
  match g.pa, p with
  | some a, some (x, y, z) => H a = some (.lst [.int x, .int y, .int z])
  | none, none => True
  | _, _ => False
structure StR (g : Gx) (H : Hp) (p : P3) : Prop where
  pot : PotR g H p
  tab : Tabs g.T H
theorem StR.grow {g : Gx} {H H' : Hp} {p : P3} (s : StR g H p) (e : Grow H H') : StR g H' p := by
  refine ⟨?_, s.tab.ext e⟩
  have h := s.pot
  unfold PotR at h ⊢
  split at h <;> first | exact e _ _ h | exact h

inductive Res (α : Type) where
  | ok (a : α) (p : P3)
  | err (x : Str) (v : D) (p : P3)
  | bad
abbrev Vw := List (Option D)
abbrev ME := Vw → P3 → Res D
abbrev MB := Vw → P3 → Res Bool
abbrev MA := Vw → P3 → Res (List D)
@[inline] def Res.bind {α β : Type} (r : Res α) (f : α → P3 → Res β) : Res β :=
  match r with
  | .ok a p => f a p
  | .err x v p => .err x v p
  | .bad => .bad

/-- the judgement's fixed part: g, the closures that are known, what is wished of an error -/
structure Jc where
  g : Gx
  co : Hp → CO
  W : WX
  coE : ∀ H H', Ext1 H H' → (co H).le (co H')
abbrev Jc.R (J : Jc) (_ : St) (H : Hp) : V → D → Prop := Rep J.g (J.co H) H
abbrev Jc.RL (J : Jc) (_ : St) (H : Hp) : List V → List D → Prop := RepL J.g (J.co H) H
theorem Jc.ext (J : Jc) {σ : St} {H H' : Hp} {v : V} {d : D} (e : Ext J.g H H') (r : J.R σ H v d) : J.R σ H' v d := r.ext e.hard (J.coE H H' e.hard)
theorem Jc.ext1 (J : Jc) {σ : St} {H H' : Hp} {v : V} {d : D} (e : Ext1 H H') (r : J.R σ H v d) : J.R σ H' v d := r.ext e (J.coE H H' e)
theorem Jc.extL1 (J : Jc) {σ : St} {H H' : Hp} {v : List V} {d : List D} (e : Ext1 H H') (r : J.RL σ H v d) : J.RL σ H' v d := r.ext e (J.coE H H' e)
theorem Jc.extL (J : Jc) {σ : St} {H H' : Hp} {v : List V} {d : List D} (e : Ext J.g H H') (r : J.RL σ H v d) : J.RL σ H' v d := r.ext e.hard (J.coE H H' e.hard)
structure VRep (J : Jc) (σ : St) (H : Hp) (vw : Vw) : Prop where
  len : vw.length ≤ σ.length
  at_ : ∀ (i : Nat) (d : D), vw[i]? = some (some d) → ∃ v, σ[i]? = some (some v) ∧ J.R σ H v d
theorem VRep.ext {J : Jc} {σ : St} {H H' : Hp} {vw : Vw} (e : Ext J.g H H') (h : VRep J σ H vw) : VRep J σ H' vw := ⟨h.len, fun i d q =>
  let ⟨v, h1, h2⟩ := h.at_ i d q
  ⟨v, h1, J.ext e h2⟩⟩
def ErrP (J : Jc) (σ : St) (H : Hp) (x : Str) (dv : D) (p : P3) : Prop :=
  ∀ (H' : Hp) (C dd : Addr) (y : V), Ext J.g H H' → StR J.g H' p → J.g.mg x = some (.ref C) → H' dd = some (.xd [("value", y)]) → J.R σ H' y dv → J.W (.ref C) (some dd) σ H'
theorem ErrP.ext {J : Jc} {σ : St} {H H1 : Hp} {x : Str} {dv : D} {p : P3} (h : ErrP J σ H x dv p) (e : Ext J.g H H1) : ErrP J σ H1 x dv p := fun H' C dd y e' => h H' C dd y (e.trans e')
def PV (J : Jc) (σ : St) (H : Hp) (Q : VK) : Res D → Prop
  | .ok d p => ∀ (H' : Hp) (v : V), Ext J.g H H' → StR J.g H' p → J.R σ H' v d → Q v H'
  | .err x dv p => ErrP J σ H x dv p
  | .bad => False
def PB (J : Jc) (σ : St) (H : Hp) (Q : Bool → Hp → Prop) : Res Bool → Prop
  | .ok b p => ∀ (H' : Hp), Ext J.g H H' → StR J.g H' p → Q b H'
  | .err x dv p => ErrP J σ H x dv p
  | .bad => False
def PL (J : Jc) (σ : St) (H : Hp) (Q : List V → Hp → Prop) : Res (List D) → Prop
  | .ok ds p => ∀ (H' : Hp) (vs : List V), Ext J.g H H' → StR J.g H' p → J.RL σ H' vs ds → Q vs H'
  | .err x dv p => ErrP J σ H x dv p
  | .bad => False
/-- a new list (unfrozen) -/
def PN (J : Jc) (σ : St) (H : Hp) (Q : VK) : Res (List D) → Prop
  | .ok ds p => ∀ (H' : Hp) (a : Addr) (xs : List V), Ext J.g H H' → StR J.g H' p → H' a = none → J.RL σ H' xs ds → Q (.ref a) (upd H' a (.lst xs))
  | .err x dv p => ErrP J σ H x dv p
  | .bad => False
def tV (J : Jc) (m : ME) : TE := fun σ H Q => ∃ vw p, VRep J σ H vw ∧ StR J.g H p ∧ PV J σ H Q (m vw p)
def tB (J : Jc) (m : MB) : TT := fun σ H Q => ∃ vw p, VRep J σ H vw ∧ StR J.g H p ∧ PB J σ H Q (m vw p)
def tA (J : Jc) (m : MA) : TA := fun σ H Q => ∃ vw p, VRep J σ H vw ∧ StR J.g H p ∧ PL J σ H Q (m vw p)
def tN (J : Jc) (m : MA) : TE := fun σ H Q => ∃ vw p, VRep J σ H vw ∧ StR J.g H p ∧ PN J σ H Q (m vw p)
/-- an expression, a test, arguments, a new list -/
abbrev VE (X : Cx) (J : Jc) (e : Expr) (m : ME) : Prop := PE X e (tV J m)
abbrev VT (X : Cx) (J : Jc) (e : Expr) (m : MB) : Prop := PT X e (tB J m)
abbrev VA (X : Cx) (J : Jc) (es : List Expr) (m : MA) : Prop := PA X es (tA J m)
abbrev VN (X : Cx) (J : Jc) (e : Expr) (m : MA) : Prop := PE X e (tN J m)
theorem pe_imp {X : Cx} {e : Expr} {t t' : TE} (h : PE X e t) (i : ∀ σ H Q, t' σ H Q → t σ H Q) : PE X e t' := ⟨fun pins s σ H Q I q => h.run pins s σ H Q I (i σ H Q q)⟩
theorem pt_imp {X : Cx} {e : Expr} {t t' : TT} (h : PT X e t) (i : ∀ σ H Q, t' σ H Q → t σ H Q) : PT X e t' := ⟨fun pins s σ H Q I q => h.run pins s σ H Q I (i σ H Q q)⟩
theorem pw_imp {X : Cx} {e : Expr} {t t' : TT} (h : PW X e t) (i : ∀ σ H Q, t' σ H Q → t σ H Q) : PW X e t' := ⟨fun wh pins s σ H Q I q => h.run wh pins s σ H Q I (i σ H Q q)⟩
theorem pa_imp {X : Cx} {e : List Expr} {t t' : TA} (h : PA X e t) (i : ∀ σ H Q, t' σ H Q → t σ H Q) : PA X e t' := ⟨fun pos pins s σ H Q I q => h.run pos pins s σ H Q I (i σ H Q q)⟩
theorem ps_imp {X : Cx} {e : Stmt} {t t' : TS} (h : PS X e t) (i : ∀ D σ H, t' D σ H → t D σ H) : PS X e t' := ⟨fun pins s σ H D I q => h.run pins s σ H D I (i D σ H q)⟩
theorem pss_imp {X : Cx} {e : List Stmt} {t t' : TS} (h : PSs X e t) (i : ∀ D σ H, t' D σ H → t D σ H) : PSs X e t' := ⟨fun pins s σ H D I q => h.run pins s σ H D I (i D σ H q)⟩

/-! ### leaves -/
section
variable {X : Cx} {J : Jc}
def mVar (i : Nat) : ME := fun vw p => match vw[i]? with
  | some (some d) => .ok d p
  | _ => .bad
def mC (d : D) : ME := fun _ p => .ok d p
theorem ve_var (i : Nat) {x : Str} {pos : Pos} (hN : X.N[i]? = some x := by rfl) (hv : Vis X.env.scope x := by first | exact Or.inl rfl | exact Or.inr (Or.inl rfl) | exact Or.inr (Or.inr rfl)) (hd : (x == ("__debug__" : Str)) = false := by decide)
    (hcd : (x == ("__classdict__" : Str)) = false := by decide) : VE X J (.Name x pos) (mVar i) := by
  refine pe_imp (pe_var hN hv hd hcd) fun σ H Q ⟨vw, p, r, s, q⟩ => ?_
  unfold mVar at q
  cases e : vw[i]? with
  | none => rw [e] at q; exact q.elim
  | some o =>
    cases o with
    | none => rw [e] at q; exact q.elim
    | some d =>
      rw [e] at q
      obtain ⟨v, h1, h2⟩ := r.at_ i d e
      exact ⟨v, h1, q H v .refl s h2⟩
theorem ve_c {e : Expr} {v : V} {d : D} (h : PE X e (tC v)) (r : ∀ co H, Rep J.g co H v d) : VE X J e (mC d) :=
  pe_imp h fun σ H Q ⟨vw, p, _, s, q⟩ => q H v .refl s (r _ _)
theorem ve_int {i : Int} {j : Nat} {pos : Pos} : VE X J (.Constant (.int i) j pos) (mC (.int i)) := ve_c pe_int fun _ _ => .int i
theorem ve_bl {b : Bool} {j : Nat} {pos : Pos} : VE X J (.Constant (.bool b) j pos) (mC (.bl b)) := ve_c pe_bl fun _ _ => .bl b
theorem ve_non {j : Nat} {pos : Pos} : VE X J (.Constant .none j pos) (mC .non) := ve_c pe_non fun _ _ => .non
theorem ve_str {x : Str} {j : Nat} {pos : Pos} : VE X J (.Constant (.str x) j pos) (mC (.str x)) := ve_c pe_str fun _ _ => .str x
/-- a module's name whose value is known -/
theorem ve_glob {x : Str} {v : V} {u : Value} {d : D} {pos : Pos} (hg : Gl X x) (hm : X.mg x = some u) (r : RelV v u) (rd : ∀ co H, Rep J.g co H v d) (hd : (x == ("__debug__" : Str)) = false := by decide) : VE X J (.Name x pos) (mC d) :=
  ve_c (pe_glob hg hm r hd) rd

/-! ### lists of expressions -/
def mNil : MA := fun _ p => .ok [] p
def mCons (m : ME) (ms : MA) : MA := fun vw p => (m vw p).bind fun d p1 => (ms vw p1).bind fun ds p2 => .ok (d :: ds) p2
theorem va_nil : VA X J [] mNil := pa_imp pa_nil fun σ H Q ⟨vw, p, _, s, q⟩ => q H [] .refl s .nil
theorem va_cons {e : Expr} {es : List Expr} {m : ME} {ms : MA} (h : VE X J e m) (hs : VA X J es ms) (hst : starEach (e :: es) X.env = (false, eval e X.env) :: starEach es X.env := by rfl) : VA X J (e :: es) (mCons m ms) := by
  refine pa_imp (pa_cons h hs hst) fun σ H Q ⟨vw, p, r, s, q⟩ => ⟨vw, p, r, s, ?_⟩
  unfold mCons at q
  cases e1 : m vw p with
  | bad => rw [e1] at q; exact q.elim
  | err x dv p1 => rw [e1] at q; exact q
  | ok d p1 =>
    rw [e1] at q
    intro H1 v x1 s1 r1
    refine ⟨vw, p1, r.ext x1, s1, ?_⟩
    cases e2 : ms vw p1 with
    | bad => simp only [Res.bind, e2] at q; exact q.elim
    | err x dv p2 => simp only [Res.bind, e2] at q; exact ErrP.ext q x1
    | ok ds p2 =>
      simp only [Res.bind, e2] at q
      intro H2 vs x2 s2 r2
      exact q H2 (v :: vs) (x1.trans x2) s2 (.cons (J.ext x2 r1) r2)

/-! ### operations on values -/
/-- what a one-place, two-place operation on trees does: it hands on a tree, or it is outside what is served -/
def Op1 (J : Jc) (f : D → Option D) (r : V → Hp → VK → Prop) : Prop := ∀ (σ : St) (H : Hp) (Q : VK) (x : V) (dx d : D), J.R σ H x dx → f dx = some d → (∀ (H' : Hp) (v : V), Grow H H' → J.R σ H' v d → Q v H') → r x H Q
def Op2 (J : Jc) (f : D → D → Option D) (r : R2) : Prop := ∀ (σ : St) (H : Hp) (Q : VK) (x y : V) (dx dy d : D), J.R σ H x dx → J.R σ H y dy → f dx dy = some d → (∀ (H' : Hp) (v : V), Grow H H' → J.R σ H' v d → Q v H') → r x y H Q
def ofO {α : Type} (o : Option α) (p : P3) : Res α := match o with
  | some a => .ok a p
  | none => .bad
def m1 (f : D → Option D) (m : ME) : ME := fun vw p => (m vw p).bind fun d p1 => ofO (f d) p1
def m2 (f : D → D → Option D) (ma mb : ME) : ME := fun vw p => (ma vw p).bind fun x p1 => (mb vw p1).bind fun y p2 => ofO (f x y) p2
theorem ve_one {e' : Expr} {r : V → Hp → VK → Prop} {f : D → Option D} {m : ME} (h : PE X e' (tUn r (tV J m))) (o : Op1 J f r) : VE X J e' (m1 f m) := by
  refine pe_imp h fun σ H Q ⟨vw, p, rr, s, q⟩ => ⟨vw, p, rr, s, ?_⟩
  unfold m1 at q
  cases e1 : m vw p with
  | bad => rw [e1] at q; exact q.elim
  | err x dv p1 => rw [e1] at q; exact q
  | ok d p1 =>
    rw [e1] at q
    intro H1 v x1 s1 r1
    cases e2 : f d with
    | none => simp only [Res.bind, e2, ofO] at q; exact q.elim
    | some z =>
      simp only [Res.bind, e2, ofO] at q
      exact o σ H1 Q v d z r1 e2 fun H2 v2 g2 r2 => q H2 v2 (x1.trans g2.ext) (s1.grow g2) r2
theorem ve_two {e' : Expr} {r : R2} {f : D → D → Option D} {ma mb : ME} (h : PE X e' (tOp r (tV J ma) (tV J mb))) (o : Op2 J f r) : VE X J e' (m2 f ma mb) := by
  refine pe_imp h fun σ H Q ⟨vw, p, rr, s, q⟩ => ⟨vw, p, rr, s, ?_⟩
  unfold m2 at q
  cases e1 : ma vw p with
  | bad => rw [e1] at q; exact q.elim
  | err x dv p1 => rw [e1] at q; exact q
  | ok d p1 =>
    rw [e1] at q
    intro H1 v x1 s1 r1
    refine ⟨vw, p1, rr.ext x1, s1, ?_⟩
    cases e2 : mb vw p1 with
    | bad => simp only [Res.bind, e2] at q; exact q.elim
    | err x dv p2 => simp only [Res.bind, e2] at q; exact ErrP.ext q x1
    | ok d2 p2 =>
      intro H2 v2 x2 s2 r2
      cases e3 : f d d2 with
      | none => simp only [Res.bind, e2, e3, ofO] at q; exact q.elim
      | some z =>
        simp only [Res.bind, e2, e3, ofO] at q
        exact o σ H2 Q v v2 d d2 z (J.ext x2 r1) r2 e3 fun H3 v3 g3 r3 => q H3 v3 ((x1.trans x2).trans g3.ext) (s2.grow g3) r3
end
end VL

namespace VL
open PySem PySem.Spec PyProof.Rows L2 LamX
section
variable {X : Cx} {pins : List (Addr × Obj)} {σ : St} {H : Hp} {s : Shared}
/-- ghost: a tracked list is from now on known to its object -/
theorem inv_freeze (I : Inv X pins σ H s) {a : Addr} {xs : List V} (h : H a = some (.lst xs)) : ∃ o, Inv X pins σ (upd H a (.frz o (.lst xs))) s := by
  have ok : ObjOk X.prog X.w H s.heap a (.lst xs) := I.hok a _ h
  obtain ⟨z, its, n, r, e⟩ := ok
  refine ⟨{ cls := .type "list", data := .seq its.toArray n }, I.ok, I.os, I.bare, ⟨I.base.keep, I.base.slot, fun b o q n' hx => ?_, I.base.there, fun b ys q => ?_, fun b o u q => ?_, fun b ps q => ?_⟩, I.loc, I.cell, ?_, fun x c q => ?_, fun p hp => ?_, fun b o q => ?_, I.len⟩
  · have w := I.base.free b o q n' hx
    rw [upd_ne (fun z => by subst z; rw [h] at w; cases w)]; exact w
  · have w := I.base.tups b ys q
    rw [upd_ne (fun z => by subst z; rw [h] at w; cases w)]; exact w
  · have w := I.base.frzs b o u q
    rw [upd_ne (fun z => by subst z; rw [h] at w; cases w)]; exact w
  · obtain ⟨m, w⟩ := I.base.tbls b ps q
    exact ⟨m, by rw [upd_ne (fun z => by subst z; rw [h] at w; cases w)]; exact w⟩
  · have w := I.free
    rw [upd_ne (fun z => by rw [z, h] at w; cases w)]; exact w
  · have w := I.freeC x c q
    rw [upd_ne (fun z => by subst z; rw [h] at w; cases w)]; exact w
  · obtain ⟨w1, w2, w3⟩ := I.pin p hp
    exact ⟨w1, by rw [upd_ne (fun z => by rw [z, h] at w2; cases w2)]; exact w2, w3⟩
  · by_cases hb : b = a
    · subst hb
      rw [upd_same] at q
      cases q
      exact ⟨e, z, its, n, r, e⟩
    · rw [upd_ne hb] at q
      refine (I.hok b o q).stay (fun _ _ _ k => k) (fun c k => ?_) (fun c ys k => ?_)
      · rw [upd_ne (fun z => by subst z; rw [h] at k; cases k)]; exact k
      · rw [upd_ne (fun z => by subst z; rw [h] at k; cases k)]; exact k
/-- ghost: back, where it is the frame's own -/
theorem inv_thaw (I : Inv X pins σ H s) {a : Addr} {xs : List V} {o : Obj} (h : H a = some (.frz o (.lst xs))) (h0 : ∀ o u, X.H_0 a ≠ some (.frz o u)) : Inv X pins σ (upd H a (.lst xs)) s := by
  have ok : ObjOk X.prog X.w H s.heap a (.frz o (.lst xs)) := I.hok a _ h
  obtain ⟨e0, z, its, n, r, e⟩ := ok
  refine ⟨I.ok, I.os, I.bare, ⟨I.base.keep, I.base.slot, fun b o q n' hx => ?_, I.base.there, fun b ys q => ?_, fun b o u q => ?_, fun b ps q => ?_⟩, I.loc, I.cell, ?_, fun x c q => ?_, fun p hp => ?_, fun b o q => ?_, I.len⟩
  · have w := I.base.free b o q n' hx
    rw [upd_ne (fun z => by subst z; rw [h] at w; cases w)]; exact w
  · have w := I.base.tups b ys q
    rw [upd_ne (fun z => by subst z; rw [h] at w; cases w)]; exact w
  · have w := I.base.frzs b o u q
    rw [upd_ne (fun z => by subst z; exact h0 _ _ q)]; exact w
  · obtain ⟨m, w⟩ := I.base.tbls b ps q
    exact ⟨m, by rw [upd_ne (fun z => by subst z; rw [h] at w; cases w)]; exact w⟩
  · have w := I.free
    rw [upd_ne (fun z => by rw [z, h] at w; cases w)]; exact w
  · have w := I.freeC x c q
    rw [upd_ne (fun z => by subst z; rw [h] at w; cases w)]; exact w
  · obtain ⟨w1, w2, w3⟩ := I.pin p hp
    exact ⟨w1, by rw [upd_ne (fun z => by rw [z, h] at w2; cases w2)]; exact w2, w3⟩
  · by_cases hb : b = a
    · subst hb
      rw [upd_same] at q
      cases q
      exact ⟨z, its, n, r, e⟩
    · rw [upd_ne hb] at q
      refine (I.hok b o q).stay (fun _ _ _ k => k) (fun c k => ?_) (fun c ys k => ?_)
      · rw [upd_ne (fun z => by subst z; rw [h] at k; cases k)]; exact k
      · rw [upd_ne (fun z => by subst z; rw [h] at k; cases k)]; exact k
/-- a frozen list's object -/
theorem inv_fz (I : Inv X pins σ H s) {a : Addr} {xs : List V} (h : FzL H a xs) : xs.length ≤ sizeLine ∧ ∃ (its : List Value) (n : Nat), Vals xs its ∧ s.heap.get? a = some { cls := .type "list", data := .seq its.toArray n } := by
  obtain ⟨o, h⟩ := h
  have ok : ObjOk X.prog X.w H s.heap a (.frz o (.lst xs)) := I.hok a _ h
  obtain ⟨_, z, its, n, r, e⟩ := ok
  exact ⟨z, its, n, r, e⟩
end
/-- where a new list is handed on, it may be frozen ahead -/
def Fz (Q : VK) : VK := fun v H => Q v H ∨ ∃ a xs, v = .ref a ∧ H a = some (.lst xs) ∧ ∀ o, Q v (upd H a (.frz o (.lst xs)))
theorem pe_fz {X : Cx} {e : Expr} {t : TE} (h : PE X e t) : PE X e (fun σ H Q => t σ H (Fz Q)) := by
  refine ⟨fun pins s σ H Q I q => thn (h.run pins s σ H _ I q) fun u s1 ⟨v, H1, I1, r1, q1⟩ => ?_⟩
  rcases q1 with q1 | ⟨a, xs, rfl, ha, q1⟩
  · exact ⟨v, H1, I1, r1, q1⟩
  · obtain ⟨o, I2⟩ := inv_freeze I1 ha
    exact ⟨_, _, I2, r1, q1 o⟩
theorem fz_of {J : Jc} {σ : St} {H : Hp} {Q : VK} {d : D} {p : Addr} {xs : List V} {ds : List D} (hp : H p = none) (r : J.RL σ H xs ds) (q : ∀ (H' : Hp) (v : V), Grow H H' → J.R σ H' v (.lst ds) → Q v H') : Fz Q (.ref p) (upd H p (.lst xs)) := by
  refine .inr ⟨p, xs, rfl, upd_same, fun o => ?_⟩
  rw [upd_upd]
  exact q _ _ (Grow.upd hp) (.lst ⟨o, upd_same⟩ (J.extL (Grow.upd hp).ext r))
theorem tup_of {J : Jc} {σ : St} {H : Hp} {Q : VK} {p : Addr} {xs : List V} {ds : List D} (hp : H p = none) (r : J.RL σ H xs ds) (q : ∀ (H' : Hp) (v : V), Grow H H' → J.R σ H' v (.tup ds) → Q v H') : Q (.ref p) (upd H p (.tup xs)) :=
  q _ _ (Grow.upd hp) (.tup (SqT.of upd_same) (J.extL (Grow.upd hp).ext r))
/-- as Op1, Op2, where a new list may be frozen -/
theorem op2_fz {X : Cx} {J : Jc} {e' : Expr} {r : R2} {f : D → D → Option D} {ma mb : ME} (h : PE X e' (tOp r (tV J ma) (tV J mb))) (o : Op2 J f fun x y H Q => r x y H (Fz Q)) : VE X J e' (m2 f ma mb) :=
  ve_two (r := fun x y H Q => r x y H (Fz Q)) (pe_fz h) o
theorem op1_fz {X : Cx} {J : Jc} {e' : Expr} {r : V → Hp → VK → Prop} {f : D → Option D} {m : ME} (h : PE X e' (tUn r (tV J m))) (o : Op1 J f fun x H Q => r x H (Fz Q)) : VE X J e' (m1 f m) :=
  ve_one (r := fun x H Q => r x H (Fz Q)) (pe_fz h) o

/-! ### ints and sums -/
def okMul (a b : Int) : Bool := (decide (-(2 ^ 64) < a) && decide (a < 2 ^ 64)) || ((decide (-(2 ^ 64) < b) && decide (b < 2 ^ 64)) || decide (a.natAbs.log2 + b.natAbs.log2 < 1000000))
def D.add : D → D → Option D
  | .int a, .int b => some (.int (a + b))
  | .str a, .str b => if a.length + b.length ≤ sizeLine then some (.str (a ++ b)) else none
  | .tup a, .tup b => if a.length + b.length ≤ sizeLine then some (.tup (a ++ b)) else none
  | .lst a, .lst b => if a.length + b.length ≤ sizeLine then some (.lst (a ++ b)) else none
  | _, _ => none
def D.sub : D → D → Option D
  | .int a, .int b => some (.int (a - b))
  | _, _ => none
def D.mul : D → D → Option D
  | .int a, .int b => if okMul a b then some (.int (a * b)) else none
  | .tup a, .int k => if a ≠ [] ∧ 2 ≤ k ∧ k ≤ 1000 ∧ a.length ≤ 1000 then some (.tup (List.replicate k.toNat a).flatten) else none
  | .lst a, .int k => if k < 1000000 ∧ -1000000 < k ∧ a.length * k.toNat ≤ sizeLine then some (.lst (List.replicate k.toNat a).flatten) else none
  | _, _ => none
def okDiv (b : Int) : Bool := decide (0 < b) && decide (b.natAbs.log2 < 9000) || (decide (b ≠ 0) && decide (b.natAbs < 1073741824))
def D.fdiv : D → D → Option D
  | .int a, .int b => if okDiv b then some (.int (a.fdiv b)) else none
  | _, _ => none
def D.fmod : D → D → Option D
  | .int a, .int b => if b ≠ 0 then some (.int (a.fmod b)) else none
  | _, _ => none
def D.pow : D → D → Option D
  | .int a, .int b => if 0 ≤ b ∧ b ≤ 1000000 ∧ a.natAbs < 2 ^ 64 then some (.int (a ^ b.toNat)) else none
  | _, _ => none
/-- list + list, of any standing -/
def rCatF : R2 := fun x y H Q => ∃ l b xs zs, x = .ref l ∧ y = .ref b ∧ FzL H l xs ∧ FzL H b zs ∧ xs.length + zs.length ≤ sizeLine ∧ ∀ p, H p = none → Q (.ref p) (upd H p (.lst (xs ++ zs)))
theorem op_catF {X : Cx} : OpR X (binaryOp .Add) rCatF := by
  intro pins s σ H x y v u Q I rx ry h
  obtain ⟨l, b, xs, zs, rfl, rfl, hH, hB, hz, q⟩ := h
  cases rx
  cases ry
  obtain ⟨z, its, n, r, e⟩ := inv_fz I hH
  obtain ⟨z2, its2, n2, r2, e2⟩ := inv_fz I hB
  have l1 := r.length
  have l2 := r2.length
  refine PySem.P.add_list e e2 ?_ (by rw [List.size_toArray, List.size_toArray]; omega)
  rw [show its.toArray ++ its2.toArray = (its ++ its2).toArray by simp]
  exact ⟨.ref _, _, I.lnew (t' := s.toks) (r.append r2) (by rw [List.length_append]; omega), rfl, q _ I.fresh⟩
def rAdd (K : PySem.W.Frag) : R2 := fun x y H Q => (∃ i j, x = .int i ∧ y = .int j ∧ Q (.int (i + j)) H) ∨ (∃ i j, x = .str i ∧ y = .str j ∧ i.length + j.length ≤ sizeLine ∧ Q (.str (i ++ j)) H) ∨ rCatA K x y H Q ∨ rCatF x y H Q
theorem op_addD {X : Cx} : OpR X (binaryOp .Add) (rAdd X.K) := op_add.or (op_add_str.or (op_catA.or op_catF))
section
variable {X : Cx} {J : Jc} {a b : Expr} {ma mb : ME} {pos : Pos}
theorem ve_add (hK : J.g.K = X.K) (ha : VE X J a ma) (hb : VE X J b mb) : VE X J (.BinOp a .Add b pos) (m2 D.add ma mb) := by
  refine op2_fz (pe_op op_addD ha hb) fun σ H Q x y dx dy d rx ry e q => ?_
  rw [← hK]
  unfold D.add at e
  split at e
  · cases rx; cases ry; cases e
    exact .inl ⟨_, _, rfl, rfl, .inl (q H _ (fun _ _ k => k) (.int _))⟩
  · cases rx; cases ry
    split at e
    · cases e
      rename_i hz
      exact .inr (.inl ⟨_, _, rfl, rfl, hz, .inl (q H _ (fun _ _ k => k) (.str _))⟩)
    · cases e
  · cases rx with
    | tup s1 r1 =>
      cases ry with
      | tup s2 r2 =>
        split at e
        · cases e
          rename_i hz
          rw [← r1.length, ← r2.length] at hz
          refine .inr (.inr (.inl ⟨_, _, _, _, rfl, rfl, s1, s2, hz, fun h0 => .inl ?_, fun _ h0 => .inl ?_, fun _ _ p hp => .inl (tup_of hp (r1.append r2) q)⟩))
          · subst h0
            cases r1
            exact q H _ (fun _ _ k => k) (.tup s2 r2)
          · subst h0
            cases r2
            rw [List.append_nil] at q
            exact q H _ (fun _ _ k => k) (.tup s1 r1)
        · cases e
  · cases rx with
    | lst s1 r1 =>
      cases ry with
      | lst s2 r2 =>
        split at e
        · cases e
          rename_i hz
          rw [← r1.length, ← r2.length] at hz
          exact .inr (.inr (.inr ⟨_, _, _, _, rfl, rfl, s1, s2, hz, fun p hp => fz_of (d := .non) hp (r1.append r2) q⟩))
        · cases e
  · cases e
theorem ve_sub (ha : VE X J a ma) (hb : VE X J b mb) : VE X J (.BinOp a .Sub b pos) (m2 D.sub ma mb) := by
  refine ve_two (pe_op op_sub ha hb) fun σ H Q x y dx dy d rx ry e q => ?_
  unfold D.sub at e
  split at e
  · cases rx; cases ry; cases e
    exact ⟨_, _, rfl, rfl, q H _ (fun _ _ k => k) (.int _)⟩
  · cases e
theorem ve_fdiv (ha : VE X J a ma) (hb : VE X J b mb) : VE X J (.BinOp a .FloorDiv b pos) (m2 D.fdiv ma mb) := by
  have op : OpR X (binaryOp .FloorDiv) (fun x y H Q => rI CDivN (fun i j => .int (i.fdiv j)) x y H Q ∨ rI CDivW (fun i j => .int (i / j)) x y H Q) := op_fdivN.or op_fdivW
  refine ve_two (pe_op op ha hb) fun σ H Q x y dx dy d rx ry e q => ?_
  unfold D.fdiv at e
  split at e
  · rename_i i j
    cases rx; cases ry
    split at e
    · rename_i hc
      cases e
      unfold okDiv at hc
      simp only [Bool.or_eq_true, Bool.and_eq_true, decide_eq_true_eq] at hc
      rcases hc with ⟨h1, h2⟩ | ⟨h1, h2⟩
      · refine .inr ⟨_, _, rfl, rfl, ⟨h1, h2⟩, ?_⟩
        show Q (.int (i / j)) H
        rw [← Int.fdiv_eq_ediv_of_nonneg i (Int.le_of_lt h1)]
        exact q H _ (fun _ _ k => k) (.int _)
      · exact .inl ⟨_, _, rfl, rfl, ⟨h1, h2⟩, q H _ (fun _ _ k => k) (.int _)⟩
    · cases e
  · cases e
theorem ve_mod (ha : VE X J a ma) (hb : VE X J b mb) : VE X J (.BinOp a .Mod b pos) (m2 D.fmod ma mb) := by
  refine ve_two (pe_op op_modN ha hb) fun σ H Q x y dx dy d rx ry e q => ?_
  unfold D.fmod at e
  split at e
  · cases rx; cases ry
    split at e
    · rename_i hc
      cases e
      exact ⟨_, _, rfl, rfl, hc, q H _ (fun _ _ k => k) (.int _)⟩
    · cases e
  · cases e
theorem ve_pow (ha : VE X J a ma) (hb : VE X J b mb) : VE X J (.BinOp a .Pow b pos) (m2 D.pow ma mb) := by
  refine ve_two (pe_op op_pow ha hb) fun σ H Q x y dx dy d rx ry e q => ?_
  unfold D.pow at e
  split at e
  · cases rx; cases ry
    split at e
    · rename_i hc
      cases e
      exact ⟨_, _, rfl, rfl, hc, q H _ (fun _ _ k => k) (.int _)⟩
    · cases e
  · cases e
/-- a list times an int -/
def rRepF : R2 := fun x y H Q => ∃ l k xs, x = .ref l ∧ y = .int k ∧ FzL H l xs ∧ -(2 ^ 63) ≤ k ∧ k < 2 ^ 63 ∧ xs.length * k.toNat ≤ sizeLine ∧
  ∀ p, H p = none → Q (.ref p) (upd H p (.lst (List.replicate k.toNat xs).flatten))
end
end VL

namespace VL
open PySem PySem.Spec PyProof.Rows L2 LamX
/-! ### trees as data -/
mutual
def D.py : D → PyData
  | .bl b => .bool b
  | .int i => .int i
  | .str x => .str x
  | .tup ds => .tuple (D.pys ds)
  | .lst ds => .list (D.pys ds)
  | .non | .dct _ | .glb _ | .exc _ _ | .clo _ _ | .own _ | .pot | .scr _ | .rng _ _ => .none
def D.pys : List D → List PyData
  | [] => []
  | d :: ds => d.py :: D.pys ds
end
theorem D.pys_map : ∀ ds : List D, D.pys ds = ds.map D.py
  | [] => rfl
  | d :: ds => by rw [D.pys, D.pys_map ds]; rfl
/-- data of depth at most n -/
def D.plain : Nat → D → Bool
  | _, .non | _, .bl _ | _, .int _ => true
  | _, .str x => PyData.strOk x
  | n + 1, .tup ds => ds.all (D.plain n)
  | n + 1, .lst ds => ds.all (D.plain n)
  | _, _ => false
theorem D.plain_mono : ∀ (n : Nat) (d : D), d.plain n = true → d.plain (n + 1) = true
  | 0, d, h => by cases d <;> simp_all [D.plain]
  | n + 1, d, h => by
    cases d with
    | tup ds =>
      simp only [D.plain, List.all_eq_true] at h ⊢
      exact fun x hx => D.plain_mono n x (h x hx)
    | lst ds =>
      simp only [D.plain, List.all_eq_true] at h ⊢
      exact fun x hx => D.plain_mono n x (h x hx)
    | _ => simp_all [D.plain]
theorem D.plain_le {n m : Nat} {d : D} (h : d.plain n = true) (l : n ≤ m) : d.plain m = true := by
  induction m with
  | zero => rw [Nat.le_zero.mp l] at h; exact h
  | succ m ih =>
    by_cases e : n = m + 1
    · subst e; exact h
    · exact D.plain_mono _ _ (ih (by omega))
theorem D.py_ok : ∀ (n : Nat) (d : D), d.plain n = true → d.py.canLay0 = true ∧ d.py.depth ≤ n
  | n, .non, _ => ⟨rfl, Nat.zero_le _⟩
  | n, .bl b, _ => ⟨rfl, Nat.zero_le _⟩
  | n, .int i, _ => ⟨rfl, Nat.zero_le _⟩
  | n, .str x, h => ⟨by cases n <;> simpa [D.py, PyData.canLay0, D.plain] using h, Nat.zero_le _⟩
  | n + 1, .tup ds, h => by
    simp only [D.plain, List.all_eq_true] at h
    have go : ∀ l : List D, (∀ x ∈ l, x.plain n = true) → PyData.canLayAll0 (D.pys l) = true ∧ PyData.depthAll (D.pys l) ≤ n := by
      intro l
      induction l with
      | nil => intro _; exact ⟨rfl, Nat.zero_le _⟩
      | cons a l ih =>
        intro hl
        obtain ⟨h1, h2⟩ := D.py_ok n a (hl a List.mem_cons_self)
        obtain ⟨h3, h4⟩ := ih fun x hx => hl x (List.mem_cons_of_mem _ hx)
        simp only [D.pys, PyData.canLayAll0, PyData.depthAll, h1, h3]
        exact ⟨rfl, by omega⟩
    obtain ⟨h1, h2⟩ := go ds h
    exact ⟨by simpa [D.py, PyData.canLay0] using h1, by simpa [D.py, PyData.depth] using h2⟩
  | n + 1, .lst ds, h => by
    simp only [D.plain, List.all_eq_true] at h
    have go : ∀ l : List D, (∀ x ∈ l, x.plain n = true) → PyData.canLayAll0 (D.pys l) = true ∧ PyData.depthAll (D.pys l) ≤ n := by
      intro l
      induction l with
      | nil => intro _; exact ⟨rfl, Nat.zero_le _⟩
      | cons a l ih =>
        intro hl
        obtain ⟨h1, h2⟩ := D.py_ok n a (hl a List.mem_cons_self)
        obtain ⟨h3, h4⟩ := ih fun x hx => hl x (List.mem_cons_of_mem _ hx)
        simp only [D.pys, PyData.canLayAll0, PyData.depthAll, h1, h3]
        exact ⟨rfl, by omega⟩
    obtain ⟨h1, h2⟩ := go ds h
    exact ⟨by simpa [D.py, PyData.canLay0] using h1, by simpa [D.py, PyData.depth] using h2⟩
  | 0, .tup _, h => by simp [D.plain] at h
  | 0, .lst _, h => by simp [D.plain] at h
  | n, .dct _, h => by cases n <;> simp [D.plain] at h
  | n, .glb _, h => by cases n <;> simp [D.plain] at h
  | n, .exc _ _, h => by cases n <;> simp [D.plain] at h
  | n, .clo _ _, h => by cases n <;> simp [D.plain] at h
  | n, .pot, h => by cases n <;> simp [D.plain] at h
  | n, .own _, h => by cases n <;> simp [D.plain] at h
  | n, .scr _, h => by cases n <;> simp [D.plain] at h
  | n, .rng _ _, h => by cases n <;> simp [D.plain] at h
theorem D.shaped {d : D} (h : d.plain 60 = true) : SeqAt.shaped d.py = true := by
  obtain ⟨h1, h2⟩ := D.py_ok 60 d h
  unfold SeqAt.shaped
  rw [h1, decide_eq_true (Nat.le_trans h2 (by decide))]
  rfl
theorem Rep.dp {g : Gx} {co : CO} {H : Hp} : ∀ (n : Nat) {v : V} {d : D}, Rep g co H v d → d.plain n = true → Dp g.K H v d.py
  | n, _, _, .non, _ => .non
  | n, _, _, .bl b, _ => .bl b
  | n, _, _, .int i, _ => .int i
  | n, _, _, .str x, _ => .str x
  | n + 1, _, _, .tup (xs := xs) (ds := ds) s r, h => by
    simp only [D.plain, List.all_eq_true] at h
    have go : ∀ (xs : List V) (l : List D), RepL g co H xs l → (∀ x ∈ l, x.plain n = true) → DpAll g.K H xs (D.pys l) := by
      intro xs l
      induction l generalizing xs with
      | nil => intro r _; cases r; exact .nil
      | cons a l ih =>
        intro r hl
        cases r with
        | cons r1 r2 => exact .cons (Rep.dp n r1 (hl a List.mem_cons_self)) (ih _ r2 fun x hx => hl x (List.mem_cons_of_mem _ hx))
    exact .tup s (go xs ds r h)
  | n + 1, _, _, .lst (xs := xs) (ds := ds) s r, h => by
    simp only [D.plain, List.all_eq_true] at h
    have go : ∀ (xs : List V) (l : List D), RepL g co H xs l → (∀ x ∈ l, x.plain n = true) → DpAll g.K H xs (D.pys l) := by
      intro xs l
      induction l generalizing xs with
      | nil => intro r _; cases r; exact .nil
      | cons a l ih =>
        intro r hl
        cases r with
        | cons r1 r2 => exact .cons (Rep.dp n r1 (hl a List.mem_cons_self)) (ih _ r2 fun x hx => hl x (List.mem_cons_of_mem _ hx))
    exact .lst s.sq (go xs ds r h)
  | 0, _, _, .tup _ _, h => by simp [D.plain] at h
  | 0, _, _, .lst _ _, h => by simp [D.plain] at h
  | n, _, _, .glb _, h => by cases n <;> simp [D.plain] at h
  | n, _, _, .exc _ _ _ _, h => by cases n <;> simp [D.plain] at h
  | n, _, _, .clo _ _, h => by cases n <;> simp [D.plain] at h
  | n, _, _, .pot _, h => by cases n <;> simp [D.plain] at h
  | n, _, _, .own _, h => by cases n <;> simp [D.plain] at h
  | n, _, _, .scr _, h => by cases n <;> simp [D.plain] at h
  | n, _, _, .rng _, h => by cases n <;> simp [D.plain] at h
/-- == -/
def D.eqv (a b : D) : Bool := PyData.eqv a.py b.py
def D.eqP (a b : D) : Option D := if a.plain 60 && b.plain 60 then some (.bl (a.eqv b)) else none
def D.neP (a b : D) : Option D := if a.plain 60 && b.plain 60 then some (.bl (!a.eqv b)) else none
/-- texts are compared whatever they hold -/
def D.eq (a b : D) : Option D := match a with
  | .str x => match b with
    | .str y => some (.bl (x == y))
    | b => D.eqP (.str x) b
  | a => D.eqP a b
def D.ne (a b : D) : Option D := match a with
  | .str x => match b with
    | .str y => some (.bl (!(x == y)))
    | b => D.neP (.str x) b
  | a => D.neP a b
def D.cmp (f : Int → Int → Bool) : D → D → Option D
  | .int a, .int b => some (.bl (f a b))
  | _, _ => none
def D.isin (a b : D) : Option D := match b with
  | .lst ds => if a.plain 60 && b.plain 60 then some (.bl (ds.any fun z => z.eqv a)) else none
  | .tup ds => if a.plain 60 && b.plain 60 then some (.bl (ds.any fun z => z.eqv a)) else none
  | .str y => match a with
    | .str x => some (.bl (!(Builtin.Str.occurrences y x 0 y.length 1).isEmpty))
    | _ => none
  | _ => none
def D.neg (o : Option D) : Option D := match o with
  | some (.bl b) => some (.bl (!b))
  | _ => none
/-- x in a tuple of data -/
def rInT (K : PySem.W.Frag) (c : Bool → Bool) : R2 := fun x y H Q => ∃ d ds, Dp K H x d ∧ Dp K H y (.tuple ds) ∧ SeqAt.shaped d = true ∧ SeqAt.shaped (.tuple ds) = true ∧ Q (.bl (c (ds.any fun z => PyData.eqv z d))) H
theorem op_inT {X : Cx} (hu : X.A.units + 65 < cLine) : OpR X (compareOp .In) (rInT X.K id) := by
  intro pins s σ H x y v u Q I rx ry h
  obtain ⟨d, ds, hd, he, sd, se, q⟩ := h
  obtain ⟨as, r1⟩ := Dp.reads I d x v hd rx
  obtain ⟨bs, r2⟩ := Dp.reads I (.tuple ds) y u he ry
  exact SeqAt.in_tuple_reads r2 r1 (SeqAt.canLay_of_shaped se) (SeqAt.canLay_of_shaped sd) (room_in_shaped sd hu) ⟨.bl _, H, I, rfl, q⟩
theorem op_notInT {X : Cx} (hu : X.A.units + 65 < cLine) : OpR X (compareOp .NotIn) (rInT X.K not) := by
  intro pins s σ H x y v u Q I rx ry h
  obtain ⟨d, ds, hd, he, sd, se, q⟩ := h
  obtain ⟨as, r1⟩ := Dp.reads I d x v hd rx
  obtain ⟨bs, r2⟩ := Dp.reads I (.tuple ds) y u he ry
  exact SeqAt.notIn_tuple_reads r2 r1 (SeqAt.canLay_of_shaped se) (SeqAt.canLay_of_shaped sd) (room_in_shaped sd hu) ⟨.bl _, H, I, rfl, q⟩
section
variable {X : Cx} {J : Jc} {a b c e : Expr} {ma mb mc : ME} {pos : Pos}
theorem g0 {J : Jc} {σ : St} {H : Hp} {Q : VK} {v : V} {d : D} (q : ∀ (H' : Hp) (v : V), Grow H H' → J.R σ H' v d → Q v H') (r : J.R σ H v d) : Q v H := q H v (fun _ _ k => k) r
theorem any_py (ds : List D) (a : D) : (D.pys ds).any (fun z => PyData.eqv z a.py) = ds.any fun z => z.eqv a := by
  rw [D.pys_map, List.any_map]
  rfl
theorem op2_eqP (hK : J.g.K = X.K) : Op2 J D.eqP (rEqD X.K) := fun σ H Q x y dx dy d rx ry e q => by
  unfold D.eqP at e
  split at e
  · rename_i hp
    cases e
    obtain ⟨h1, h2⟩ := Bool.and_eq_true_iff.mp hp
    rw [← hK]
    exact ⟨dx.py, dy.py, rx.dp _ h1, ry.dp _ h2, D.shaped h1, D.shaped h2, g0 q (.bl _)⟩
  · cases e
theorem op2_neP (hK : J.g.K = X.K) : Op2 J D.neP (rNeD X.K) := fun σ H Q x y dx dy d rx ry e q => by
  unfold D.neP at e
  split at e
  · rename_i hp
    cases e
    obtain ⟨h1, h2⟩ := Bool.and_eq_true_iff.mp hp
    rw [← hK]
    exact ⟨dx.py, dy.py, rx.dp _ h1, ry.dp _ h2, D.shaped h1, D.shaped h2, g0 q (.bl _)⟩
  · cases e
def rEq2 (K : PySem.W.Frag) : R2 := fun x y H Q => rEq x y H Q ∨ rEqD K x y H Q
def rNe2 (K : PySem.W.Frag) : R2 := fun x y H Q => rNe x y H Q ∨ rNeD K x y H Q
theorem op2_eq (hK : J.g.K = X.K) : Op2 J D.eq (rEq2 X.K) := fun σ H Q x y dx dy d rx ry e q => by
  unfold D.eq at e
  split at e
  · split at e
    · cases e
      cases rx
      cases ry
      exact .inl ⟨rfl, by rw [dec_str]; exact g0 q (.bl _)⟩
    · exact .inr (op2_eqP hK σ H Q x y _ dy d rx ry e q)
  · exact .inr (op2_eqP hK σ H Q x y dx dy d rx ry e q)
theorem op2_ne (hK : J.g.K = X.K) : Op2 J D.ne (rNe2 X.K) := fun σ H Q x y dx dy d rx ry e q => by
  unfold D.ne at e
  split at e
  · split at e
    · cases e
      cases rx
      cases ry
      exact .inl ⟨rfl, by rw [dec_str]; exact g0 q (.bl _)⟩
    · exact .inr (op2_neP hK σ H Q x y _ dy d rx ry e q)
  · exact .inr (op2_neP hK σ H Q x y dx dy d rx ry e q)
def rIn3 (K : PySem.W.Frag) : R2 := fun x y H Q => rInD K x y H Q ∨ rInT K id x y H Q ∨ ∃ i j, x = .str i ∧ y = .str j ∧ Q (.bl (!(Builtin.Str.occurrences j i 0 j.length 1).isEmpty)) H
def rNotIn3 (K : PySem.W.Frag) : R2 := fun x y H Q => rNotInD K x y H Q ∨ rInT K not x y H Q ∨ ∃ i j, x = .str i ∧ y = .str j ∧ Q (.bl (!(!(Builtin.Str.occurrences j i 0 j.length 1).isEmpty))) H
theorem op_in3 (hu : X.A.units + 65 < cLine) : OpR X (compareOp .In) (rIn3 X.K) := (op_inD hu).or ((op_inT hu).or op_in_str)
theorem op_notIn3 (hu : X.A.units + 65 < cLine) : OpR X (compareOp .NotIn) (rNotIn3 X.K) := (op_notInD hu).or ((op_notInT hu).or op_notin_str)
theorem op2_in (hK : J.g.K = X.K) : Op2 J D.isin (rIn3 X.K) := fun σ H Q x y dx dy d rx ry e q => by
  rw [← hK]
  unfold D.isin at e
  split at e
  · rename_i ds
    split at e
    · rename_i hp
      cases e
      obtain ⟨h1, h2⟩ := Bool.and_eq_true_iff.mp hp
      exact .inl ⟨dx.py, D.pys ds, rx.dp _ h1, ry.dp _ h2, D.shaped h1, D.shaped h2, by rw [any_py]; exact g0 q (.bl _)⟩
    · cases e
  · rename_i ds
    split at e
    · rename_i hp
      cases e
      obtain ⟨h1, h2⟩ := Bool.and_eq_true_iff.mp hp
      exact .inr (.inl ⟨dx.py, D.pys ds, rx.dp _ h1, ry.dp _ h2, D.shaped h1, D.shaped h2, by rw [any_py]; exact g0 q (.bl _)⟩)
    · cases e
  · split at e
    · cases e
      cases rx
      cases ry
      exact .inr (.inr ⟨_, _, rfl, rfl, g0 q (.bl _)⟩)
    · cases e
  · cases e
theorem op2_notIn (hK : J.g.K = X.K) : Op2 J (fun x y => D.neg (D.isin x y)) (rNotIn3 X.K) := fun σ H Q x y dx dy d rx ry e q => by
  rw [← hK]
  replace e : D.neg (D.isin dx dy) = some d := e
  unfold D.isin at e
  split at e
  · rename_i ds
    split at e
    · rename_i hp
      cases e
      obtain ⟨h1, h2⟩ := Bool.and_eq_true_iff.mp hp
      exact .inl ⟨dx.py, D.pys ds, rx.dp _ h1, ry.dp _ h2, D.shaped h1, D.shaped h2, by rw [any_py]; exact g0 q (.bl _)⟩
    · cases e
  · rename_i ds
    split at e
    · rename_i hp
      cases e
      obtain ⟨h1, h2⟩ := Bool.and_eq_true_iff.mp hp
      exact .inr (.inl ⟨dx.py, D.pys ds, rx.dp _ h1, ry.dp _ h2, D.shaped h1, D.shaped h2, by rw [any_py]; exact g0 q (.bl _)⟩)
    · cases e
  · split at e
    · cases e
      cases rx
      cases ry
      exact .inr (.inr ⟨_, _, rfl, rfl, g0 q (.bl _)⟩)
    · cases e
  · cases e
theorem op2_cmp {f : Int → Int → Bool} : Op2 J (D.cmp f) (rI0 fun i j => .bl (f i j)) := fun σ H Q x y dx dy d rx ry e q => by
  unfold D.cmp at e
  split at e
  · cases rx; cases ry; cases e
    exact ⟨_, _, rfl, rfl, g0 q (.bl _)⟩
  · cases e
/-- one comparison as a value -/
theorem ve_cmp {op : CmpOp} {r : R2} {f : D → D → Option D} (ho : OpR X (compareOp op) r) (o : Op2 J f r) (ha : VE X J a ma) (hb : VE X J b mb) (hm : behindInMarks op b = false) : VE X J (.Compare a [op] [b] pos) (m2 f ma mb) := ve_two (pe_cmpR ho ha hb hm) o
def mChain (f g : D → D → Option D) (ma mb mc : ME) : ME := fun vw p => (ma vw p).bind fun x p1 => (mb vw p1).bind fun y p2 => match f x y with
  | some (.bl true) => (mc vw p2).bind fun z p3 => ofO (g y z) p3
  | some (.bl false) => .ok (.bl false) p2
  | _ => .bad
theorem ve_chain {op op' : CmpOp} {r r' : R2} {f f' : D → D → Option D} (ho : OpR X (compareOp op) r) (o : Op2 J f r) (ho' : OpR X (compareOp op') r') (o' : Op2 J f' r') (ha : VE X J a ma) (hb : VE X J b mb) (hc : VE X J c mc)
    (hm : lastMarks [op, op'] [b, c] = false := by with_unfolding_all rfl) : VE X J (.Compare a [op, op'] [b, c] pos) (mChain f f' ma mb mc) := by
  refine pe_imp (pe_chain ho ho' ha hb hc hm) fun σ H Q ⟨vw, p, rr, s, q⟩ => ⟨vw, p, rr, s, ?_⟩
  unfold mChain at q
  cases e1 : ma vw p with
  | bad => rw [e1] at q; exact q.elim
  | err x dv p1 => rw [e1] at q; exact q
  | ok d p1 =>
    rw [e1] at q
    intro H1 v x1 s1 r1
    refine ⟨vw, p1, rr.ext x1, s1, ?_⟩
    cases e2 : mb vw p1 with
    | bad => simp only [Res.bind, e2] at q; exact q.elim
    | err x dv p2 => simp only [Res.bind, e2] at q; exact ErrP.ext q x1
    | ok d2 p2 =>
      intro H2 v2 x2 s2 r2
      simp only [Res.bind, e2] at q
      cases e3 : f d d2 with
      | none => rw [e3] at q; exact q.elim
      | some z =>
        rw [e3] at q
        refine o σ H2 _ v v2 d d2 z (J.ext x2 r1) r2 e3 fun H3 v3 g3 r3 => ?_
        cases z with
        | bl k =>
          cases r3
          refine ⟨k, rfl, ?_⟩
          have x3 := (x1.trans x2).trans (Grow.ext (g := J.g) g3)
          cases k with
          | false =>
            rw [if_neg Bool.false_ne_true]
            exact q H3 _ x3 (s2.grow g3) (.bl false)
          | true =>
            rw [if_pos rfl]
            refine ⟨vw, p2, rr.ext x3, s2.grow g3, ?_⟩
            simp only at q
            cases e4 : mc vw p2 with
            | bad => rw [e4] at q; exact q.elim
            | err x dv p3 => rw [e4] at q; exact ErrP.ext q x3
            | ok d4 p4 =>
              rw [e4] at q
              intro H4 v4 x4 s4 r4
              cases e5 : f' d2 d4 with
              | none => simp only [e5, ofO] at q; exact q.elim
              | some w =>
                simp only [e5, ofO] at q
                exact o' σ H4 Q v2 v4 d2 d4 w (J.ext ((Grow.ext (g := J.g) g3).trans x4) r2) r4 e5 fun H5 v5 g5 r5 => q H5 v5 ((x3.trans x4).trans g5.ext) (s4.grow g5) r5
        | _ => exact q.elim
def D.isN : D → Bool
  | .non => true
  | _ => false
def D.isNone (d : D) : Option D := some (.bl d.isN)
def D.notNone (d : D) : Option D := some (.bl (!d.isN))
theorem rep_non {g : Gx} {co : CO} {H : Hp} {v : V} {d : D} (r : Rep g co H v d) : decide (v = .non) = d.isN := by
  cases r with
  | glb h1 => rfl
  | _ => rfl
theorem ve_isN {j : Nat} {pos' : Pos} (ha : VE X J a ma) : VE X J (.Compare a [.Is] [.Constant .none j pos'] pos) (m1 D.isNone ma) := by
  refine ve_one (r := fun x H Q => Q (.bl (decide (x = .non))) H) (pe_cmp (pc_isN ha) rfl) fun σ H Q x dx d rx e q => ?_
  show Q _ H
  rw [rep_non rx]
  cases e
  exact g0 q (.bl _)
theorem ve_notN {j : Nat} {pos' : Pos} (ha : VE X J a ma) : VE X J (.Compare a [.IsNot] [.Constant .none j pos'] pos) (m1 D.notNone ma) := by
  refine ve_one (r := fun x H Q => Q (.bl (!decide (x = .non))) H) (pe_cmp (pc_notN ha) rfl) fun σ H Q x dx d rx e q => ?_
  show Q _ H
  rw [rep_non rx]
  cases e
  exact g0 q (.bl _)
/-! ### tests, and, or, not -/
def toB (m : ME) : MB := fun vw p => (m vw p).bind fun d p1 => match d with
  | .bl b => .ok b p1
  | _ => .bad
def ofB (m : MB) : ME := fun vw p => (m vw p).bind fun b p1 => .ok (.bl b) p1
theorem tB_of {m : ME} {σ : St} {H : Hp} {Q : Bool → Hp → Prop} (h : tB J (toB m) σ H Q) : tV J m σ H fun x H1 => ∃ k, x = .bl k ∧ Q k H1 := by
  obtain ⟨vw, p, rr, s, q⟩ := h
  refine ⟨vw, p, rr, s, ?_⟩
  unfold toB at q
  cases e1 : m vw p with
  | bad => rw [e1] at q; exact q.elim
  | err x dv p1 => rw [e1] at q; exact q
  | ok d p1 =>
    rw [e1] at q
    intro H1 v x1 s1 r1
    cases d with
    | bl b =>
      cases r1
      exact ⟨b, rfl, q H1 x1 s1⟩
    | _ => exact q.elim
/-- an expression that is no and, or, not, comparison, as a test -/
theorem vt_val (h : VE X J e ma) (he : ∀ whole, isTrue e X.env whole = (do let v ← whole; standAt e.pos; holding [v] (truthy v)) := by intro _; rfl) : VT X J e (toB ma) := pt_imp (pt_val h he) fun σ H Q q => tB_of q
theorem vt_cmp {op : CmpOp} {r : R2} {f : D → D → Option D} (ho : OpR X (compareOp op) r) (o : Op2 J f r) (ha : VE X J a ma) (hb : VE X J b mb) (hm : behindInMarks op b = false) : VT X J (.Compare a [op] [b] pos) (toB (m2 f ma mb)) := by
  refine pt_imp (pt_cmpR ho ha hb hm) fun σ H Q q => ?_
  have q' := tB_of q
  obtain ⟨vw, p, rr, s, q⟩ := q'
  refine ⟨vw, p, rr, s, ?_⟩
  unfold m2 at q
  cases e1 : ma vw p with
  | bad => rw [e1] at q; exact q.elim
  | err x dv p1 => rw [e1] at q; exact q
  | ok d p1 =>
    rw [e1] at q
    intro H1 v x1 s1 r1
    refine ⟨vw, p1, rr.ext x1, s1, ?_⟩
    cases e2 : mb vw p1 with
    | bad => simp only [Res.bind, e2] at q; exact q.elim
    | err x dv p2 => simp only [Res.bind, e2] at q; exact ErrP.ext q x1
    | ok d2 p2 =>
      intro H2 v2 x2 s2 r2
      cases e3 : f d d2 with
      | none => simp only [Res.bind, e2, e3, ofO] at q; exact q.elim
      | some z =>
        simp only [Res.bind, e2, e3, ofO] at q
        exact o σ H2 _ v v2 d d2 z (J.ext x2 r1) r2 e3 fun H3 v3 g3 r3 => q H3 v3 ((x1.trans x2).trans g3.ext) (s2.grow g3) r3
theorem vt_chain {op op' : CmpOp} {r r' : R2} {f f' : D → D → Option D} (ho : OpR X (compareOp op) r) (o : Op2 J f r) (ho' : OpR X (compareOp op') r') (o' : Op2 J f' r') (ha : VE X J a ma) (hb : VE X J b mb) (hc : VE X J c mc)
    (hm : lastMarks [op, op'] [b, c] = false := by with_unfolding_all rfl) : VT X J (.Compare a [op, op'] [b, c] pos) (toB (mChain f f' ma mb mc)) := by
  refine pt_imp (pt_chain ho ho' ha hb hc hm) fun σ H Q q => ?_
  obtain ⟨vw, p, rr, s, q⟩ := tB_of q
  refine ⟨vw, p, rr, s, ?_⟩
  unfold mChain at q
  cases e1 : ma vw p with
  | bad => rw [e1] at q; exact q.elim
  | err x dv p1 => rw [e1] at q; exact q
  | ok d p1 =>
    rw [e1] at q
    intro H1 v x1 s1 r1
    refine ⟨vw, p1, rr.ext x1, s1, ?_⟩
    cases e2 : mb vw p1 with
    | bad => simp only [Res.bind, e2] at q; exact q.elim
    | err x dv p2 => simp only [Res.bind, e2] at q; exact ErrP.ext q x1
    | ok d2 p2 =>
      intro H2 v2 x2 s2 r2
      simp only [Res.bind, e2] at q
      cases e3 : f d d2 with
      | none => rw [e3] at q; exact q.elim
      | some z =>
        rw [e3] at q
        refine o σ H2 _ v v2 d d2 z (J.ext x2 r1) r2 e3 fun H3 v3 g3 r3 => ?_
        cases z with
        | bl k =>
          cases r3
          refine ⟨k, rfl, ?_⟩
          have x3 := (x1.trans x2).trans (Grow.ext (g := J.g) g3)
          cases k with
          | false =>
            rw [if_neg Bool.false_ne_true]
            exact q H3 _ x3 (s2.grow g3) (.bl false)
          | true =>
            rw [if_pos rfl]
            refine ⟨vw, p2, rr.ext x3, s2.grow g3, ?_⟩
            simp only at q
            cases e4 : mc vw p2 with
            | bad => rw [e4] at q; exact q.elim
            | err x dv p3 => rw [e4] at q; exact ErrP.ext q x3
            | ok d4 p4 =>
              rw [e4] at q
              intro H4 v4 x4 s4 r4
              cases e5 : f' d2 d4 with
              | none => simp only [e5, ofO] at q; exact q.elim
              | some w =>
                simp only [e5, ofO] at q
                exact o' σ H4 _ v2 v4 d2 d4 w (J.ext ((Grow.ext (g := J.g) g3).trans x4) r2) r4 e5 fun H5 v5 g5 r5 => q H5 v5 ((x3.trans x4).trans g5.ext) (s4.grow g5) r5
        | _ => exact q.elim
theorem vt_isN {j : Nat} {pos' : Pos} (ha : VE X J a ma) : VT X J (.Compare a [.Is] [.Constant .none j pos'] pos) (toB (m1 D.isNone ma)) := by
  refine pt_imp (pt_cmp (pc_isN ha) rfl) fun σ H Q q => ?_
  obtain ⟨vw, p, rr, s, q⟩ := tB_of q
  refine ⟨vw, p, rr, s, ?_⟩
  unfold m1 at q
  cases e1 : ma vw p with
  | bad => rw [e1] at q; exact q.elim
  | err x dv p1 => rw [e1] at q; exact q
  | ok d p1 =>
    rw [e1] at q
    intro H1 v x1 s1 r1
    exact q H1 _ x1 s1 (rep_non r1 ▸ .bl _)
theorem vt_notN {j : Nat} {pos' : Pos} (ha : VE X J a ma) : VT X J (.Compare a [.IsNot] [.Constant .none j pos'] pos) (toB (m1 D.notNone ma)) := by
  refine pt_imp (pt_cmp (pc_notN ha) rfl) fun σ H Q q => ?_
  obtain ⟨vw, p, rr, s, q⟩ := tB_of q
  refine ⟨vw, p, rr, s, ?_⟩
  unfold m1 at q
  cases e1 : ma vw p with
  | bad => rw [e1] at q; exact q.elim
  | err x dv p1 => rw [e1] at q; exact q
  | ok d p1 =>
    rw [e1] at q
    intro H1 v x1 s1 r1
    exact q H1 _ x1 s1 (rep_non r1 ▸ .bl _)
def bAnd (m n : MB) : MB := fun vw p => (m vw p).bind fun k p1 => if k then n vw p1 else .ok false p1
def bOr (m n : MB) : MB := fun vw p => (m vw p).bind fun k p1 => if k then .ok true p1 else n vw p1
def bNot (m : MB) : MB := fun vw p => (m vw p).bind fun k p1 => .ok (!k) p1
/-- whatever the whole is -/
abbrev VW (X : Cx) (J : Jc) (e : Expr) (m : MB) : Prop := PW X e (tB J m)
variable {na nb : MB} {rest : List Expr}
theorem vw_and1 (h : VT X J a na) : VW X J (.BoolOp .And [a] pos) na := pw_and1 h
theorem vw_or1 (h : VT X J a na) : VW X J (.BoolOp .Or [a] pos) na := pw_or1 h
theorem vw_and (ha : VT X J a na) (hb : VW X J (.BoolOp .And (b :: rest) pos) nb) : VW X J (.BoolOp .And (a :: b :: rest) pos) (bAnd na nb) := by
  refine pw_imp (pw_and ha hb) fun σ H Q ⟨vw, p, rr, s, q⟩ => ⟨vw, p, rr, s, ?_⟩
  unfold bAnd at q
  cases e1 : na vw p with
  | bad => rw [e1] at q; exact q.elim
  | err x dv p1 => rw [e1] at q; exact q
  | ok k p1 =>
    rw [e1] at q
    intro H1 x1 s1
    cases k with
    | false =>
      rw [if_neg Bool.false_ne_true]
      exact q H1 x1 s1
    | true =>
      rw [if_pos rfl]
      refine ⟨vw, p1, rr.ext x1, s1, ?_⟩
      simp only [Res.bind, if_pos] at q
      cases e2 : nb vw p1 with
      | bad => rw [e2] at q; exact q.elim
      | err x dv p2 => rw [e2] at q; exact ErrP.ext q x1
      | ok k2 p2 => rw [e2] at q; exact fun H2 x2 s2 => q H2 (x1.trans x2) s2
theorem vw_or (ha : VT X J a na) (hb : VW X J (.BoolOp .Or (b :: rest) pos) nb) : VW X J (.BoolOp .Or (a :: b :: rest) pos) (bOr na nb) := by
  refine pw_imp (pw_or ha hb) fun σ H Q ⟨vw, p, rr, s, q⟩ => ⟨vw, p, rr, s, ?_⟩
  unfold bOr at q
  cases e1 : na vw p with
  | bad => rw [e1] at q; exact q.elim
  | err x dv p1 => rw [e1] at q; exact q
  | ok k p1 =>
    rw [e1] at q
    intro H1 x1 s1
    cases k with
    | true =>
      rw [if_pos rfl]
      exact q H1 x1 s1
    | false =>
      rw [if_neg Bool.false_ne_true]
      refine ⟨vw, p1, rr.ext x1, s1, ?_⟩
      simp only [Res.bind, Bool.false_eq_true, if_false] at q
      cases e2 : nb vw p1 with
      | bad => rw [e2] at q; exact q.elim
      | err x dv p2 => rw [e2] at q; exact ErrP.ext q x1
      | ok k2 p2 => rw [e2] at q; exact fun H2 x2 s2 => q H2 (x1.trans x2) s2
theorem vt_not (ha : VT X J a na) : VT X J (.UnaryOp .Not a pos) (bNot na) := by
  refine pt_imp (pt_not ha) fun σ H Q ⟨vw, p, rr, s, q⟩ => ⟨vw, p, rr, s, ?_⟩
  unfold bNot at q
  cases e1 : na vw p with
  | bad => rw [e1] at q; exact q.elim
  | err x dv p1 => rw [e1] at q; exact q
  | ok k p1 => rw [e1] at q; exact q
/-- and, or as values: all but the last bools -/
def mAnd (m n : ME) : ME := fun vw p => (toB m vw p).bind fun k p1 => if k then n vw p1 else .ok (.bl false) p1
def mOr (m n : ME) : ME := fun vw p => (toB m vw p).bind fun k p1 => if k then .ok (.bl true) p1 else n vw p1
def mNot (m : ME) : ME := fun vw p => (toB m vw p).bind fun k p1 => .ok (.bl (!k)) p1
theorem ve_b1 {op : BoolOp} (h : VE X J a ma) : VE X J (.BoolOp op [a] pos) ma := pe_one h
theorem ve_and (ha : VE X J a ma) (hb : VE X J (.BoolOp .And (b :: rest) pos) mb) : VE X J (.BoolOp .And (a :: b :: rest) pos) (mAnd ma mb) := by
  refine pe_imp (pe_and ha hb) fun σ H Q ⟨vw, p, rr, s, q⟩ => ⟨vw, p, rr, s, ?_⟩
  unfold mAnd toB at q
  cases e1 : ma vw p with
  | bad => rw [e1] at q; exact q.elim
  | err x dv p1 => rw [e1] at q; exact q
  | ok d p1 =>
    rw [e1] at q
    intro H1 v x1 s1 r1
    cases d with
    | bl k =>
      cases r1
      refine ⟨k, rfl, ?_⟩
      cases k with
      | false =>
        rw [if_neg Bool.false_ne_true]
        exact q H1 _ x1 s1 (.bl false)
      | true =>
        rw [if_pos rfl]
        refine ⟨vw, p1, rr.ext x1, s1, ?_⟩
        simp only [Res.bind, if_pos] at q
        cases e2 : mb vw p1 with
        | bad => rw [e2] at q; exact q.elim
        | err x dv p2 => rw [e2] at q; exact ErrP.ext q x1
        | ok k2 p2 => rw [e2] at q; exact fun H2 v2 x2 s2 r2 => q H2 v2 (x1.trans x2) s2 r2
    | _ => exact q.elim
theorem ve_or (ha : VE X J a ma) (hb : VE X J (.BoolOp .Or (b :: rest) pos) mb) : VE X J (.BoolOp .Or (a :: b :: rest) pos) (mOr ma mb) := by
  refine pe_imp (pe_or ha hb) fun σ H Q ⟨vw, p, rr, s, q⟩ => ⟨vw, p, rr, s, ?_⟩
  unfold mOr toB at q
  cases e1 : ma vw p with
  | bad => rw [e1] at q; exact q.elim
  | err x dv p1 => rw [e1] at q; exact q
  | ok d p1 =>
    rw [e1] at q
    intro H1 v x1 s1 r1
    cases d with
    | bl k =>
      cases r1
      refine ⟨k, rfl, ?_⟩
      cases k with
      | true =>
        rw [if_pos rfl]
        exact q H1 _ x1 s1 (.bl true)
      | false =>
        rw [if_neg Bool.false_ne_true]
        refine ⟨vw, p1, rr.ext x1, s1, ?_⟩
        simp only [Res.bind, Bool.false_eq_true, if_false] at q
        cases e2 : mb vw p1 with
        | bad => rw [e2] at q; exact q.elim
        | err x dv p2 => rw [e2] at q; exact ErrP.ext q x1
        | ok k2 p2 => rw [e2] at q; exact fun H2 v2 x2 s2 r2 => q H2 v2 (x1.trans x2) s2 r2
    | _ => exact q.elim
theorem ve_not (ha : VE X J a ma) : VE X J (.UnaryOp .Not a pos) (mNot ma) := by
  refine pe_imp (pe_not ha) fun σ H Q ⟨vw, p, rr, s, q⟩ => ⟨vw, p, rr, s, ?_⟩
  unfold mNot toB at q
  cases e1 : ma vw p with
  | bad => rw [e1] at q; exact q.elim
  | err x dv p1 => rw [e1] at q; exact q
  | ok d p1 =>
    rw [e1] at q
    intro H1 v x1 s1 r1
    cases d with
    | bl k =>
      cases r1
      exact ⟨k, rfl, q H1 _ x1 s1 (.bl _)⟩
    | _ => exact q.elim
def mIf (t : MB) (m n : ME) : ME := fun vw p => (t vw p).bind fun k p1 => if k then m vw p1 else n vw p1
theorem ve_if (hc : VT X J c na) (ha : VE X J a ma) (hb : VE X J b mb) : VE X J (.IfExp c a b pos) (mIf na ma mb) := by
  refine pe_imp (pe_ifExp hc ha hb) fun σ H Q ⟨vw, p, rr, s, q⟩ => ⟨vw, p, rr, s, ?_⟩
  unfold mIf at q
  cases e1 : na vw p with
  | bad => rw [e1] at q; exact q.elim
  | err x dv p1 => rw [e1] at q; exact q
  | ok k p1 =>
    rw [e1] at q
    intro H1 x1 s1
    have go : ∀ {e : Expr} {m : ME}, PV J σ H Q (m vw p1) → tV J m σ H1 Q := fun {e m} q => by
      refine ⟨vw, p1, rr.ext x1, s1, ?_⟩
      cases e2 : m vw p1 with
      | bad => rw [e2] at q; exact q.elim
      | err x dv p2 => rw [e2] at q; exact ErrP.ext q x1
      | ok k2 p2 => rw [e2] at q; exact fun H2 v2 x2 s2 r2 => q H2 v2 (x1.trans x2) s2 r2
    cases k with
    | true =>
      rw [if_pos rfl]
      exact go (e := a) (by simpa only [Res.bind, if_pos] using q)
    | false =>
      rw [if_neg Bool.false_ne_true]
      exact go (e := b) (by simpa only [Res.bind, Bool.false_eq_true, if_false] using q)
end
end VL

namespace VL
open PySem PySem.Spec PyProof.Rows L2 LamX
/-! ### new lists, displays -/
def mLst (m : MA) : ME := fun vw p => (m vw p).bind fun ds p1 => .ok (.lst ds) p1
def lenOk (m : MA) : MA := fun vw p => (m vw p).bind fun ds p1 => if ds.length ≤ sizeLine then .ok ds p1 else .bad
def mTup (m : MA) : ME := fun vw p => (m vw p).bind fun ds p1 => if ds.length ≤ sizeLine then .ok (.tup ds) p1 else .bad
section
variable {X : Cx} {J : Jc} {a b c e : Expr} {es : List Expr} {ma mb mc : ME} {ms : MA} {pos : Pos}
/-- a new list, frozen at once -/
theorem ve_new (h : VN X J e ms) : VE X J e (mLst ms) := by
  refine pe_imp (pe_fz h) fun σ H Q ⟨vw, p, rr, s, q⟩ => ⟨vw, p, rr, s, ?_⟩
  unfold mLst at q
  cases e1 : ms vw p with
  | bad => rw [e1] at q; exact q.elim
  | err x dv p1 => rw [e1] at q; exact q
  | ok ds p1 =>
    rw [e1] at q
    intro H1 a xs x1 s1 hn r1
    refine .inr ⟨a, xs, rfl, upd_same, fun o => ?_⟩
    rw [upd_upd]
    exact q _ _ (x1.trans (Grow.upd hn).ext) (s1.grow (Grow.upd hn)) (.lst ⟨o, upd_same⟩ (J.extL (Grow.upd hn).ext r1))
theorem vn_lst (h : VA X J es ms) : VN X J (.List es pos) (lenOk ms) := by
  refine pe_imp (pe_lst h) fun σ H Q ⟨vw, p, rr, s, q⟩ => ⟨vw, p, rr, s, ?_⟩
  unfold lenOk at q
  cases e1 : ms vw p with
  | bad => rw [e1] at q; exact q.elim
  | err x dv p1 => rw [e1] at q; exact q
  | ok ds p1 =>
    rw [e1] at q
    intro H1 vs x1 s1 r1
    simp only [Res.bind] at q
    split at q
    · rename_i hz
      exact ⟨by rw [r1.length]; exact hz, fun p hp => q H1 p vs x1 s1 hp r1⟩
    · exact q.elim
theorem ve_tup {k : Nat} (h : VA X J es ms) : VE X J (.Tuple es k pos) (mTup ms) := by
  refine pe_imp (pe_tup h) fun σ H Q ⟨vw, p, rr, s, q⟩ => ⟨vw, p, rr, s, ?_⟩
  unfold mTup at q
  cases e1 : ms vw p with
  | bad => rw [e1] at q; exact q.elim
  | err x dv p1 => rw [e1] at q; exact q
  | ok ds p1 =>
    rw [e1] at q
    intro H1 vs x1 s1 r1
    simp only [Res.bind] at q
    split at q
    · rename_i hz
      exact ⟨by rw [r1.length]; exact hz, fun p hp => q _ _ (x1.trans (Grow.upd hp).ext) (s1.grow (Grow.upd hp)) (.tup (SqT.of upd_same) (J.extL (Grow.upd hp).ext r1))⟩
    · exact q.elim
/-- *e in a display -/
def mStar (m : ME) (ms : MA) : MA := fun vw p => (m vw p).bind fun d p1 => match d with
  | .tup xs => (ms vw p1).bind fun ds p2 => .ok (xs ++ ds) p2
  | .lst xs => (ms vw p1).bind fun ds p2 => .ok (xs ++ ds) p2
  | _ => .bad
theorem va_star {p : Pos} (hK : J.g.K = X.K) (h : VE X J e ma) (hs : VA X J es ms) (hst : starEach (.Starred e p :: es) X.env = (true, eval e X.env) :: starEach es X.env := by rfl) : VA X J (.Starred e p :: es) (mStar ma ms) := by
  refine pa_imp (StX.pa_star h hs hst) fun σ H Q ⟨vw, p, r, s, q⟩ => ⟨vw, p, r, s, ?_⟩
  unfold mStar at q
  cases e1 : ma vw p with
  | bad => rw [e1] at q; exact q.elim
  | err x dv p1 => rw [e1] at q; exact q
  | ok d p1 =>
    rw [e1] at q
    intro H1 v x1 s1 r1
    have go : ∀ {xs : List V} {ds : List D}, J.RL σ H1 xs ds → PL J σ H Q ((ms vw p1).bind fun es p2 => .ok (ds ++ es) p2) → tA J ms σ H1 fun ys H2 => Q (xs ++ ys) H2 := fun {xs ds} rx q => by
      refine ⟨vw, p1, r.ext x1, s1, ?_⟩
      cases e2 : ms vw p1 with
      | bad => rw [e2] at q; exact q.elim
      | err x dv p2 => rw [e2] at q; exact ErrP.ext q x1
      | ok fs p2 =>
        rw [e2] at q
        exact fun H2 vs x2 s2 r2 => q H2 _ (x1.trans x2) s2 ((J.extL x2 rx).append r2)
    rw [← hK]
    cases d with
    | tup ds =>
      cases r1 with
      | tup s2 r2 => exact ⟨_, _, rfl, .inl s2, go r2 q⟩
    | lst ds =>
      cases r1 with
      | lst s2 r2 => exact ⟨_, _, rfl, .inr s2.sq, go r2 q⟩
    | _ => exact q.elim
/-! ### calls of built-ins by values -/
def OpN (J : Jc) (f : List D → Option D) (r : List V → Hp → VK → Prop) : Prop := ∀ (σ : St) (H : Hp) (Q : VK) (xs : List V) (ds : List D) (d : D), J.RL σ H xs ds → f ds = some d → (∀ (H' : Hp) (v : V), Grow H H' → J.R σ H' v d → Q v H') → r xs H Q
def mN (f : List D → Option D) (ms : MA) : ME := fun vw p => (ms vw p).bind fun ds p1 => ofO (f ds) p1
theorem ve_N {e' : Expr} {r : List V → Hp → VK → Prop} {f : List D → Option D} (h : PE X e' (tCB r (tA J ms))) (o : OpN J f r) : VE X J e' (mN f ms) := by
  refine pe_imp h fun σ H Q ⟨vw, p, rr, s, q⟩ => ⟨vw, p, rr, s, ?_⟩
  unfold mN at q
  cases e1 : ms vw p with
  | bad => rw [e1] at q; exact q.elim
  | err x dv p1 => rw [e1] at q; exact q
  | ok d p1 =>
    rw [e1] at q
    intro H1 v x1 s1 r1
    cases e2 : f d with
    | none => simp only [Res.bind, e2, ofO] at q; exact q.elim
    | some z =>
      simp only [Res.bind, e2, ofO] at q
      exact o σ H1 Q v d z r1 e2 fun H2 v2 g2 r2 => q H2 v2 (x1.trans g2.ext) (s1.grow g2) r2
theorem ve_callB {x : Str} {p : Pos} {id : String} {r : List V → Hp → VK → Prop} {f : List D → Option D} (hc : CallR X (.builtin id) r) (o : OpN J f r) (hm : X.mg x = none) (hv : bootBuiltins x = some (.builtin id)) (ha : VA X J (e :: es) ms) (hg : Gl X x := by rfl) (hn : x ≠ "__name__" := by decide)
    (hdb : (x == ("__debug__" : Str)) = false := by decide) (he : starEach (e :: es) X.env = (false, eval e X.env) :: starEach es X.env := by rfl) (hpl : (backTo pos (starEach es X.env)).any (·.1) = false := by rfl) :
    VE X J (.Call (.Name x p) (e :: es) [] pos) (mN f ms) := ve_N (pe_callB hc hg hm hv ha hn hdb he hpl) o
theorem ve_callTy {x : Str} {p : Pos} {T : String} {r : List V → Hp → VK → Prop} {f : List D → Option D} (hc : CallR X (.type T) r) (o : OpN J f r) (hm : X.mg x = none) (hv : bootBuiltins x = some (.type T)) (ha : VA X J (e :: es) ms) (hg : Gl X x := by rfl) (hn : x ≠ "__name__" := by decide)
    (hdb : (x == ("__debug__" : Str)) = false := by decide) (he : starEach (e :: es) X.env = (false, eval e X.env) :: starEach es X.env := by rfl) (hpl : (backTo pos (starEach es X.env)).any (·.1) = false := by rfl) :
    VE X J (.Call (.Name x p) (e :: es) [] pos) (mN f ms) := ve_N (pe_callTy hc hg hm hv ha hn hdb he hpl) o
/-- .. that make a new list -/
def OpNL (J : Jc) (f : List D → Option (List D)) (r : List V → Hp → VK → Prop) : Prop := ∀ (σ : St) (H : Hp) (Q : VK) (xs : List V) (ds ys : List D), J.RL σ H xs ds → f ds = some ys → (∀ (H' : Hp) (a : Addr) (vs : List V), Grow H H' → H' a = none → J.RL σ H' vs ys → Q (.ref a) (upd H' a (.lst vs))) → r xs H Q
def mNL (f : List D → Option (List D)) (ms : MA) : MA := fun vw p => (ms vw p).bind fun ds p1 => ofO (f ds) p1
theorem vn_N {e' : Expr} {r : List V → Hp → VK → Prop} {f : List D → Option (List D)} (h : PE X e' (tCB r (tA J ms))) (o : OpNL J f r) : VN X J e' (mNL f ms) := by
  refine pe_imp h fun σ H Q ⟨vw, p, rr, s, q⟩ => ⟨vw, p, rr, s, ?_⟩
  unfold mNL at q
  cases e1 : ms vw p with
  | bad => rw [e1] at q; exact q.elim
  | err x dv p1 => rw [e1] at q; exact q
  | ok d p1 =>
    rw [e1] at q
    intro H1 v x1 s1 r1
    cases e2 : f d with
    | none => simp only [Res.bind, e2, ofO] at q; exact q.elim
    | some z =>
      simp only [Res.bind, e2, ofO] at q
      exact o σ H1 Q v d z r1 e2 fun H2 a vs g2 hn r2 => q H2 a vs (x1.trans g2.ext) (s1.grow g2) hn r2
theorem vn_callTy {x : Str} {p : Pos} {T : String} {r : List V → Hp → VK → Prop} {f : List D → Option (List D)} (hc : CallR X (.type T) r) (o : OpNL J f r) (hm : X.mg x = none) (hv : bootBuiltins x = some (.type T)) (ha : VA X J (e :: es) ms) (hg : Gl X x := by rfl) (hn : x ≠ "__name__" := by decide)
    (hdb : (x == ("__debug__" : Str)) = false := by decide) (he : starEach (e :: es) X.env = (false, eval e X.env) :: starEach es X.env := by rfl) (hpl : (backTo pos (starEach es X.env)).any (·.1) = false := by rfl) :
    VN X J (.Call (.Name x p) (e :: es) [] pos) (mNL f ms) := vn_N (pe_callTy hc hg hm hv ha hn hdb he hpl) o
def dLen : List D → Option D
  | [.lst ds] => some (.int (ds.length : Nat))
  | [.tup ds] => some (.int (ds.length : Nat))
  | [.str x] => if x.length ≤ sizeLine then some (.int (x.length : Nat)) else none
  | [.scr ns] => some (.int (ns.length : Nat))
  | _ => none
theorem rep_scr {g : Gx} {co : CO} {H : Hp} {v : V} {ns : List Int} (r : Rep g co H v (.scr ns)) : ∃ a, v = .ref a ∧ SqL g.K H a (ns.map V.int) := by
  cases r with
  | scr h =>
    rcases h with ⟨o, h⟩ | h
    · exact ⟨_, rfl, FzL.sq ⟨o, h⟩⟩
    · exact ⟨_, rfl, h H⟩
theorem on_len (hK : J.g.K = X.K) : OpN J dLen (fun xs H Q => ∃ x n, xs = [x] ∧ LenV X.K x H n ∧ Q (.int n) H) := fun σ H Q xs ds d r e q => by
  rw [← hK]
  unfold dLen at e
  split at e
  · cases r with
    | cons r1 r2 =>
      cases r2
      cases r1 with
      | lst s1 t1 =>
        cases e
        exact ⟨_, _, rfl, .inl ⟨_, s1.sq, t1.length.symm⟩, g0 q (.int _)⟩
  · cases r with
    | cons r1 r2 =>
      cases r2
      cases r1 with
      | tup s1 t1 =>
        cases e
        exact ⟨_, _, rfl, .inr ⟨_, s1, t1.length.symm⟩, g0 q (.int _)⟩
  · cases r with
    | cons r1 r2 =>
      cases r2
      cases r1
      split at e
      · rename_i hz
        cases e
        exact ⟨_, _, rfl, ⟨hz, rfl⟩, g0 q (.int _)⟩
      · cases e
  · cases r with
    | cons r1 r2 =>
      cases r2
      obtain ⟨a, rfl, h⟩ := rep_scr r1
      cases e
      exact ⟨_, _, rfl, .inl ⟨_, h, by simp⟩, g0 q (.int _)⟩
  · cases e
def dAbs : List D → Option D
  | [.int i] => some (.int (if i < 0 then -i else i))
  | _ => none
theorem on_abs : OpN J dAbs (fun xs H Q => ∃ i, xs = [.int i] ∧ Q (.int (if i < 0 then -i else i)) H) := fun σ H Q xs ds d r e q => by
  unfold dAbs at e
  split at e
  · cases r with
    | cons r1 r2 =>
      cases r2; cases r1; cases e
      exact ⟨_, rfl, g0 q (.int _)⟩
  · cases e
def dMax2 : List D → Option D
  | [.int i, .int j] => some (.int (if j > i then j else i))
  | _ => none
def dMin2 : List D → Option D
  | [.int i, .int j] => some (.int (if j < i then j else i))
  | _ => none
theorem on_max2 : OpN J dMax2 (fun xs H Q => ∃ i j, xs = [.int i, .int j] ∧ Q (.int (if j > i then j else i)) H) := fun σ H Q xs ds d r e q => by
  unfold dMax2 at e
  split at e
  · cases r with
    | cons r1 r2 =>
      cases r2 with
      | cons r2 r3 =>
        cases r3; cases r2; cases r1; cases e
        exact ⟨_, _, rfl, g0 q (.int _)⟩
  · cases e
theorem on_min2 : OpN J dMin2 (fun xs H Q => ∃ i j, xs = [.int i, .int j] ∧ Q (.int (if j < i then j else i)) H) := fun σ H Q xs ds d r e q => by
  unfold dMin2 at e
  split at e
  · cases r with
    | cons r1 r2 =>
      cases r2 with
      | cons r2 r3 =>
        cases r3; cases r2; cases r1; cases e
        exact ⟨_, _, rfl, g0 q (.int _)⟩
  · cases e
def dInt : List D → Option D
  | [.int i] => some (.int i)
  | [.bl k] => some (.int (if k then 1 else 0))
  | _ => none
theorem on_int : OpN J dInt (fun xs H Q => (∃ i, xs = [.int i] ∧ Q (.int i) H) ∨ ∃ k, xs = [.bl k] ∧ Q (.int (if k then 1 else 0)) H) := fun σ H Q xs ds d r e q => by
  unfold dInt at e
  split at e
  · cases r with
    | cons r1 r2 =>
      cases r2; cases r1; cases e
      exact .inl ⟨_, rfl, g0 q (.int _)⟩
  · cases r with
    | cons r1 r2 =>
      cases r2; cases r1; cases e
      exact .inr ⟨_, rfl, g0 q (.int _)⟩
  · cases e
/-- tuple(x) -/
def dTuple : List D → Option D
  | [.lst ds] => some (.tup ds)
  | [.tup ds] => some (.tup ds)
  | _ => none
theorem on_tuple (hK : J.g.K = X.K) : OpN J dTuple (fun xs H Q => ∃ p ys, xs = [.ref p] ∧ ((SqL X.K H p ys ∧ ∀ l, H l = none → Q (.ref l) (upd H l (.tup ys))) ∨ (SqT X.K H p ys ∧ Q (.ref p) H))) := fun σ H Q xs ds d r e q => by
  rw [← hK]
  unfold dTuple at e
  split at e
  · cases r with
    | cons r1 r2 =>
      cases r2
      cases r1 with
      | lst s1 t1 =>
        cases e
        exact ⟨_, _, rfl, .inl ⟨s1.sq, fun l hl => tup_of hl t1 q⟩⟩
  · cases r with
    | cons r1 r2 =>
      cases r2
      cases r1 with
      | tup s1 t1 =>
        cases e
        exact ⟨_, _, rfl, .inr ⟨s1, g0 q (.tup s1 t1)⟩⟩
  · cases e
/-- list(x) -/
def dList : List D → Option (List D)
  | [.lst ds] => some ds
  | [.tup ds] => some ds
  | _ => none
theorem on_list (hK : J.g.K = X.K) : OpNL J dList (fun xs H Q => ∃ p ys, xs = [.ref p] ∧ (SqL X.K H p ys ∨ SqT X.K H p ys) ∧ ∀ l, H l = none → Q (.ref l) (upd H l (.lst ys))) := fun σ H Q xs ds d r e q => by
  rw [← hK]
  unfold dList at e
  split at e
  · cases r with
    | cons r1 r2 =>
      cases r2
      cases r1 with
      | lst s1 t1 =>
        cases e
        exact ⟨_, _, rfl, .inl s1.sq, fun l hl => q H l _ (fun _ _ k => k) hl t1⟩
  · cases r with
    | cons r1 r2 =>
      cases r2
      cases r1 with
      | tup s1 t1 =>
        cases e
        exact ⟨_, _, rfl, .inr s1, fun l hl => q H l _ (fun _ _ k => k) hl t1⟩
  · cases e
/-- isinstance(x, T), T a built-in class -/
def D.ty : D → Option String
  | .non => some "NoneType"
  | .bl _ => some "bool"
  | .int _ => some "int"
  | .str _ => some "str"
  | .tup _ => some "tuple"
  | .lst _ => some "list"
  | _ => none
theorem rep_ty {K : PySem.W.Frag} {J : Jc} {σ : St} {H : Hp} {v : V} {d : D} {t : String} (hK : J.g.K = K) (r : J.R σ H v d) (e : d.ty = some t) : TyX K H v (.type t) := by
  cases r with
  | non => cases e; exact .base .non
  | bl b => cases e; exact .base (.bl b)
  | int b => cases e; exact .base (.int b)
  | str b => cases e; exact .base (.str b)
  | tup s r =>
    cases e
    rcases s with (s | ⟨o, s⟩) | ⟨o, its, n, h1, h2, _⟩
    · exact .base (.tup s)
    · exact .fTuple s
    · exact .kTuple (hK ▸ h1) h2
  | lst s r =>
    cases e
    obtain ⟨o, s⟩ := s
    exact .base (.frz s)
  | _ => cases e
def mIsi (T : String) (m : ME) : ME := fun vw p => (m vw p).bind fun d p1 => match d.ty with
  | some t => ofO ((kitB t T).map D.bl) p1
  | none => .bad
theorem ve_isi {x : Str} {T : String} {p p2 : Pos} (hK : J.g.K = X.K) (ha : VE X J e ma) (hm : X.mg "isinstance" = none) (hmT : X.mg x = none) (hvT : bootBuiltins x = some (.type T)) (hg : Gl X "isinstance" := by rfl) (hgT : Gl X x := by rfl) (hn : x ≠ "__name__" := by decide)
    (hdb : (x == ("__debug__" : Str)) = false := by decide) (he : starEach [e, .Name x p2] X.env = (false, eval e X.env) :: starEach [.Name x p2] X.env := by rfl) :
    VE X J (.Call (.Name "isinstance" p) [e, .Name x p2] [] pos) (mIsi T ma) := by
  have h := pe_callB (p := p) (pos := pos) (call_isi (X := X)) hg hm (by decide +kernel) (pa_cons ha (pa_cons (pe_bltn (pos := p2) (v := .ty T) hgT hmT hvT rfl hn hdb) pa_nil) he) (he := he)
  refine pe_imp h fun σ H Q ⟨vw, p, rr, s, q⟩ => ⟨vw, p, rr, s, ?_⟩
  unfold mIsi at q
  cases e1 : ma vw p with
  | bad => rw [e1] at q; exact q.elim
  | err x dv p1 => rw [e1] at q; exact q
  | ok d p1 =>
    rw [e1] at q
    intro H1 v x1 s1 r1
    simp only [Res.bind] at q
    cases e2 : d.ty with
    | none => rw [e2] at q; exact q.elim
    | some t =>
      rw [e2] at q
      simp only at q
      cases e3 : kitB t T with
      | none => rw [e3] at q; exact q.elim
      | some b =>
        rw [e3] at q
        exact ⟨_, _, _, _, _, rfl, .ty T, rep_ty hK r1 e2, kit_ty e3, q H1 _ x1 s1 (.bl b)⟩
end
end VL

namespace VL
open PySem PySem.Spec PyProof.Rows L2 LamX
section
variable {X : Cx} {J : Jc} {a b c e : Expr} {es : List Expr} {ma mb mc : ME} {ms : MA} {pos : Pos}
/-! ### x[i] -/
def D.ix : D → D → Option D
  | .lst ds, .int i => atI ds i
  | .tup ds, .int i => atI ds i
  | .scr ns, .int i => (atI ns i).map D.int
  | .str z, .int i => if z.length ≤ sizeLine then (atI z.cps.toList i).map fun c => .str ⟨#[c]⟩ else none
  | _, _ => none
theorem RepL.atI {g : Gx} {co : CO} {H : Hp} {vs : List V} {ds : List D} {i : Int} {d : D} (r : RepL g co H vs ds) (e : atI ds i = some d) : ∃ v, atI vs i = some v ∧ Rep g co H v d := by
  unfold L2.atI at e ⊢
  rw [r.length]
  cases h : ixN ds.length i with
  | none => rw [h] at e; cases e
  | some j =>
    rw [h] at e
    exact r.get e
theorem atI_map {α β : Type} (f : α → β) (xs : List α) (i : Int) : atI (xs.map f) i = (atI xs i).map f := by
  unfold L2.atI
  rw [List.length_map]
  cases h : ixN xs.length i with
  | none => rfl
  | some j => simp
theorem op2_ix (hK : J.g.K = X.K) : Op2 J D.ix (rIx X.K) := fun σ H Q x y dx dy d rx ry e q => by
  rw [← hK]
  unfold D.ix at e
  split at e
  · cases rx with
    | lst s r =>
      cases ry
      obtain ⟨v, h1, h2⟩ := r.atI e
      exact .inl ⟨_, _, _, _, rfl, rfl, s.sq, h1, g0 q h2⟩
  · cases rx with
    | tup s r =>
      cases ry
      obtain ⟨v, h1, h2⟩ := r.atI e
      exact .inr (.inl ⟨_, _, _, _, rfl, rfl, s, h1, g0 q h2⟩)
  · rename_i ns i
    obtain ⟨a, rfl, h⟩ := rep_scr rx
    cases ry
    cases h2 : atI ns i with
    | none => rw [h2] at e; cases e
    | some n =>
      rw [h2] at e
      cases e
      exact .inl ⟨_, _, _, .int n, rfl, rfl, h, by rw [atI_map, h2]; rfl, g0 q (.int n)⟩
  · rename_i z i
    cases rx
    cases ry
    split at e
    · rename_i hz
      cases h2 : atI z.cps.toList i with
      | none => rw [h2] at e; cases e
      | some n =>
        rw [h2] at e
        cases e
        exact .inr (.inr ⟨_, _, n, rfl, rfl, hz, h2, g0 q (.str _)⟩)
    · cases e
  · cases e
theorem ve_ix (hK : J.g.K = X.K) (ha : VE X J a ma) (hb : VE X J b mb) (hs : PlainIx b) : VE X J (.Subscript a b pos) (m2 D.ix ma mb) := ve_two (pe_ix ix_seq ha hb hs) (op2_ix hK)
/-! ### x[i:j] -/
def cutL {α : Type} (xs : List α) (lo hi : Option Int) : List α := (xs.drop (HT.sIx xs.length 0 lo)).take (HT.sIx xs.length xs.length hi - HT.sIx xs.length 0 lo)
def D.slice : D → Option Int → Option Int → Option D
  | .lst ds, lo, hi => some (.lst (cutL ds lo hi))
  | .tup ds, lo, hi => some (.tup (cutL ds lo hi))
  | .str z, lo, hi => if z.length ≤ sizeLine then some (.str (cutS z lo hi)) else none
  | .scr ns, lo, hi => some (.lst ((cutL ns lo hi).map D.int))
  | _, _, _ => none
theorem RepL.cut {g : Gx} {co : CO} {H : Hp} {vs : List V} {ds : List D} (lo hi : Option Int) (r : RepL g co H vs ds) : RepL g co H (cutV vs lo hi) (cutL ds lo hi) := by
  unfold L2.cutV cutL
  rw [r.length]
  exact (r.drop _).take _
abbrev MO := Vw → P3 → Res (Option Int)
def oNo : MO := fun _ p => .ok none p
def oSome (m : ME) : MO := fun vw p => (m vw p).bind fun d p1 => match d with
  | .int i => .ok (some i) p1
  | _ => .bad
def PO3 (J : Jc) (σ : St) (H : Hp) (Q : Option Int → Hp → Prop) : Res (Option Int) → Prop
  | .ok o p => ∀ (H' : Hp), Ext J.g H H' → StR J.g H' p → Q o H'
  | .err x dv p => ErrP J σ H x dv p
  | .bad => False
def tO (J : Jc) (m : MO) : TO := fun σ H Q => ∃ vw p, VRep J σ H vw ∧ StR J.g H p ∧ PO3 J σ H Q (m vw p)
abbrev VO (X : Cx) (J : Jc) (e : Option Expr) (m : MO) : Prop := PO X e (tO J m)
theorem po_imp {o : Option Expr} {t t' : TO} (h : PO X o t) (i : ∀ σ H Q, t' σ H Q → t σ H Q) : PO X o t' := ⟨fun pins s σ H Q I q => h.run pins s σ H Q I (i σ H Q q)⟩
theorem vo_no : VO X J none oNo := po_imp po_none fun σ H Q ⟨vw, p, _, s, q⟩ => q H .refl s
theorem vo_some (h : VE X J e ma) : VO X J (some e) (oSome ma) := by
  refine po_imp (po_some h) fun σ H Q ⟨vw, p, rr, s, q⟩ => ⟨vw, p, rr, s, ?_⟩
  unfold oSome at q
  cases e1 : ma vw p with
  | bad => rw [e1] at q; exact q.elim
  | err x dv p1 => rw [e1] at q; exact q
  | ok d p1 =>
    rw [e1] at q
    intro H1 v x1 s1 r1
    cases d with
    | int i =>
      cases r1
      exact ⟨i, rfl, q H1 x1 s1⟩
    | _ => exact q.elim
def mSl (m : ME) (ml mh : MO) : ME := fun vw p => (m vw p).bind fun d p1 => (ml vw p1).bind fun lo p2 => (mh vw p2).bind fun hi p3 => ofO (d.slice lo hi) p3
def rSlAll (K : PySem.W.Frag) : V → Option Int → Option Int → Hp → VK → Prop := fun x lo hi H Q => rSlL K x lo hi H Q ∨ rSlA K x lo hi H Q ∨ rSlS x lo hi H Q
theorem sl_all : SlR X (rSlAll X.K) := sl_list.or (sl_tupA.or sl_str)
theorem sl_logic {K : PySem.W.Frag} (hK : J.g.K = K) {σ : St} {H : Hp} {Q : VK} {v : V} {d z : D} {lo hi : Option Int} (r : J.R σ H v d) (e : d.slice lo hi = some z) (q : ∀ (H' : Hp) (v : V), Grow H H' → J.R σ H' v z → Q v H') : rSlAll K v lo hi H (Fz Q) := by
  rw [← hK]
  unfold D.slice at e
  split at e
  · cases r with
    | lst s r =>
      cases e
      exact .inl ⟨_, _, rfl, s.sq, fun p hp => fz_of (d := .non) hp (r.cut lo hi) q⟩
  · cases r with
    | tup s r =>
      cases e
      refine .inr (.inl ⟨_, _, rfl, s, fun ⟨h1, h2⟩ => .inl ?_, fun _ p hp => .inl (tup_of hp (r.cut lo hi) q)⟩)
      refine g0 q (.tup s ?_)
      have w := r.cut lo hi
      have e2 : ∀ {α : Type} (l : List α), HT.sIx l.length 0 lo = 0 → HT.sIx l.length l.length hi = l.length → cutL l lo hi = l := fun l h1 h2 => by
        unfold cutL
        rw [h1, h2]
        simp
      rw [show cutL _ lo hi = _ from e2 _ (by rw [← r.length]; exact h1) (by rw [← r.length]; exact h2)]
      exact r
  · cases r
    split at e
    · rename_i hz
      cases e
      exact .inr (.inr ⟨_, rfl, hz, .inl (g0 q (.str _))⟩)
    · cases e
  · obtain ⟨a, rfl, h⟩ := rep_scr r
    cases e
    refine .inl ⟨_, _, rfl, h, fun p hp => fz_of (d := .non) hp ?_ q⟩
    have go : ∀ l : List Int, RepL J.g (J.co H) H (l.map V.int) (l.map D.int) := fun l => by
      induction l with
      | nil => exact .nil
      | cons x l ih => exact .cons (.int x) ih
    have e3 : ∀ l : List Int, cutV (l.map V.int) lo hi = (cutL l lo hi).map V.int := fun l => by
      unfold cutV cutL
      rw [List.length_map, ← List.map_drop, ← List.map_take]
    rw [e3]
    exact go _
  · cases e
theorem ve_slice {lo hi : Option Expr} {ml mh : MO} {p2 : Pos} (hK : J.g.K = X.K) (he : VE X J e ma) (hl : VO X J lo ml) (hu : VO X J hi mh) : VE X J (.Subscript e (.Slice lo hi none p2) pos) (mSl ma ml mh) := by
  refine pe_imp (pe_fz (pe_slice (p2 := p2) (sl_all (X := X)) he hl hu)) fun σ H Q ⟨vw, p, rr, s, q⟩ => ⟨vw, p, rr, s, ?_⟩
  unfold mSl at q
  cases e1 : ma vw p with
  | bad => rw [e1] at q; exact q.elim
  | err x dv p1 => rw [e1] at q; exact q
  | ok d p1 =>
    rw [e1] at q
    intro H1 v x1 s1 r1
    refine ⟨vw, p1, rr.ext x1, s1, ?_⟩
    simp only [Res.bind] at q
    cases e2 : ml vw p1 with
    | bad => rw [e2] at q; exact q.elim
    | err x dv p2 => rw [e2] at q; exact ErrP.ext q x1
    | ok l p2 =>
      rw [e2] at q
      intro H2 x2 s2
      have x12 := x1.trans x2
      refine ⟨vw, p2, rr.ext x12, s2, ?_⟩
      simp only at q
      cases e3 : mh vw p2 with
      | bad => rw [e3] at q; exact q.elim
      | err x dv p2 => rw [e3] at q; exact ErrP.ext q x12
      | ok u p3 =>
        rw [e3] at q
        intro H3 x3 s3
        simp only at q
        cases e4 : d.slice l u with
        | none => rw [e4] at q; exact q.elim
        | some z =>
          rw [e4] at q
          exact sl_logic hK (J.ext (x2.trans x3) r1) e4 fun H4 v4 g4 r4 => q H4 v4 ((x12.trans x3).trans g4.ext) (s3.grow g4) r4
/-! ### x[::-1] -/
theorem sliceApplied_rev {prog : Program} {w : World} {A : Around} {E : Value → Shared → Prop} {s : Shared} {sl : Addr} {vl vu vs : Value} {n : Nat} {Q : Int × Int × Nat → Shared → Prop} (hs : s.heap.IsSliceOf sl vl vu vs) (pl : IsPart vl none) (pu : IsPart vu none) (ps : IsPart vs (some (-1)))
    (h : Q ((n : Int) - 1, -1, n) s) : wpAny (model prog w) A (Builtin.Slice.sliceApplied (.ref sl) (pure (n : Int))) Q E s := by
  obtain ⟨os, hos, hcs, hds⟩ := id hs
  unfold Builtin.Slice.sliceApplied Builtin.Slice.sliceFields
  refine wpAny_bind (wpAny_bind (wpAny_field hos hds (x := vl) rfl (wpAny_bind (wpAny_field hos hds (x := vu) rfl (wpAny_bind (wpAny_field hos hds (x := vs) rfl (wpAny_pure ?_)))))))
  refine wpAny_bind (HT.slicePart_ ps ?_)
  show wpAny _ _ (if ((-1 : Int) == 0) = true then _ else _) _ _ s
  rw [if_neg (by decide)]
  refine wpAny_bind (HT.slicePart_ pl (wpAny_bind (HT.slicePart_ pu (wpAny_bind (wpAny_pure ?_)))))
  show wpAny _ _ (match Builtin.Slice.sliceAdjust none none (-1) (n : Int) with | (lo, hi) => pure (lo, (-1 : Int), Builtin.Slice.slicePlaces lo hi (-1))) _ _ s
  have e1 : Builtin.Slice.sliceAdjust none none (-1) (n : Int) = ((n : Int) - 1, -1) := by
    unfold Builtin.Slice.sliceAdjust
    simp
  rw [e1]
  show wpAny _ _ (pure ((n : Int) - 1, (-1 : Int), Builtin.Slice.slicePlaces ((n : Int) - 1) (-1) (-1))) _ _ s
  have e2 : Builtin.Slice.slicePlaces ((n : Int) - 1) (-1) (-1) = n := by
    unfold Builtin.Slice.slicePlaces
    simp
    omega
  rw [e2]
  exact wpAny_pure h
theorem pick_rev (xs : Array Value) : ((List.range xs.size).filterMap fun (m : Nat) => xs[(((xs.size : Nat) : Int) - 1 + (m : Int) * (-1)).toNat]?).toArray = xs.toList.reverse.toArray := by
  congr 1
  apply List.ext_getElem?
  intro i
  have all : ∀ m ∈ List.range xs.size, (fun (m : Nat) => xs[(((xs.size : Nat) : Int) - 1 + (m : Int) * (-1)).toNat]?) m = some (xs.toList.reverse.getD m .none) := by
    intro m hm
    have hm' := List.mem_range.mp hm
    have e : (((xs.size : Nat) : Int) - 1 + (m : Int) * (-1)).toNat = xs.size - 1 - m := by omega
    have hl : m < xs.toList.reverse.length := by simpa using hm'
    rw [List.getD_eq_getElem?_getD, List.getElem?_eq_getElem hl]
    simp only [e, Option.getD_some]
    rw [List.getElem_reverse]
    simp only [Array.length_toList]
    rw [Array.getElem?_eq_getElem (by omega)]
    simp
  have fm : ∀ (l : List Nat) (f : Nat → Option Value) (g : Nat → Value), (∀ m ∈ l, f m = some (g m)) → l.filterMap f = l.map g := by
    intro l f g
    induction l with
    | nil => intro _; rfl
    | cons a l ih =>
      intro h
      rw [List.filterMap_cons, h a List.mem_cons_self, List.map_cons, ih fun m hm => h m (List.mem_cons_of_mem _ hm)]
  rw [fm _ _ _ all, List.getElem?_map]
  by_cases hi : i < xs.size
  · rw [List.getElem?_range hi]
    have hl : i < xs.toList.reverse.length := by simpa using hi
    simp only [Option.map_some]
    rw [List.getD_eq_getElem?_getD, List.getElem?_eq_getElem hl]
    rfl
  · rw [List.getElem?_eq_none (by simpa using Nat.le_of_not_lt hi), List.getElem?_eq_none (by simpa using Nat.le_of_not_lt hi)]
    rfl
theorem getItem_tuple_rev {prog : Program} {w : World} {A : Around} {E : Value → Shared → Prop} {s : Shared} {t sl : Addr} {items : Array Value} {vl vu vs : Value} {Q : Value → Shared → Prop} (ht : IsTup s.heap t items) (hs : s.heap.IsSliceOf sl vl vu vs) (pl : IsPart vl none) (pu : IsPart vu none) (ps : IsPart vs (some (-1)))
    (h : Q (.ref s.heap.objs.size) { s with heap := s.heap.push { cls := .type "tuple", data := .seq items.toList.reverse.toArray } }) (hsz : items.size ≤ sizeLine) : wpAny (model prog w) A (getItem (.ref t) (.ref sl)) Q E s := by
  have htake : sizeOk (.seq items.toList.reverse.toArray) := by
    show items.toList.reverse.toArray.size ≤ sizeLine
    rw [List.size_toArray, List.length_reverse, Array.length_toList]
    exact hsz
  obtain ⟨os, hos, hcs, hds⟩ := id hs
  have hTs : s.TypeIs (.ref sl) "slice" := ⟨os, hos, hcs⟩
  unfold getItem
  try with_reducible refine wpAny_holding ?_
  first | refine wpAny_bind (wpAny_pure ?_) | skip
  refine wpAny_bind (wpAny_sequenceKey ht.typeIs (by decide) ?_)
  refine wpAny_bind (wpAny_callSpecial?_slot (name := Str.ofString "__getitem__") ht.typeIs PyProof.Rows.slot_tuple_getitem
    (wpAny_call_entry PyProof.Rows.slot_tuple_getitem ht.typeIs entry_tuple_getitem ?_ (args_tuple_getitem _ _)))
  show wpAny _ _ (Builtin.Tuple.tupleItemsOf (.ref t) >>= _) _ _ s
  refine wpAny_bind (tupleItemsOf_ ht ?_)
  refine wpAny_bind (wpAny_typeOf hTs ?_)
  rw [if_pos (by decide)]
  refine wpAny_bind (sliceApplied_rev hs pl pu ps ?_)
  have hno : ¬ ((((items.size : Nat) : Int) - 1 == 0 && (-1 : Int) == 1 && items.size == items.size) = true) := by simp
  show wpAny _ _ (if (((items.size : Nat) : Int) - 1 == 0 && (-1 : Int) == 1 && items.size == items.size) = true then _ else _) _ _ s
  rw [if_neg hno, pick_rev]
  first
    | exact wpAny_bind (m := Builtin.Tuple.tupleExact _) (wpAny_newObj_type (wpAny_pure ⟨_, rfl, wpAny_pure h⟩) htake)
    | exact wpAny_bind (m := Builtin.Tuple.tupleExact _) (wpAny_newObj_type (wpAny_bind (wpAny_pure (wpAny_pure ⟨_, rfl, wpAny_pure h⟩))) htake)
    | exact wpAny_bind (wpAny_bind (m := Builtin.Tuple.tupleExact _) (wpAny_newObj_type (wpAny_pure (wpAny_pure ⟨_, rfl, wpAny_pure h⟩)) htake))
    | exact wpAny_bind (wpAny_bind (m := Builtin.Tuple.tupleExact _) (wpAny_newObj_type (wpAny_pure ⟨_, rfl, wpAny_pure h⟩) htake))
def D.rev : D → Option D
  | .lst ds => some (.lst ds.reverse)
  | .tup ds => some (.tup ds.reverse)
  | _ => none
def tRevA (K : PySem.W.Frag) (te : TE) : TE := fun σ H Q => te σ H fun x H1 => ∃ a xs, x = .ref a ∧ ((SqL K H1 a xs ∧ ∀ p, H1 p = none → Q (.ref p) (upd H1 p (.lst xs.reverse))) ∨ (SqT K H1 a xs ∧ ∀ p, H1 p = none → Q (.ref p) (upd H1 p (.tup xs.reverse))))
theorem pe_revA {te : TE} {k : Nat} {p1 p2 p3 : Pos} (he : PE X e te) : PE X (.Subscript e (.Slice none none (some (.UnaryOp .USub (.Constant (.int 1) k p1) p2)) p3) pos) (tRevA X.K te) := by
  refine ⟨fun pins s σ H Q I h => ?_⟩
  refine Subscript_ (thn (he.run pins s σ H _ I h) fun v s1 ⟨x, H1, I1, r1, a, xs, ex, q1⟩ => ?_)
  subst ex
  cases r1
  have hst : PO X (some (.UnaryOp .USub (.Constant (.int 1) k p1) p2)) (tPart (tUn (rU fun i => .int (-i)) (tC (.int 1)))) := po_some (pe_un un_neg pe_int)
  refine wpAny_Slice (thn (po_none.run pins s1 σ H1 (fun o H2 => o = none ∧ H2 = H1) I1 ⟨rfl, rfl⟩) fun vl s2 ⟨l, H2, I2, pl, el, e2⟩ => ?_)
  subst el e2
  refine thn (po_none.run pins s2 σ H2 (fun o H3 => o = none ∧ H3 = H2) I2 ⟨rfl, rfl⟩) fun vu s3 ⟨u, H3, I3, pu, eu, e3⟩ => ?_
  subst eu e3
  refine thn (hst.run pins s3 σ H3 (fun o H4 => o = some (-1) ∧ H4 = H3) I3 ⟨1, rfl, -1, rfl, rfl, rfl⟩) fun vs s4 ⟨o, H4, I4, ps, eo, e4⟩ => ?_
  subst eo e4
  have I5 : Inv X pins σ H4 { s4 with heap := s4.heap.push { cls := .type "slice", data := .fields #[vl, vu, vs] } } := I4.kept (t' := s4.toks) fun b ob q => Heap.get?_push_of_some _ q
  show wpAny (model X.prog X.w) X.A (subscriptTail e (.Slice none none (some (.UnaryOp .USub (.Constant (.int 1) k p1) p2)) p3) (.ref a) (.ref s4.heap.objs.size)) (EP X pins σ Q) X.xe { s4 with heap := s4.heap.push { cls := .type "slice", data := .fields #[vl, vu, vs] } }
  rcases q1 with ⟨hx, q⟩ | ⟨hx, q⟩
  · obtain ⟨its, r, ht, hz⟩ := I5.list hx
    have hlen := r.length
    refine tail_any (ops := [.ref a, .ref s4.heap.objs.size]) ht.isList.typeIs (PySem.slot_list_getitem.lookup) ?_ (by with_unfolding_all rfl)
    refine wpAny_getItem_list_slice ht.isList (Heap.IsSliceOf.new _ vl vu vs) pl pu ps (by decide) ?_ (by rw [List.size_toArray]; omega)
    rw [PySem.W.krv_pick]
    refine ⟨.ref _, _, I5.laid (t' := s4.toks) (o := .lst xs.reverse) (fun b ob q => Heap.get?_push_of_some _ q) (Nat.le_refl _) ?_, rfl, q _ (I5.hok.fresh (Nat.le_refl _))⟩
    exact ⟨by rw [List.length_reverse]; exact hz, _, 0, r.reverse, Heap.get?_push_size _ rfl⟩
  · obtain ⟨its, r, ht, hz⟩ := I5.tuple hx
    have hlen := r.length
    refine tail_any (ops := [.ref a, .ref s4.heap.objs.size]) ht.typeIs (PyProof.Rows.slot_tuple_getitem.lookup) ?_ (by with_unfolding_all rfl)
    refine getItem_tuple_rev ht (Heap.IsSliceOf.new _ vl vu vs) pl pu ps ?_ (by rw [List.size_toArray]; omega)
    refine ⟨.ref _, _, I5.laid (t' := s4.toks) (o := .tup xs.reverse) (fun b ob q => Heap.get?_push_of_some _ q) (Nat.le_refl _) ?_, rfl, q _ (I5.hok.fresh (Nat.le_refl _))⟩
    exact ⟨by rw [List.length_reverse]; exact hz, _, r.reverse, IsTup.new _ _⟩
theorem ve_rev {k : Nat} {p1 p2 p3 : Pos} (hK : J.g.K = X.K) (he : VE X J e ma) : VE X J (.Subscript e (.Slice none none (some (.UnaryOp .USub (.Constant (.int 1) k p1) p2)) p3) pos) (m1 D.rev ma) := by
  refine ve_one (r := fun x H Q => ∃ a xs, x = .ref a ∧ ((SqL X.K H a xs ∧ ∀ p, H p = none → Fz Q (.ref p) (upd H p (.lst xs.reverse))) ∨ (SqT X.K H a xs ∧ ∀ p, H p = none → Fz Q (.ref p) (upd H p (.tup xs.reverse))))) (pe_fz (pe_revA he)) fun σ H Q x dx d rx e q => ?_
  rw [← hK]
  unfold D.rev at e
  split at e
  · cases rx with
    | lst s r =>
      cases e
      exact ⟨_, _, rfl, .inl ⟨s.sq, fun p hp => fz_of (d := .non) hp r.reverse q⟩⟩
  · cases rx with
    | tup s r =>
      cases e
      exact ⟨_, _, rfl, .inr ⟨s, fun p hp => .inl (tup_of hp r.reverse q)⟩⟩
  · cases e
/-! ### repr, min, max, sum, any, all -/
def D.repr (d : D) : Option D := if d.plain 60 && d.py.showable && decide (d.py.shown.length ≤ sizeLine) then some (.str d.py.shown) else none
theorem call_reprD (hu : X.A.units + 70 < cLine) (hgd : X.A.guards = some []) : CallR X (.builtin "repr") (fun xs H Q => ∃ x d, xs = [x] ∧ Dp X.K H x d ∧ SeqAt.shaped d = true ∧ d.showable = true ∧ d.shown.length ≤ sizeLine ∧ Q (.str d.shown) H) := by
  intro pins s σ H xs us Q I r h
  obtain ⟨x, d, rfl, hd, sh, hs, hz, q⟩ := h
  obtain ⟨u, rfl, rx⟩ := vals1 r
  obtain ⟨as, rd⟩ := Dp.reads I d x u hd rx
  have hd0 : d.hasDict = false := PyData.hasDict_of_canLay d (SeqAt.canLay_of_shaped sh)
  have dep := SeqAt.depth_of_shaped sh
  have fin : ∀ (h' : Heap) (t : Tok) (tk : Nat), (∀ b o, s.heap.get? b = some o → h'.get? b = some o) → EP X pins σ Q (.str d.shown t) { s with heap := h', toks := tk } := fun h' t tk hk => ⟨.str d.shown, H, I.kept hk, ⟨_, rfl⟩, q⟩
  cases rd with
  | none => exact PySem.P.repr_of_none (fin _ _ _ fun _ _ k => k)
  | bool b => exact PySem.P.repr_of_bool (fin _ _ _ fun _ _ k => k)
  | int i t => exact PySem.P.repr_of_int (by simpa [PyData.showable] using hs) (fin _ _ _ fun _ _ k => k)
  | str y t => exact PySem.P.repr_of_str (fin _ _ _ fun _ _ k => k) hz
  | list h1 h2 h3 h4 => exact repr_of_reads' (.list h1 h2 h3 h4) hs (fun z => by rw [hd0] at z; cases z) hgd (by omega) (fun _ _ k => k) (fun h' t tk hk => fin h' t tk hk) hz
  | tuple h1 h2 h3 h4 => exact repr_of_reads' (.tuple h1 h2 h3 h4) hs (fun z => by rw [hd0] at z; cases z) hgd (by omega) (fun _ _ k => k) (fun h' t tk hk => fin h' t tk hk) hz
  | dict h1 h2 h3 h4 h5 => simp [PyData.hasDict] at hd0
def dRepr : List D → Option D
  | [d] => d.repr
  | _ => none
theorem on_repr (hK : J.g.K = X.K) : OpN J dRepr (fun xs H Q => ∃ x d, xs = [x] ∧ Dp X.K H x d ∧ SeqAt.shaped d = true ∧ d.showable = true ∧ d.shown.length ≤ sizeLine ∧ Q (.str d.shown) H) := fun σ H Q xs ds d r e q => by
  rw [← hK]
  unfold dRepr at e
  split at e
  · cases r with
    | cons r1 r2 =>
      cases r2
      unfold D.repr at e
      split at e
      · rename_i hc
        cases e
        rw [Bool.and_eq_true, Bool.and_eq_true, decide_eq_true_eq] at hc
        exact ⟨_, _, rfl, r1.dp _ hc.1.1, D.shaped hc.1.1, hc.1.2, hc.2, g0 q (.str _)⟩
      · cases e
  · cases e
/-- all items ints, bools -/
def D.ints : List D → Option (List Int)
  | [] => some []
  | .int i :: ds => (D.ints ds).map (i :: ·)
  | _ :: _ => none
def D.bools : List D → Option (List Bool)
  | [] => some []
  | .bl i :: ds => (D.bools ds).map (i :: ·)
  | _ :: _ => none
theorem RepL.ints {g : Gx} {co : CO} {H : Hp} : ∀ {vs : List V} {ds : List D} {ns : List Int}, RepL g co H vs ds → D.ints ds = some ns → vs = ns.map V.int
  | _, _, _, .nil, e => by cases e; rfl
  | _, _, ns, .cons (d := d) (ds := ds) r t, e => by
    cases d with
    | int i =>
      cases r
      unfold D.ints at e
      cases h : D.ints ds with
      | none => rw [h] at e; cases e
      | some ms =>
        rw [h] at e
        cases e
        rw [RepL.ints t h]
        rfl
    | _ => simp [D.ints] at e
theorem RepL.bools {g : Gx} {co : CO} {H : Hp} : ∀ {vs : List V} {ds : List D} {ns : List Bool}, RepL g co H vs ds → D.bools ds = some ns → vs = ns.map V.bl
  | _, _, _, .nil, e => by cases e; rfl
  | _, _, ns, .cons (d := d) (ds := ds) r t, e => by
    cases d with
    | bl i =>
      cases r
      unfold D.bools at e
      cases h : D.bools ds with
      | none => rw [h] at e; cases e
      | some ms =>
        rw [h] at e
        cases e
        rw [RepL.bools t h]
        rfl
    | _ => simp [D.bools] at e
def dAll : List D → Option D
  | [.lst ds] => (D.bools ds).map fun bs => .bl (bs.all id)
  | _ => none
def dAny : List D → Option D
  | [.lst ds] => (D.bools ds).map fun bs => .bl (bs.any id)
  | _ => none
theorem on_all (hK : J.g.K = X.K) : OpN J dAll (rAll X.K) := fun σ H Q xs ds d r e q => by
  rw [← hK]
  unfold dAll at e
  split at e
  · rename_i ds
    cases r with
    | cons r1 r2 =>
      cases r2
      cases r1 with
      | lst s t =>
        cases h : D.bools ds with
        | none => rw [h] at e; cases e
        | some bs =>
          rw [h] at e
          cases e
          exact ⟨_, bs, rfl, (t.bools h) ▸ s.sq, g0 q (.bl _)⟩
  · cases e
theorem on_any (hK : J.g.K = X.K) : OpN J dAny (rAny X.K) := fun σ H Q xs ds d r e q => by
  rw [← hK]
  unfold dAny at e
  split at e
  · rename_i ds
    cases r with
    | cons r1 r2 =>
      cases r2
      cases r1 with
      | lst s t =>
        cases h : D.bools ds with
        | none => rw [h] at e; cases e
        | some bs =>
          rw [h] at e
          cases e
          exact ⟨_, bs, rfl, (t.bools h) ▸ s.sq, g0 q (.bl _)⟩
  · cases e
def dSum : List D → Option D
  | [.lst ds] => (D.ints ds).map fun ns => .int ns.sum
  | [.scr ns] => some (.int ns.sum)
  | _ => none
theorem on_sum (hK : J.g.K = X.K) : OpN J dSum (rSum X.K) := fun σ H Q xs ds d r e q => by
  rw [← hK]
  unfold dSum at e
  split at e
  · rename_i ds
    cases r with
    | cons r1 r2 =>
      cases r2
      cases r1 with
      | lst s t =>
        cases h : D.ints ds with
        | none => rw [h] at e; cases e
        | some bs =>
          rw [h] at e
          cases e
          exact ⟨_, bs, rfl, (t.ints h) ▸ s.sq, g0 q (.int _)⟩
  · rename_i ns
    cases r with
    | cons r1 r2 =>
      cases r2
      obtain ⟨a, rfl, h⟩ := rep_scr r1
      cases e
      exact ⟨_, ns, rfl, h, g0 q (.int _)⟩
  · cases e
def maxI : List Int → Option Int
  | [] => none
  | n :: ns => some (ns.foldl max n)
def minI : List Int → Option Int
  | [] => none
  | n :: ns => some (ns.foldl min n)
theorem foldl_max (ns : List Int) (n m : Int) (hm : m = n ∨ m ∈ ns) (h : ∀ y, y = n ∨ y ∈ ns → y ≤ m) : ns.foldl max n = m := by
  induction ns generalizing n with
  | nil =>
    rcases hm with rfl | hm
    · rfl
    · cases hm
  | cons a l ih =>
    rw [List.foldl_cons]
    have h1 := h n (.inl rfl)
    have h2 := h a (.inr List.mem_cons_self)
    refine ih (max n a) ?_ fun y hy => ?_
    · rcases hm with rfl | hm
      · left; omega
      · rcases List.mem_cons.mp hm with rfl | hm
        · left; omega
        · right; exact hm
    · rcases hy with rfl | hy
      · omega
      · exact h y (.inr (List.mem_cons_of_mem _ hy))
theorem foldl_min (ns : List Int) (n m : Int) (hm : m = n ∨ m ∈ ns) (h : ∀ y, y = n ∨ y ∈ ns → m ≤ y) : ns.foldl min n = m := by
  induction ns generalizing n with
  | nil =>
    rcases hm with rfl | hm
    · rfl
    · cases hm
  | cons a l ih =>
    rw [List.foldl_cons]
    have h1 := h n (.inl rfl)
    have h2 := h a (.inr List.mem_cons_self)
    refine ih (min n a) ?_ fun y hy => ?_
    · rcases hm with rfl | hm
      · left; omega
      · rcases List.mem_cons.mp hm with rfl | hm
        · left; omega
        · right; exact hm
    · rcases hy with rfl | hy
      · omega
      · exact h y (.inr (List.mem_cons_of_mem _ hy))
def dMax1 : List D → Option D
  | [.lst ds] => (D.ints ds).bind fun ns => (maxI ns).map D.int
  | _ => none
def dMin1 : List D → Option D
  | [.lst ds] => (D.ints ds).bind fun ns => (minI ns).map D.int
  | _ => none
theorem on_max (hK : J.g.K = X.K) : OpN J dMax1 (rMax X.K) := fun σ H Q xs ds d r e q => by
  rw [← hK]
  unfold dMax1 at e
  split at e
  · rename_i ds
    cases r with
    | cons r1 r2 =>
      cases r2
      cases r1 with
      | lst s t =>
        cases h : D.ints ds with
        | none => rw [h] at e; cases e
        | some bs =>
          rw [h] at e
          cases bs with
          | nil => cases e
          | cons n ns =>
            cases e
            refine ⟨_, n :: ns, rfl, (t.ints h) ▸ s.sq, Nat.succ_pos _, fun m hm hall => ?_⟩
            rw [foldl_max ns n m (List.mem_cons.mp hm) fun y hy => hall y (List.mem_cons.mpr hy)] at q
            exact g0 q (.int _)
  · cases e
theorem on_min (hK : J.g.K = X.K) : OpN J dMin1 (rMin X.K) := fun σ H Q xs ds d r e q => by
  rw [← hK]
  unfold dMin1 at e
  split at e
  · rename_i ds
    cases r with
    | cons r1 r2 =>
      cases r2
      cases r1 with
      | lst s t =>
        cases h : D.ints ds with
        | none => rw [h] at e; cases e
        | some bs =>
          rw [h] at e
          cases bs with
          | nil => cases e
          | cons n ns =>
            cases e
            refine ⟨_, n :: ns, rfl, (t.ints h) ▸ s.sq, Nat.succ_pos _, fun m hm hall => ?_⟩
            rw [foldl_min ns n m (List.mem_cons.mp hm) fun y hy => hall y (List.mem_cons.mpr hy)] at q
            exact g0 q (.int _)
  · cases e
/-- -x -/
def D.usub : D → Option D
  | .int i => some (.int (-i))
  | _ => none
theorem ve_neg (ha : VE X J a ma) : VE X J (.UnaryOp .USub a pos) (m1 D.usub ma) := by
  refine ve_one (pe_un un_neg ha) fun σ H Q x dx d rx e q => ?_
  unfold D.usub at e
  split at e
  · cases rx; cases e
    exact ⟨_, rfl, g0 q (.int _)⟩
  · cases e
end
end VL

namespace VL
open PySem PySem.Spec PyProof.Rows L2 LamX
/-! ### defs and their mirrors -/
abbrev coN : CO := ⟨fun _ _ _ => False, fun _ _ => False⟩
theorem coN_le {c : CO} : coN.le c := ⟨fun _ _ _ h => h.elim, fun _ _ h => h.elim⟩
/-- no closures here -/
def jP (g : Gx) (W : WX) : Jc := ⟨g, fun _ => coN, W, fun _ _ _ => .refl⟩
def PF (g : Gx) (H : Hp) (Q : VK) (E : XK) : Res D → Prop
  | .ok d p => ∀ (H' : Hp) (v : V), Ext g H H' → StR g H' p → Rep g coN H' v d → Q v H'
  | .err x dv p => ∀ (H' : Hp) (C dd : Addr) (y : V), Ext g H H' → StR g H' p → g.mg x = some (.ref C) → H' dd = some (.xd [("value", y)]) → Rep g coN H' y dv → E (.ref C) (some dd) H'
  | .bad => False
structure FnP (P : Program) (w : World) (base : Heap) (g : Gx) (k : Nat) (f : Addr) (fd : FuncData) (ps : List Str) (mf : List D → P3 → Res D) : Prop where
  len : ∀ ds p, ds.length ≠ ps.length → mf ds p = .bad
  run : ∀ (A : Around) (outer : List Env) (s : Shared) (H : Hp) (args : Args) (us : List Value) (vs : List V) (ds : List D) (p : P3) (Q : VK) (E : XK), Room k A → A.guards = some [] → Env0 P w g.K g.mg base A outer s H → BindsTo s fd args (ps.zip us) → Vals vs us →
    RepL g coN H vs ds → StR g H p → PF g H Q E (mf ds p) → codeAny (model P w) A (.call (.ref f) args) (CR (L2.CX P w) outer P w H s Q E) s
theorem FnP.mono {P : Program} {w : World} {base : Heap} {g : Gx} {j k : Nat} {f : Addr} {fd : FuncData} {ps : List Str} {mf : List D → P3 → Res D} (F : FnP P w base g j f fd ps mf) (h : j ≤ k) : FnP P w base g k f fd ps mf :=
  ⟨F.len, fun A outer s H args us vs ds p Q E hr => F.run A outer s H args us vs ds p Q E (hr.mono h)⟩
theorem FnP.bad {P : Program} {w : World} {base : Heap} {g : Gx} {k : Nat} {f : Addr} {fd : FuncData} {ps : List Str} : FnP P w base g k f fd ps (fun _ _ => .bad) :=
  ⟨fun _ _ _ => rfl, fun _ _ _ _ _ _ _ _ _ _ _ _ _ _ _ _ _ _ h => h.elim⟩
/-- a def that the callers find by its name -/
structure Cal (P : Program) (w : World) (base : Heap) (g : Gx) (k : Nat) (x : Str) (ps : List Str) (mf : List D → P3 → Res D) : Prop where
  ex : ∃ (f : Addr) (fd : FuncData), g.mg x = some (.ref f) ∧ PySem.W.keepIn g.K (.ref f) = true ∧ Binds g.K fd ps [] ∧ FnP P w base g k f fd ps mf
theorem Cal.mono {P : Program} {w : World} {base : Heap} {g : Gx} {j k : Nat} {x : Str} {ps : List Str} {mf : List D → P3 → Res D} (c : Cal P w base g j x ps mf) (h : j ≤ k) : Cal P w base g k x ps mf :=
  let ⟨f, fd, h1, h2, h3, h4⟩ := c.ex
  ⟨f, fd, h1, h2, h3, h4.mono h⟩
/-- what holds in every plain frame -/
structure Fr0 (X : Cx) (J : Jc) (base : Heap) (k : Nat) : Prop where
  K : J.g.K = X.K
  mg : J.g.mg = X.mg
  bs : X.base = base
  tk : Takes X J.W
  room : Room k X.A
  gd : X.A.guards = some []
  calm : X.calm = true
section
variable {X : Cx} {J : Jc} {base : Heap} {k : Nat} {e : Expr} {es : List Expr} {m : ME} {ms : MA} {pos : Pos}
theorem plainL (pl : ∀ H, (J.co H).le coN) {σ : St} {H : Hp} {vs : List V} {ds : List D} (r : J.RL σ H vs ds) : RepL J.g coN H vs ds := r.ext .refl (pl H)
theorem plain1 (pl : ∀ H, (J.co H).le coN) {σ : St} {H : Hp} {v : V} {d : D} (r : J.R σ H v d) : Rep J.g coN H v d := r.ext .refl (pl H)
theorem Rep.up {J : Jc} {σ : St} {H : Hp} {v : V} {d : D} (r : Rep J.g coN H v d) : J.R σ H v d := r.ext .refl coN_le
def mCall (mf : List D → P3 → Res D) (ms : MA) : ME := fun vw p => (ms vw p).bind mf
theorem run_cal {P : Program} {w : World} {mf : List D → P3 → Res D} {x : Str} {ps : List Str} {f : Addr} {fd : FuncData} {pins : List (Addr × Obj)} {σ : St} {H : Hp} {s : Shared} {vs : List V} {us : List Value} {ds : List D} {p : P3} {Q : VK} (F : Fr0 X J X.base k) (pl : ∀ H, (J.co H).le coN) (C : FnP X.prog X.w X.base J.g k f fd ps mf) (hb : Binds J.g.K fd ps [])
    (I : Inv X pins σ H s) (rv : Vals vs us) (r : J.RL σ H vs ds) (st : StR J.g H p) (q : PV J σ H Q (mf ds p)) : wpAny (model X.prog X.w) X.A (call (.ref f) us) (EP X pins σ Q) X.xe s := by
  have hl : us.length = ps.length := by
    rw [← rv.length, r.length]
    refine Classical.byContradiction fun z => ?_
    rw [C.len ds p z] at q
    exact q
  have hb' := hb s us (F.K ▸ I.kIn) (by rw [List.append_nil]; exact hl)
  rw [List.append_nil] at hb'
  have e0 : Env0 X.prog X.w J.g.K J.g.mg X.base X.A X.stack s H := by rw [F.K, F.mg]; exact I.env0
  refine wpAny_call (codeAny_mono (C.run X.A X.stack s H ⟨us, []⟩ us vs ds p Q (fun cls d H' => J.W cls d σ H') F.room F.gd e0 hb' rv (plainL pl r) st ?_) fun r s' hq => ?_)
  · cases e1 : mf ds p with
    | bad => rw [e1] at q; exact q
    | err x dv p1 => rw [e1] at q; exact fun H' C dd y e s c z r => q H' C dd y e s c z (Rep.up r)
    | ok d p1 => rw [e1] at q; exact fun H' v e s r => q H' v e s (Rep.up r)
  · cases r with
    | error e => exact F.tk _ _ (XE.of_call (W := J.W) I (fun _ _ _ z => z) hq)
    | ok fl =>
      cases fl with
      | ret u => exact I.after hq
      | next => exact False.elim hq
      | brk => exact False.elim hq
      | cont => exact False.elim hq
theorem ve_call {mf : List D → P3 → Res D} {x : Str} {ps : List Str} {p : Pos} {j : Nat} (C : Cal X.prog X.w X.base J.g j x ps mf) (F : Fr0 X J X.base k) (hj : j ≤ k) (ha : VA X J (e :: es) ms) (pl : ∀ H, (J.co H).le coN := by intro _; exact .refl) (hg : Gl X x := by rfl) (hdb : (x == ("__debug__" : Str)) = false := by decide)
    (he : starEach (e :: es) X.env = (false, eval e X.env) :: starEach es X.env := by rfl) (hpl : (backTo pos (starEach es X.env)).any (·.1) = false := by rfl) : VE X J (.Call (.Name x p) (e :: es) [] pos) (mCall mf ms) := by
  obtain ⟨f, fd, h1, h2, h3, h4⟩ := C.ex
  refine ⟨fun pins s σ H Q I ⟨vw, p, rr, st, q⟩ => ?_⟩
  refine wpAny_Call_Name_kw (ld_glob I hg (F.mg ▸ h1) ?_ hdb)
  have hk : PySem.W.keepIn X.K (.ref f) = true := F.K ▸ h2
  refine PySem.W.callWith_K (h₀ := X.base) I.ok.mod.kin hk (thn (ha.run pos pins s σ H (fun vs H1 => ∃ ds p1, J.RL σ H1 vs ds ∧ StR J.g H1 p1 ∧ PV J σ H1 Q (mf ds p1)) I ⟨vw, p, rr, st, ?_⟩) fun us s1 ⟨vs, H1, I1, r, ds, p1, r1, s1', q1⟩ => ⟨I1.kIn, ?_⟩) he hpl
  · unfold mCall at q
    cases e1 : ms vw p with
    | bad => rw [e1] at q; exact q.elim
    | err x dv p1 => rw [e1] at q; exact q
    | ok ds p1 =>
      rw [e1] at q
      simp only [Res.bind] at q
      intro H1 vs x1 s1 r1
      refine ⟨ds, p1, r1, s1, ?_⟩
      cases e2 : mf ds p1 with
      | bad => rw [e2] at q; exact q.elim
      | err x dv p1 => rw [e2] at q; exact ErrP.ext q x1
      | ok d p2 => rw [e2] at q; exact fun H2 v x2 s2 r2 => q H2 v (x1.trans x2) s2 r2
  · exact run_cal (P := X.prog) (w := X.w) (x := x) F pl (h4.mono hj) h3 I1 r r1 s1' q1
theorem ve_call0 {mf : List D → P3 → Res D} {x : Str} {ps : List Str} {p : Pos} {j : Nat} (C : Cal X.prog X.w X.base J.g j x ps mf) (F : Fr0 X J X.base k) (hj : j ≤ k) (pl : ∀ H, (J.co H).le coN := by intro _; exact .refl) (hg : Gl X x := by rfl) (hdb : (x == ("__debug__" : Str)) = false := by decide) : VE X J (.Call (.Name x p) [] [] pos) (mCall mf mNil) := by
  obtain ⟨f, fd, h1, h2, h3, h4⟩ := C.ex
  refine ⟨fun pins s σ H Q I ⟨vw, p, rr, st, q⟩ => ?_⟩
  refine wpAny_Call_Name_kw (ld_glob I hg (F.mg ▸ h1) ?_ hdb)
  have hk : PySem.W.keepIn X.K (.ref f) = true := F.K ▸ h2
  exact PySem.W.callWith_K0 I.kIn hk (run_cal (P := X.prog) (w := X.w) (x := x) (us := []) F pl (h4.mono hj) h3 I .nil .nil st q)
end
/-! ### statements -/
inductive Sl where
  | p (d : D)
  | l (ds : List D)
abbrev En := List (Option Sl)
inductive Fl where
  | nx | ret (d : D) | bk | ct | rtl (ds : List D)
abbrev MS := En → P3 → Res (Fl × En)
/-- the frame's own -/
def Own (X : Cx) (g : Gx) (a : Addr) : Prop := g.pa ≠ some a ∧ ∀ o, X.H_0 a = some o → ∃ ps, o = .tbl ps
def SlRep (X : Cx) (J : Jc) (σ : St) (H : Hp) (i : Nat) : Sl → Prop
  | .p d => ∃ v, σ[i]? = some (some v) ∧ J.R σ H v d
  | .l ds => ∃ a xs, σ[i]? = some (some (.ref a)) ∧ H a = some (.lst xs) ∧ J.RL σ H xs ds ∧ Own X J.g a
def isOwn (env : En) (i : Nat) : Prop := ∃ ds, env[i]? = some (some (.l ds))
structure ERep (X : Cx) (J : Jc) (σ : St) (H : Hp) (env : En) : Prop where
  len : env.length = σ.length
  slot : ∀ i sl, env[i]? = some (some sl) → SlRep X J σ H i sl
  dist : ∀ i j a, i ≠ j → isOwn env i → isOwn env j → σ[i]? = some (some (.ref a)) → σ[j]? ≠ some (some (.ref a))
  ext : Ext J.g X.H_0 H
def PSt (X : Cx) (J : Jc) (Dn : Ends) (σ0 : St) (H0 : Hp) : Res (Fl × En) → Prop
  | .ok (.nx, env) p => ∀ (σ : St) (H : Hp), ERep X J σ H env → StR J.g H p → Ext1 H0 H → Dn.nx σ H
  | .ok (.bk, env) p => ∀ (σ : St) (H : Hp), ERep X J σ H env → StR J.g H p → Ext1 H0 H → Dn.bk σ H
  | .ok (.ct, env) p => ∀ (σ : St) (H : Hp), ERep X J σ H env → StR J.g H p → Ext1 H0 H → Dn.ct σ H
  | .ok (.ret d, _) p => ∀ (H : Hp) (v : V), Ext J.g X.H_0 H → StR J.g H p → Rep J.g coN H v d → Dn.rt v H
  | .ok (.rtl ds, _) p => ∀ (H : Hp) (a : Addr) (xs : List V), Ext J.g X.H_0 H → StR J.g H p → H a = none → RepL J.g coN H xs ds → Dn.rt (.ref a) (upd H a (.lst xs))
  | .err x dv p => ∀ (σ : St) (H' : Hp) (C dd : Addr) (y : V), Ext J.g X.H_0 H' → StR J.g H' p → J.g.mg x = some (.ref C) → H' dd = some (.xd [("value", y)]) → J.R σ H' y dv → J.W (.ref C) (some dd) σ H'
  | .bad => False
theorem PSt.at_ {X : Cx} {J : Jc} {Dn : Ends} {σ0 σ1 : St} {H0 H1 : Hp} {r : Res (Fl × En)} (q : PSt X J Dn σ0 H0 r) (e : Ext1 H0 H1) : PSt X J Dn σ1 H1 r := by
  match r, q with
  | .bad, q => exact q
  | .err _ _ _, q => exact q
  | .ok (.nx, env) p, q => exact fun σ H r s e' => q σ H r s (e.trans e')
  | .ok (.bk, env) p, q => exact fun σ H r s e' => q σ H r s (e.trans e')
  | .ok (.ct, env) p, q => exact fun σ H r s e' => q σ H r s (e.trans e')
  | .ok (.ret d, env) p, q => exact q
  | .ok (.rtl d, env) p, q => exact q
def tS (X : Cx) (J : Jc) (m : MS) : TS := fun Dn σ H => ∃ env p, ERep X J σ H env ∧ StR J.g H p ∧ PSt X J Dn σ H (m env p)
abbrev VS (X : Cx) (J : Jc) (st : Stmt) (m : MS) : Prop := PS X st (tS X J m)
abbrev VSs (X : Cx) (J : Jc) (st : List Stmt) (m : MS) : Prop := PSs X st (tS X J m)
def Res.bindS (r : Res (Fl × En)) (f : MS) : Res (Fl × En) := match r with
  | .ok (.nx, env) p => f env p
  | r => r
def sSeq (m n : MS) : MS := fun env p => (m env p).bindS n
def sNil : MS := fun env p => .ok (.nx, env) p
section
variable {X : Cx} {J : Jc} {st : Stmt} {sts : List Stmt} {e : Expr} {m n : MS} {pos : Pos}
theorem vss_nil : VSs X J [] sNil := pss_imp pss_nil fun Dn σ H ⟨env, p, r, s, q⟩ => q σ H r s .refl
theorem vss_cons (h : VS X J st m) (hs : VSs X J sts n) : VSs X J (st :: sts) (sSeq m n) := by
  refine pss_imp (pss_cons h hs) fun Dn σ H ⟨env, p, r, s, q⟩ => ⟨env, p, r, s, ?_⟩
  unfold sSeq Res.bindS at q
  cases e1 : m env p with
  | bad => rw [e1] at q; exact q
  | err x dv p1 => rw [e1] at q; exact q
  | ok fe p1 =>
    obtain ⟨fl, env1⟩ := fe
    rw [e1] at q
    cases fl with
    | nx => exact fun σ1 H1 r1 s1 e1 => ⟨env1, p1, r1, s1, PSt.at_ (show PSt X J Dn σ H (n env1 p1) from q) e1⟩
    | ret d => exact q
    | bk => exact q
    | ct => exact q
    | rtl d => exact q
theorem vss_one (h : VS X J st m) : VSs X J [st] m := pss_one h
def sPass : MS := sNil
theorem vs_pass : VS X J (.Pass pos) sPass := ps_imp ps_pass fun Dn σ H ⟨env, p, r, s, q⟩ => q σ H r s .refl
theorem vs_break : VS X J (.Break pos) (fun env p => .ok (.bk, env) p) := ps_imp ps_break fun Dn σ H ⟨env, p, r, s, q⟩ => q σ H r s .refl
theorem vs_continue : VS X J (.Continue pos) (fun env p => .ok (.ct, env) p) := ps_imp ps_continue fun Dn σ H ⟨env, p, r, s, q⟩ => q σ H r s .refl
/-! the slots as an expression sees them: an own list is not seen -/
def vwOf (env : En) : Vw := env.map fun o => match o with
  | some (.p d) => some d
  | _ => none
theorem ERep.vrep {σ : St} {H : Hp} {env : En} (r : ERep X J σ H env) : VRep J σ H (vwOf env) := by
  refine ⟨by unfold vwOf; rw [List.length_map]; exact Nat.le_of_eq r.len, fun i d h => ?_⟩
  unfold vwOf at h
  rw [List.getElem?_map] at h
  cases e1 : env[i]? with
  | none => rw [e1] at h; cases h
  | some o =>
    rw [e1] at h
    cases o with
    | none => cases h
    | some sl =>
      cases sl with
      | p d' =>
        cases h
        exact r.slot i _ e1
      | l ds => cases h
theorem Ext.keepL {g : Gx} {H H' : Hp} {a : Addr} {xs : List V} (e : Ext g H H') (h : H a = some (.lst xs)) (hp : g.pa ≠ some a) : H' a = some (.lst xs) := e _ _ h (fun z => absurd z hp) (fun _ z => nomatch z)
theorem ERep.ext1 {σ : St} {H H' : Hp} {env : En} (r : ERep X J σ H env) (e : Ext J.g H H') : ERep X J σ H' env := by
  refine ⟨r.len, fun i sl h => ?_, r.dist, r.ext.trans e⟩
  have q := r.slot i sl h
  cases sl with
  | p d =>
    obtain ⟨v, h1, h2⟩ := q
    exact ⟨v, h1, J.ext e h2⟩
  | l ds =>
    obtain ⟨a, xs, h1, h2, h3, h4⟩ := q
    exact ⟨a, xs, h1, e.keepL h2 h4.1, J.extL e h3, h4⟩
/-- an expression in a statement -/
def onV (m : ME) (k : D → En → P3 → Res (Fl × En)) : MS := fun env p => match m (vwOf env) p with
  | .ok d p1 => k d env p1
  | .err x v p1 => .err x v p1
  | .bad => .bad
theorem err_st {σ : St} {H : Hp} {env : En} {x : Str} {dv : D} {p : P3} {Dn : Ends} (r : ERep X J σ H env) (q : PSt X J Dn σ H (.err x dv p)) : ErrP J σ H x dv p := fun H' C dd y e s c z r' => q σ H' C dd y (r.ext.trans e) s c z r'
theorem onV_logic {me : ME} {k : D → En → P3 → Res (Fl × En)} {Dn : Ends} {σ : St} {H : Hp} {Q : VK} (h : tS X J (onV me k) Dn σ H)
    (hq : ∀ env d p1 H1 v, ERep X J σ H1 env → StR J.g H1 p1 → J.R σ H1 v d → PSt X J Dn σ H1 (k d env p1) → Q v H1) : tV J me σ H Q := by
  obtain ⟨env, p, r, s, q⟩ := h
  refine ⟨vwOf env, p, r.vrep, s, ?_⟩
  unfold onV at q
  cases e1 : me (vwOf env) p with
  | bad => rw [e1] at q; exact q
  | err x dv p1 => rw [e1] at q; exact err_st r q
  | ok d p1 =>
    rw [e1] at q
    exact fun H1 v x1 s1 r1 => hq env d p1 H1 v (r.ext1 x1) s1 r1 (PSt.at_ (show PSt X J Dn σ H (k d env p1) from q) x1.hard)
def sRet (me : ME) : MS := onV me fun d env p => .ok (.ret d, env) p
theorem vs_ret {me : ME} {base : Heap} {k : Nat} (F : Fr0 X J base k) (h : VE X J e me) (pl : ∀ H, (J.co H).le coN := by intro _; exact .refl) : VS X J (.Return (some e) pos) (sRet me) :=
  ps_imp (ps_ret h) fun Dn σ H q => onV_logic q fun env d p1 H1 v r s rv q => q H1 v r.ext s (plain1 pl rv)
def sRetN : MS := fun env p => .ok (.ret .non, env) p
theorem vs_retN : VS X J (.Return none pos) sRetN := ps_imp ps_retN fun Dn σ H ⟨env, p, r, s, q⟩ => q H _ r.ext s .non
def sExpr (me : ME) : MS := onV me fun _ env p => .ok (.nx, env) p
theorem vs_expr {me : ME} (h : VE X J e me) (hs : swapsWith e none pos.line X.env = pure false := by rfl) : VS X J (.Expr e pos) (sExpr me) :=
  ps_imp (ps_expr h hs) fun Dn σ H q => onV_logic q fun env d p1 H1 v r s rv q => q σ H1 r s .refl
theorem vs_doc {x : Str} {j : Nat} {pos' : Pos} : VS X J (.Expr (.Constant (.str x) j pos) pos') sPass := ps_imp ps_doc fun Dn σ H ⟨env, p, r, s, q⟩ => q σ H r s .refl
def sIf (c : MB) (m n : MS) : MS := fun env p => match c (vwOf env) p with
  | .ok true p1 => m env p1
  | .ok false p1 => n env p1
  | .err x v p1 => .err x v p1
  | .bad => .bad
theorem vs_if {c : Expr} {a b : List Stmt} {mc : MB} (hc : VT X J c mc) (ha : VSs X J a m) (hb : VSs X J b n) : VS X J (.If c a b pos) (sIf mc m n) := by
  refine ps_imp (ps_if hc ha hb) fun Dn σ H ⟨env, p, r, s, q⟩ => ⟨vwOf env, p, r.vrep, s, ?_⟩
  unfold sIf at q
  cases e1 : mc (vwOf env) p with
  | bad => rw [e1] at q; exact q
  | err x dv p1 => rw [e1] at q; exact err_st r q
  | ok d p1 =>
    rw [e1] at q
    intro H1 x1 s1
    have go : ∀ {m : MS}, PSt X J Dn σ H (m env p1) → tS X J m Dn σ H1 := fun {m} q => ⟨env, p1, r.ext1 x1, s1, PSt.at_ q x1.hard⟩
    cases d with
    | true => rw [if_pos rfl]; exact go q
    | false => rw [if_neg Bool.false_ne_true]; exact go q
/-! stores -/
theorem ERep.set {σ : St} {H : Hp} {env : En} {i : Nat} {v : V} {d : D} (r : ERep X J σ H env) (rv : J.R σ H v d) : ERep X J (σ.set i (some v)) H (env.set i (some (.p d))) := by
  refine ⟨by rw [List.length_set, List.length_set, r.len], fun j sl h => ?_, fun a b c hab ha hb => ?_, r.ext⟩
  · by_cases hj : i = j
    · subst hj
      by_cases hl : i < env.length
      · rw [List.getElem?_set_self hl] at h
        cases h
        exact ⟨v, by rw [List.getElem?_set_self (by rw [← r.len]; exact hl)], rv⟩
      · rw [List.getElem?_eq_none (by rw [List.length_set]; exact Nat.le_of_not_lt hl)] at h
        cases h
    · rw [List.getElem?_set_ne hj] at h
      have q := r.slot j sl h
      cases sl with
      | p d' =>
        obtain ⟨v', h1, h2⟩ := q
        exact ⟨v', by rw [List.getElem?_set_ne hj]; exact h1, h2⟩
      | l ds =>
        obtain ⟨a, xs, h1, h2, h3, h4⟩ := q
        exact ⟨a, xs, by rw [List.getElem?_set_ne hj]; exact h1, h2, h3, h4⟩
  · have no : ∀ j, isOwn (env.set i (some (.p d))) j → j ≠ i ∧ isOwn env j := fun j ⟨ds, h⟩ => by
      by_cases hj : i = j
      · subst hj
        by_cases hl : i < env.length
        · rw [List.getElem?_set_self hl] at h; cases h
        · rw [List.getElem?_eq_none (by rw [List.length_set]; exact Nat.le_of_not_lt hl)] at h; cases h
      · rw [List.getElem?_set_ne hj] at h
        exact ⟨fun z => hj z.symm, ds, h⟩
    obtain ⟨n1, o1⟩ := no a ha
    obtain ⟨n2, o2⟩ := no b hb
    rw [List.getElem?_set_ne (Ne.symm n1), List.getElem?_set_ne (Ne.symm n2)]
    exact r.dist a b c hab o1 o2
def setE (env : En) (i : Nat) (sl : Sl) : En := env.set i (some sl)
def sSet (i : Nat) (me : ME) : MS := onV me fun d env p => .ok (.nx, setE env i (.p d)) p
theorem vs_set {i : Nat} {x : Str} {me : ME} {pos' : Pos} (hN : X.N.Nodup) (he : VE X J e me) (hi : X.N[i]? = some x := by rfl) (hx : Loc X.env.scope x := by first | exact Or.inl rfl | exact Or.inr rfl) (hs : swapsWith e (some (.Name x pos')) pos.line X.env = pure false := by rfl)
    (hfn : X.fn x = true ∨ X.env.scope.names.lookup x = some .local := by first | exact .inl rfl | exact .inr rfl) : VS X J (.Assign [.Name x pos'] e pos) (sSet i me) :=
  ps_imp (ps_set hN hi hx he hs hfn) fun Dn σ H q => onV_logic q fun env d p1 H1 v r s rv q => q _ _ (r.set rv) s .refl
end
end VL

namespace VL
open PySem PySem.Spec PyProof.Rows L2 LamX
def env0 (n : Nat) (ds : List D) : En := ds.map (fun d => some (.p d)) ++ List.replicate (n - ds.length) none
def outF (r : Res (Fl × En)) : Res D := match r with
  | .ok (.ret d, _) p => .ok d p
  | .ok (.nx, _) p => .ok .non p
  | .ok _ _ => .bad
  | .err x v p => .err x v p
  | .bad => .bad
def callF (n np : Nat) (m : MS) : List D → P3 → Res D := fun ds p => if ds.length = np then outF (m (env0 n ds) p) else .bad
theorem start_get {N : List Str} {vs : List V} {i : Nat} {v : V} (hl : vs.length ≤ N.length) (h : vs[i]? = some v) : (L2.start N vs)[i]? = some (some v) := by
  unfold L2.start
  have hi : i < vs.length := (List.getElem?_eq_some_iff.mp h).1
  rw [List.getElem?_append_left (by rw [List.length_map]; exact hi), List.getElem?_map, h]
  rfl
section
variable {P : Program} {w : World} {base : Heap} {g : Gx} {k : Nat} {x qual : Str} {st : Stmt} {f : Addr} {fd : FuncData} {N ps : List Str} {m : MS}
theorem fnp_of (F : L2.Fun g.K x qual st f fd) (S : FnScope N ps (L2.defScope st))
    (hbody : ∀ (cdv : Value) (A : Around) (outer : List Env) (s : Shared) (H : Hp) (E : XK), Fr0 (cxOf (L2.CX P w) P w g.K g.mg base N qual (L2.defScope st) f cdv A outer s H E) (jP g fun cls d _ H' => E cls d H') base k →
      VSs (cxOf (L2.CX P w) P w g.K g.mg base N qual (L2.defScope st) f cdv A outer s H E) (jP g fun cls d _ H' => E cls d H') (L2.defBody st) m) : FnP P w base g (k + 1) f fd ps (callF N.length ps.length m) := by
  refine ⟨fun ds p h => if_neg h, fun A outer s H args us vs ds p Q E hr gd e0 hb r rd stp q => ?_⟩
  obtain ⟨oc, od, kV, doc, pm, an, cdv, ct, osl, rfl, lk, hcd⟩ := F.ex
  unfold callF at q
  by_cases hl : ds.length = ps.length
  · rw [if_pos hl] at q
    have hpl : ps.length ≤ N.length := by have := congrArg List.length S.pre; rw [List.length_take] at this; omega
    let sp : Sp := fun vs' H' Q' E' => vs'.length = ps.length ∧ Room (k + 1) A
    have KX : g.K.In s.heap := e0.mod.kin.keeps fun b o e => (e0.bs b o e).1
    have lim : s.heap.NoLimit := e0.mod.nolimit.keeps fun b o e => (e0.bs b o e).1
    have hkind : ∀ y ∈ ps.zip us, (L2.defScope st).names.lookup y.1 = some .local ∨ ((L2.defScope st).names.lookup y.1 = some .cell ∧ ((cellsFrom (s.heap.objs.size + 1) (L2.defScope st).names []).lookup y.1).isSome = true) := fun ⟨n, v⟩ hy => by
      rcases S.par n (List.of_mem_zip hy).1 with z | z
      · exact .inl z
      · exact .inr ⟨z, PySem.W.cellsFrom_some _ _ _ (.inl z)⟩
    have hvl : vs.length = ps.length := by rw [rd.length, hl]
    refine codeAny_call_function hr.depth (KX _ _ lk) rfl S.co S.gen rfl (PySem.W.codeRec_of KX hcd) (hb _ _ _ _ ?_)
    refine wpAny_newFunctionEnv_cells S.kind hkind fun env he s1 xx => ?_
    subst he
    refine ⟨lim.keeps xx.toInCall.keep, codeAny_func ?_⟩
    have I : Inv (cxOf (L2.CX P w) P w g.K g.mg base N qual (L2.defScope st) f cdv A outer s H E) [] (L2.start N vs) H s1 := inv_start S hr.hd e0 hvl r xx
    have F0 : Fr0 (cxOf (L2.CX P w) P w g.K g.mg base N qual (L2.defScope st) f cdv A outer s H E) (jP g fun cls d _ H' => E cls d H') base k :=
      ⟨rfl, rfl, rfl, takes_of rfl rfl rfl rfl, hr.deeper _, gd, rfl⟩
    have er : ERep (cxOf (L2.CX P w) P w g.K g.mg base N qual (L2.defScope st) f cdv A outer s H E) (jP g fun cls d _ H' => E cls d H') (L2.start N vs) H (env0 N.length ds) := by
      refine ⟨?_, fun i sl h => ?_, fun i j a _ ⟨ds', h⟩ => ?_, .refl⟩
      · unfold env0 L2.start
        rw [List.length_append, List.length_append, List.length_map, List.length_map, List.length_replicate, List.length_replicate, rd.length]
      · unfold env0 at h
        by_cases hi : i < ds.length
        · rw [List.getElem?_append_left (by rw [List.length_map]; exact hi), List.getElem?_map, List.getElem?_eq_getElem hi] at h
          cases h
          obtain ⟨v, h1, h2⟩ := rd.get (List.getElem?_eq_getElem hi)
          exact ⟨v, start_get (by omega) h1, h2⟩
        · rw [List.getElem?_append_right (by rw [List.length_map]; omega), List.getElem?_replicate] at h
          split at h <;> cases h
      · unfold env0 at h
        by_cases hi : i < ds.length
        · rw [List.getElem?_append_left (by rw [List.length_map]; exact hi), List.getElem?_map, List.getElem?_eq_getElem hi] at h
          cases h
        · rw [List.getElem?_append_right (by rw [List.length_map]; omega), List.getElem?_replicate] at h
          split at h <;> cases h
    have hrun := (hbody cdv A outer s H E F0).run [] s1 (L2.start N vs) H { nx := fun _ H' => Q .non H', rt := Q } I ⟨_, p, er, stp, ?_⟩
    · refine wpAny_mono hrun (fun fl s' hs => ?_) fun e s' hs => hs
      have fin : ∀ {σ' : St} {H' : Hp} {v : V} {u : Value}, Inv (cxOf (L2.CX P w) P w g.K g.mg base N qual (L2.defScope st) f cdv A outer s H E) [] σ' H' s' → RelV v u → Q v H' → CE outer P w H s Q u s' :=
        fun {σ' H' v u} J rv z => ⟨v, H', J.os, J.bare, J.base, J.hok, rv, z⟩
      cases fl with
      | ret u => obtain ⟨v, σ', H', J, rv, z⟩ := hs; exact fin J rv z
      | next => obtain ⟨σ', H', J, z⟩ := hs; exact fin (v := V.non) (u := Value.none) J rfl z
      | brk => obtain ⟨_, _, _, z⟩ := hs; exact False.elim z
      | cont => obtain ⟨_, _, _, z⟩ := hs; exact False.elim z
    · unfold outF at q
      cases e1 : m (env0 N.length ds) p with
      | bad => rw [e1] at q; exact q
      | err y dv p1 => rw [e1] at q; exact fun σ H' C dd y' e s c z r => q H' C dd y' e s c z r
      | ok fe p1 =>
        obtain ⟨fl, env1⟩ := fe
        rw [e1] at q
        cases fl with
        | nx => exact fun σ H' r s _ => q H' .non r.ext s .non
        | ret d => exact fun H' v e s r => q H' v e s r
        | bk => exact q.elim
        | ct => exact q.elim
        | rtl d => exact q.elim
  · rw [if_neg hl] at q
    exact q.elim
end
/-! ### targets -/
section
variable {X : Cx} {J : Jc} {base : Heap} {k : Nat} {e : Expr} {pos : Pos}
/-- a, b, .. = a tuple: names by slots -/
def putAll : List Nat → List D → En → Option En
  | [], [], env => some env
  | i :: is, d :: ds, env => putAll is ds (setE env i (.p d))
  | _, _, _ => none
/-- names as targets -/
inductive TNames (X : Cx) : List Expr → List Nat → TGs → Prop where
  | nil : TNames X [] [] gNil
  | cons {i : Nat} {es : List Expr} {is : List Nat} {t : TG} {e : Expr} {u : TGs} : PG X e (gName i) → t = gName i → TNames X es is u → PGs X (e :: es) (gCons t u) → TNames X (e :: es) (i :: is) (gCons t u)
theorem tn_nil : TNames X [] [] gNil := .nil
theorem tn_pgs {es : List Expr} {is : List Nat} {u : TGs} (h : TNames X es is u) : PGs X es u := by
  cases h with
  | nil => exact pgs_nil
  | cons _ _ _ h => exact h
theorem tn_cons {i : Nat} {es : List Expr} {is : List Nat} {x : Str} {pos' : Pos} {u : TGs} (hN : X.N.Nodup) (h : TNames X es is u) (hi : X.N[i]? = some x := by rfl) (hx : Loc X.env.scope x := by first | exact Or.inl rfl | exact Or.inr rfl)
    (hfn : X.fn x = true ∨ X.env.scope.names.lookup x = some .local := by first | exact .inl rfl | exact .inr rfl) (hs : (assignEach (.Name x pos' :: es) X.env).map (·.2) = assign (.Name x pos') X.env :: (assignEach es X.env).map (·.2) := by rfl) : TNames X (.Name x pos' :: es) (i :: is) (gCons (gName i) u) :=
  .cons (pg_name hN hi hx hfn) rfl h (pgs_cons (pg_name hN hi hx hfn) (tn_pgs h) hs)
theorem tn_run {es : List Expr} {is : List Nat} {u : TGs} (h : TNames X es is u) : ∀ {vs : List V} {ds : List D} {σ : St} {H : Hp} {env env' : En} {Q : St → Hp → Prop}, J.RL σ H vs ds → ERep X J σ H env → putAll is ds env = some env' → (∀ σ', ERep X J σ' H env' → Q σ' H) → u vs σ H Q := by
  induction h with
  | nil =>
    intro vs ds σ H env env' Q r er hp q
    cases ds with
    | nil =>
      cases r
      cases hp
      exact ⟨rfl, q σ er⟩
    | cons d ds => cases hp
  | @cons i es is t e u _ ht _ _ ih =>
    intro vs ds σ H env env' Q r er hp q
    subst ht
    cases ds with
    | nil => cases hp
    | cons d ds =>
      cases r with
      | cons r1 r2 =>
        refine ⟨_, _, rfl, ?_⟩
        exact ih r2 (er.set r1) hp q
def sTupSet (is : List Nat) (me : ME) : MS := onV me fun d env p => match d with
  | .tup ds => match putAll is ds env with
    | some env' => .ok (.nx, env') p
    | none => .bad
  | _ => .bad
theorem putAll_len : ∀ {is : List Nat} {ds : List D} {env env' : En}, putAll is ds env = some env' → ds.length = is.length
  | [], [], _, _, _ => rfl
  | i :: is, d :: ds, env, env', h => congrArg (· + 1) (putAll_len (is := is) (ds := ds) h)
  | [], _ :: _, _, _, h => by cases h
  | _ :: _, [], _, _, h => by cases h
theorem vs_tup {es : List Expr} {is : List Nat} {u : TGs} {me : ME} {j : Nat} {tpos : Pos} (hc : X.calm = true) (hK : J.g.K = X.K) (ht : TNames X es is u) (he : VE X J e me) (hn : (assignEach es X.env).length = is.length := by rfl) (hst : (assignEach es X.env).findIdx? (·.1) = none := by rfl)
    (hs : swapsWithSole [.Tuple es j tpos] e pos.line X.env = pure false := by rfl) (hw : swappedStores [.Tuple es j tpos] e X.env = pure none := by rfl) (h1 : (assignEach [.Tuple es j tpos] X.env).map (·.2) = [assign (.Tuple es j tpos) X.env] := by rfl) :
    VS X J (.Assign [.Tuple es j tpos] e pos) (sTupSet is me) := by
  refine ps_imp (ps_asg he (pg_tup hc (tn_pgs ht) hn hst) hs hw h1) fun Dn σ H q => onV_logic q fun env d p1 H1 v r s rv q => ?_
  cases d with
  | tup ds =>
    cases rv with
    | tup sq rl =>
      simp only at q
      cases e1 : putAll is ds env with
      | none => rw [e1] at q; exact q.elim
      | some env' =>
        rw [e1] at q
        exact ⟨_, _, rfl, hK ▸ sq, by rw [rl.length, putAll_len e1], tn_run ht rl r e1 fun σ' er => q σ' H1 er s .refl⟩
  | _ => exact q.elim
end
end VL

namespace VL
open PySem PySem.Spec PyProof.Rows L2 LamX
/-! ### what is walked -/
structure Feeds (J : Jc) (H0 : Hp) (I : It) (ds : List D) : Prop where
  go : ∀ i H, Ext1 H0 H → i < ds.length → I.go i H
  stop : ∀ H, Ext1 H0 H → I.stop ds.length H
  yld : ∀ i H x H' d, Ext1 H0 H → ds[i]? = some d → I.yld i H x H' → Grow H H' ∧ J.R [] H' x d
def PI3 (J : Jc) (σ : St) (H : Hp) (R : It → Hp → Prop) : Res (List D) → Prop
  | .ok ds p => ∀ (H' : Hp) (I : It), Ext J.g H H' → StR J.g H' p → Feeds J H' I ds → ds.length ≤ sizeLine → R I H'
  | .err x dv p => ErrP J σ H x dv p
  | .bad => False
def tI (J : Jc) (m : MA) : TI := fun σ H R => ∃ vw p, VRep J σ H vw ∧ StR J.g H p ∧ PI3 J σ H R (m vw p)
abbrev VI (X : Cx) (J : Jc) (tg e : Expr) (m : MA) : Prop := PI X tg e (tI J m)
def irange (lo hi : Int) : List D := (List.range (hi - lo).toNat).map fun (i : Nat) => D.int (lo + (i : Int))
def rgOk (lo hi : Int) : Bool := decide (-(2 ^ 62) ≤ lo) && decide (lo < 2 ^ 62) && decide (-(2 ^ 62) ≤ hi) && decide (hi < 2 ^ 62) && decide (hi - lo ≤ 16777216)
def mIter (m : ME) : MA := fun vw p => (m vw p).bind fun d p1 => match d with
  | .lst ds => .ok ds p1
  | .tup ds => .ok ds p1
  | .scr ns => .ok (ns.map D.int) p1
  | .rng lo hi => if rgOk lo hi then .ok (irange lo hi) p1 else .bad
  | _ => .bad
section
variable {X : Cx} {J : Jc} {tg e : Expr} {m : ME} {ms : MA} {pos : Pos}
theorem scrL (g : Gx) (co : CO) (H : Hp) : ∀ l : List Int, RepL g co H (l.map V.int) (l.map D.int)
  | [] => .nil
  | x :: l => .cons (.int x) (scrL g co H l)
theorem feeds_list {H0 : Hp} {a : Addr} {xs : List V} {ds : List D} (h : ∀ H, Ext1 H0 H → SqL X.K H a xs) (r : RepL J.g (J.co H0) H0 xs ds) : Feeds J H0 (Itl X.K a) ds := by
  refine ⟨fun i H e hi => ?_, fun H e => ⟨xs, h H e, by rw [r.length]; exact Nat.le_refl _⟩, fun i H x H' d e hd y => ?_⟩
  · obtain ⟨v, h1, _⟩ := r.get (List.getElem?_eq_getElem hi)
    exact ⟨xs, v, h H e, h1⟩
  · obtain ⟨rfl, y⟩ := y
    obtain ⟨v, h1, h2⟩ := r.get hd
    have w := y xs (h _ e)
    rw [h1] at w
    cases w
    exact ⟨fun _ _ k => k, h2.ext e (J.coE _ _ e)⟩
theorem feeds_tup {H0 : Hp} {a : Addr} {xs : List V} {ds : List D} (h : ∀ H, Ext1 H0 H → SqT X.K H a xs) (r : RepL J.g (J.co H0) H0 xs ds) : Feeds J H0 (Itt X.K a) ds := by
  refine ⟨fun i H e hi => ?_, fun H e => ⟨xs, h H e, by rw [r.length]; exact Nat.le_refl _⟩, fun i H x H' d e hd y => ?_⟩
  · obtain ⟨v, h1, _⟩ := r.get (List.getElem?_eq_getElem hi)
    exact ⟨xs, v, h H e, h1⟩
  · obtain ⟨rfl, y⟩ := y
    obtain ⟨v, h1, h2⟩ := r.get hd
    have w := y xs (h _ e)
    rw [h1] at w
    cases w
    exact ⟨fun _ _ k => k, h2.ext e (J.coE _ _ e)⟩
theorem irange_len (lo hi : Int) : (irange lo hi).length = (hi - lo).toNat := by unfold irange; simp
theorem feeds_range {H0 : Hp} (lo hi : Int) : Feeds J H0 (Itr lo (hi - lo).toNat) (irange lo hi) := by
  refine ⟨fun i H e hi => by rw [irange_len] at hi; exact hi, fun H e => by rw [irange_len]; exact Nat.le_refl _, fun i H x H' d e hd y => ?_⟩
  obtain ⟨rfl, rfl⟩ := y
  unfold irange at hd
  rw [List.getElem?_map] at hd
  cases h : (List.range (hi - lo).toNat)[i]? with
  | none => rw [h] at hd; cases hd
  | some j =>
    rw [h] at hd
    cases hd
    have := List.getElem?_eq_some_iff.mp h
    obtain ⟨h1, h2⟩ := this
    rw [List.getElem_range] at h2
    subst h2
    exact ⟨fun _ _ k => k, .int _⟩
theorem rg_ok {lo hi : Int} (h : rgOk lo hi = true) : (-(2 ^ 62) ≤ lo ∧ lo < 2 ^ 62 ∧ -(2 ^ 62) ≤ hi ∧ hi < 2 ^ 62) ∧ (hi - lo).toNat ≤ sizeLine := by
  unfold rgOk at h
  simp only [Bool.and_eq_true, decide_eq_true_eq] at h
  obtain ⟨⟨⟨⟨h1, h2⟩, h3⟩, h4⟩, h5⟩ := h
  rw [sizeLine_eq]
  exact ⟨⟨h1, h2, h3, h4⟩, by omega⟩
/-- a list, a tuple -/
theorem vi_seq (hK : J.g.K = X.K) (h : VE X J e m) : VI X J tg e (mIter m) := by
  refine ⟨fun pins s σ H R I ⟨vw, p, rr, st, q⟩ => ?_⟩
  refine thn (h.run pins s σ H (fun v H1 => ∃ d p1, Ext J.g H H1 ∧ StR J.g H1 p1 ∧ J.R σ H1 v d ∧ PI3 J σ H R (match d with | .lst ds => .ok ds p1 | .tup ds => .ok ds p1 | .scr ns => .ok (ns.map D.int) p1 | .rng lo hi => if rgOk lo hi then .ok (irange lo hi) p1 else .bad | _ => .bad)) I ⟨vw, p, rr, st, ?_⟩) fun u s1 ⟨v, H1, I1, r1, d, p1, x1, s1', rd, q1⟩ => ?_
  · unfold mIter at q
    cases e1 : m vw p with
    | bad => rw [e1] at q; exact q.elim
    | err x dv p1 => rw [e1] at q; exact q
    | ok d p1 => rw [e1] at q; exact fun H1 v x1 s1 r1 => ⟨d, p1, x1, s1, r1, q⟩
  · have lst : ∀ {a : Addr} {xs : List V} {ds : List D}, v = .ref a → (∀ H, Ext1 H1 H → SqL X.K H a xs) → RepL J.g (J.co H1) H1 xs ds → PI3 J σ H R (.ok ds p1) → wpAny (model X.prog X.w) X.A (pyIter u) (PIE X pins σ tg R) X.xe s1 := fun {a xs ds} ev hq r q => by
      subst ev
      cases r1
      obtain ⟨its, rv, pl, hz⟩ := I1.list (hq H1 .refl)
      refine wpAny_pyIter_list pl.isList ?_
      refine ⟨s1.heap.objs.size, [s1.heap.objs.size], _, _, H1, rfl, I1.kept (t' := s1.toks) fun b o e => Heap.get?_push_of_some _ e, turn_list a _, ⟨_, Heap.get?_push_size _ rfl, rfl, rfl⟩, fun b hb => ?_, q H1 _ x1 s1' (feeds_list hq r) (by rw [← r.length]; exact hz)⟩
      have e : b = s1.heap.objs.size := by simpa using hb
      subst e
      exact I1.fpOk (Nat.le_refl _) (I1.hok.fresh (Nat.le_refl _))
    have tup : ∀ {a : Addr} {xs : List V} {ds : List D}, v = .ref a → (∀ H, Ext1 H1 H → SqT X.K H a xs) → RepL J.g (J.co H1) H1 xs ds → PI3 J σ H R (.ok ds p1) → wpAny (model X.prog X.w) X.A (pyIter u) (PIE X pins σ tg R) X.xe s1 := fun {a xs ds} ev hq r q => by
      subst ev
      cases r1
      obtain ⟨its, rv, pl, hz⟩ := I1.tuple (hq H1 .refl)
      refine wpAny_pyIter_tuple (show s1.heap.IsTuple a its.toArray from pl) ?_
      refine ⟨s1.heap.objs.size, [s1.heap.objs.size], _, _, H1, rfl, I1.kept (t' := s1.toks) fun b o e => Heap.get?_push_of_some _ e, turn_tuple a _, ⟨_, Heap.get?_push_size _ rfl, rfl, rfl⟩, fun b hb => ?_, q H1 _ x1 s1' (feeds_tup hq r) (by rw [← r.length]; exact hz)⟩
      have e : b = s1.heap.objs.size := by simpa using hb
      subst e
      exact I1.fpOk (Nat.le_refl _) (I1.hok.fresh (Nat.le_refl _))
    cases d with
    | lst ds =>
      cases rd with
      | lst sq r => exact lst rfl (fun H e => (FzL.ext e sq).sq) r q1
    | tup ds =>
      cases rd with
      | tup sq r => exact tup rfl (fun H e => by rw [← hK]; exact sqT_ext e sq) r q1
    | scr ns =>
      cases rd with
      | scr h =>
        rcases h with ⟨o, h⟩ | h
        · exact lst rfl (fun H e => (FzL.ext e ⟨o, h⟩).sq) (scrL _ _ _ ns) q1
        · exact lst rfl (fun H e => by rw [← hK]; exact h H) (scrL _ _ _ ns) q1
    | rng lo hi =>
      simp only at q1
      split at q1
      · rename_i hc
        obtain ⟨⟨h1, h2, h3, h4⟩, h5⟩ := rg_ok hc
        cases rd with
        | @rng a _ _ hr =>
          cases r1
          obtain ⟨t1, t2, t3, ho⟩ := I1.hok a _ hr
          refine wpAny_pyIter_range (show IsRange s1.heap a lo hi 1 t1 t2 t3 from ho) (small_one h1 h2 h3 h4) ?_
          refine ⟨s1.heap.objs.size, [s1.heap.objs.size], _, _, H1, rfl, I1.kept (t' := s1.toks) fun b o e => Heap.get?_push_of_some _ e, turn_range _ lo (hi - lo).toNat, ?_, fun b hb => ?_, q1 H1 _ x1 s1' (feeds_range lo hi) (by rw [irange_len]; exact h5)⟩
          · have e1 : lo + ((0 : Nat) : Int) * 1 = lo := by simp
            have e2 : (((hi - lo).toNat : Nat) : Int) - ((0 : Nat) : Int) = Builtin.Range.rangeSize lo hi 1 := by rw [rangeSize_one]; split <;> omega
            show IsRangeIter _ _ (lo + ((0 : Nat) : Int) * 1) ((((hi - lo).toNat : Nat) : Int) - ((0 : Nat) : Int)) 1
            rw [e1, e2]
            exact Heap.get?_push_size _ rfl
          · have e : b = s1.heap.objs.size := by simpa using hb
            subst e
            exact I1.fpOk (Nat.le_refl _) (I1.hok.fresh (Nat.le_refl _))
      · exact q1.elim
    | _ => exact q1.elim
/-- range(a), range(a, b) -/
def mRange1 (ms : MA) : MA := fun vw p => (ms vw p).bind fun ds p1 => match ds with
  | [.int hi] => if rgOk 0 hi then .ok (irange 0 hi) p1 else .bad
  | _ => .bad
def mRange2 (ms : MA) : MA := fun vw p => (ms vw p).bind fun ds p1 => match ds with
  | [.int lo, .int hi] => if rgOk lo hi then .ok (irange lo hi) p1 else .bad
  | _ => .bad
theorem vi_range1 {a : Expr} {p : Pos} (hm : X.mg "range" = none) (ha : VA X J [a] ms) (hg : Gl X "range" := by rfl) (hs : starEach [a] X.env = [(false, eval a X.env)] := by rfl) : VI X J tg (.Call (.Name "range" p) [a] [] pos) (mRange1 ms) := by
  refine ⟨fun pins s σ H R I h => (pi_range1 hg hm ha hs).run pins s σ H R I ?_⟩
  obtain ⟨vw, p, rr, st, q⟩ := h
  refine ⟨vw, p, rr, st, ?_⟩
  unfold mRange1 at q
  cases e1 : ms vw p with
  | bad => rw [e1] at q; exact q.elim
  | err x dv p1 => rw [e1] at q; exact q
  | ok ds p1 =>
    rw [e1] at q
    intro H1 vs x1 s1 r1
    simp only [Res.bind] at q
    split at q
    · split at q
      · rename_i hc
        obtain ⟨⟨h1, h2, h3, h4⟩, h5⟩ := rg_ok hc
        cases r1 with
        | cons r1 r2 =>
          cases r2; cases r1
          have w := q H1 _ x1 s1 (feeds_range 0 _) (by rw [irange_len]; exact h5)
          rw [Int.sub_zero] at w
          exact ⟨_, rfl, h3, h4, w⟩
      · exact q.elim
    · exact q.elim
theorem vi_range2 {a b : Expr} {p : Pos} (hm : X.mg "range" = none) (ha : VA X J [a, b] ms) (hg : Gl X "range" := by rfl) (hs : starEach [a, b] X.env = [(false, eval a X.env), (false, eval b X.env)] := by rfl) (hs2 : starEach [b] X.env = [(false, eval b X.env)] := by rfl) :
    VI X J tg (.Call (.Name "range" p) [a, b] [] pos) (mRange2 ms) := by
  refine ⟨fun pins s σ H R I h => (pi_range2 hg hm ha hs hs2).run pins s σ H R I ?_⟩
  obtain ⟨vw, p, rr, st, q⟩ := h
  refine ⟨vw, p, rr, st, ?_⟩
  unfold mRange2 at q
  cases e1 : ms vw p with
  | bad => rw [e1] at q; exact q.elim
  | err x dv p1 => rw [e1] at q; exact q
  | ok ds p1 =>
    rw [e1] at q
    intro H1 vs x1 s1 r1
    simp only [Res.bind] at q
    split at q
    · split at q
      · rename_i hc
        obtain ⟨h1, h5⟩ := rg_ok hc
        cases r1 with
        | cons r1 r2 =>
          cases r2 with
          | cons r2 r3 =>
            cases r3; cases r2; cases r1
            exact ⟨_, _, rfl, h1, q H1 _ x1 s1 (feeds_range _ _) (by rw [irange_len]; exact h5)⟩
      · exact q.elim
    · exact q.elim
/-! ### comprehensions -/
def wipeV (vw : Vw) : List Nat → Vw
  | [] => vw
  | v :: vs => (wipeV vw vs).set v none
theorem wipe_at (σ : St) : ∀ (vs : List Nat) (j : Nat), (wipe σ vs)[j]? = if j ∈ vs ∧ j < σ.length then some none else σ[j]?
  | [], j => by simp [wipe]
  | v :: vs, j => by
    unfold wipe
    by_cases hj : v = j
    · subst hj
      by_cases hl : v < σ.length
      · rw [List.getElem?_set_self (by rw [wipe_length]; exact hl), if_pos ⟨List.mem_cons_self, hl⟩]
      · rw [List.getElem?_eq_none (by rw [List.length_set, wipe_length]; exact Nat.le_of_not_lt hl), if_neg (fun z => hl z.2), List.getElem?_eq_none (Nat.le_of_not_lt hl)]
    · rw [List.getElem?_set_ne hj, wipe_at σ vs j]
      have : (j ∈ v :: vs) ↔ j ∈ vs := by simp only [List.mem_cons]; exact ⟨fun z => z.elim (fun e => absurd e.symm hj) id, .inr⟩
      by_cases hm : j ∈ vs ∧ j < σ.length
      · rw [if_pos hm, if_pos ⟨this.mpr hm.1, hm.2⟩]
      · rw [if_neg hm, if_neg fun z => hm ⟨this.mp z.1, z.2⟩]
theorem wipe_set {σ : St} {vs : List Nat} {i : Nat} (h : i ∈ vs) (x : Option V) : wipe (σ.set i x) vs = wipe σ vs := by
  apply List.ext_getElem?
  intro j
  rw [wipe_at, wipe_at, List.length_set]
  by_cases hj : i = j
  · subst hj
    by_cases hl : i < σ.length
    · rw [if_pos ⟨h, hl⟩, if_pos ⟨h, hl⟩]
    · rw [if_neg (fun z => hl z.2), if_neg (fun z => hl z.2), List.getElem?_eq_none (by rw [List.length_set]; exact Nat.le_of_not_lt hl), List.getElem?_eq_none (Nat.le_of_not_lt hl)]
  · rw [List.getElem?_set_ne hj]
theorem wipe_wipe (σ : St) (vs : List Nat) : wipe (wipe σ vs) vs = wipe σ vs := by
  apply List.ext_getElem?
  intro j
  rw [wipe_at, wipe_at, wipe_length]
  by_cases h : j ∈ vs ∧ j < σ.length
  · rw [if_pos h, if_pos h]
  · rw [if_neg h, if_neg h]
theorem wipeV_len (vw : Vw) : ∀ vs : List Nat, (wipeV vw vs).length = vw.length
  | [] => rfl
  | v :: vs => by unfold wipeV; rw [List.length_set, wipeV_len vw vs]
theorem wipeV_get {vw : Vw} {d : D} : ∀ {vs : List Nat} {j : Nat}, (wipeV vw vs)[j]? = some (some d) → vw[j]? = some (some d) ∧ j ∉ vs
  | [], j, h => ⟨h, by simp⟩
  | v :: vs, j, h => by
    unfold wipeV at h
    by_cases hj : v = j
    · subst hj
      by_cases hl : v < (wipeV vw vs).length
      · rw [List.getElem?_set_self hl] at h; cases h
      · rw [List.getElem?_eq_none (by rw [List.length_set]; exact Nat.le_of_not_lt hl)] at h; cases h
    · rw [List.getElem?_set_ne hj] at h
      obtain ⟨h1, h2⟩ := wipeV_get h
      exact ⟨h1, by simp only [List.mem_cons, not_or]; exact ⟨fun z => hj z.symm, h2⟩⟩
theorem VRep.wipe {σ : St} {H : Hp} {vw : Vw} {vs : List Nat} (r : VRep J σ H vw) : VRep J (wipe σ vs) H (wipeV vw vs) := ⟨by rw [wipeV_len, wipe_length]; exact r.len, fun i d h => by
  obtain ⟨h1, h2⟩ := wipeV_get h
  obtain ⟨v, e, rv⟩ := r.at_ i d h1
  exact ⟨v, by rw [wipe_at, if_neg (fun z => h2 z.1)]; exact e, rv⟩⟩
/-- binding of an item: to names of the block -/
def bName (i : Nat) : D → Vw → Option Vw := fun d vw => some (vw.set i (some d))
def putV : List Nat → List D → Vw → Option Vw
  | [], [], vw => some vw
  | i :: is, d :: ds, vw => putV is ds (vw.set i (some d))
  | _, _, _ => none
def bTup (is : List Nat) : D → Vw → Option Vw := fun d vw => match d with
  | .tup ds => putV is ds vw
  | _ => none
theorem VRep.set {σ : St} {H : Hp} {vw : Vw} {i : Nat} {v : V} {d : D} (r : VRep J σ H vw) (rv : J.R σ H v d) : VRep J (σ.set i (some v)) H (vw.set i (some d)) := ⟨by rw [List.length_set, List.length_set]; exact r.len, fun j d' h => by
  by_cases hj : i = j
  · subst hj
    by_cases hv : i < vw.length
    · rw [List.getElem?_set_self hv] at h
      cases h
      exact ⟨v, List.getElem?_set_self (Nat.lt_of_lt_of_le hv r.len), rv⟩
    · rw [List.getElem?_eq_none (by rw [List.length_set]; exact Nat.le_of_not_lt hv)] at h; cases h
  · rw [List.getElem?_set_ne hj] at h
    rw [List.getElem?_set_ne hj]
    exact r.at_ j d' h⟩
/-- the target g binds as bind says, names within vs -/
def Bd (J : Jc) (K : PySem.W.Frag) (vs : List Nat) (g : TG) (bind : D → Vw → Option Vw) : Prop := ∀ (σ : St) (H : Hp) (vw vw1 : Vw) (x : V) (d : D) (Q : St → Hp → Prop), VRep J σ H vw → J.R σ H x d → bind d vw = some vw1 →
  (∀ σ2, wipe σ2 vs = wipe σ vs → VRep J σ2 H vw1 → Q σ2 H) → g x σ H Q
theorem bd_name {K : PySem.W.Frag} {vs : List Nat} {i : Nat} (h : i ∈ vs) : Bd J K vs (gName i) (bName i) := fun σ H vw vw1 x d Q r rx e q => by
  cases e
  exact q _ (wipe_set h _) (r.set rx)
theorem bd_names {es : List Expr} {is vs : List Nat} {u : TGs} (h : TNames X es is u) : (∀ i ∈ is, i ∈ vs) → ∀ {σ : St} {H : Hp} {vw vw1 : Vw} {xs : List V} {ds : List D} {Q : St → Hp → Prop}, VRep J σ H vw → J.RL σ H xs ds → putV is ds vw = some vw1 →
    (∀ σ2, wipe σ2 vs = wipe σ vs → VRep J σ2 H vw1 → Q σ2 H) → u xs σ H Q := by
  induction h with
  | nil =>
    intro _ σ H vw vw1 xs ds Q r rx e q
    cases ds with
    | nil => cases rx; cases e; exact ⟨rfl, q σ rfl r⟩
    | cons d ds => cases e
  | @cons i es is t e u _ ht _ _ ih =>
    intro hi σ H vw vw1 xs ds Q r rx e q
    subst ht
    cases ds with
    | nil => cases e
    | cons d ds =>
      cases rx with
      | cons r1 r2 =>
        refine ⟨_, _, rfl, ih (fun j hj => hi j (List.mem_cons_of_mem _ hj)) (r.set r1) r2 e fun σ2 h2 r' => q σ2 ?_ r'⟩
        rw [h2, wipe_set (hi i List.mem_cons_self)]
theorem bd_tup {es : List Expr} {is vs : List Nat} {u : TGs} (h : TNames X es is u) (hi : ∀ i ∈ is, i ∈ vs) (hK : J.g.K = X.K) : Bd J X.K vs (gTup X.K is.length u) (bTup is) := fun σ H vw vw1 x d Q r rx e q => by
  unfold bTup at e
  cases d with
  | tup ds =>
    cases rx with
    | tup sq rl =>
      have len : ∀ {is : List Nat} {ds : List D} {vw vw1 : Vw}, putV is ds vw = some vw1 → ds.length = is.length := fun {is} => by
        induction is with
        | nil => intro ds vw vw1 h; cases ds with | nil => rfl | cons _ _ => cases h
        | cons i is ih => intro ds vw vw1 h; cases ds with | nil => cases h | cons d ds => exact congrArg (· + 1) (ih h)
      exact ⟨_, _, rfl, hK ▸ sq, by rw [rl.length, len e], bd_names h hi r rl e q⟩
  | _ => cases e
/-- an error within a comprehension is not served -/
def strict {α : Type} (r : Res α) : Res α := match r with
  | .err _ _ _ => .bad
  | r => r
def lcGo (bind : D → Vw → Option Vw) (mt : MB) (me : ME) (vw : Vw) : List D → P3 → Res (List D)
  | [], p => .ok [] p
  | x :: xs, p => match bind x vw with
    | none => .bad
    | some vw1 => (strict (mt vw1 p)).bind fun k p1 => if k then (strict (me vw1 p1)).bind fun y p2 => (lcGo bind mt me vw xs p2).bind fun ys p3 => .ok (y :: ys) p3 else lcGo bind mt me vw xs p1
def mLc (vs : List Nat) (bind : D → Vw → Option Vw) (mi : MA) (mt : MB) (me : ME) : MA := fun vw p => (mi vw p).bind fun ds p1 => lcGo bind mt me (wipeV vw vs) ds p1
def Jc.blk (J : Jc) : Jc := { J with W := fun _ _ _ _ => False }
theorem VRep.toBlk {J : Jc} {σ : St} {H : Hp} {vw : Vw} (r : VRep J σ H vw) : VRep J.blk σ H vw := ⟨r.len, r.at_⟩
def hdel (H : Hp) (a : Addr) : Hp := fun b => if b = a then none else H b
theorem hdel_upd {H : Hp} {a : Addr} {o : HO} (h : H a = some o) : upd (hdel H a) a o = H := by
  funext b
  by_cases hb : b = a
  · subst hb; rw [upd_same, h]
  · rw [upd_ne hb]; exact if_neg hb
theorem StR.del {g : Gx} {H : Hp} {p : P3} {a : Addr} {xs : List V} (s : StR g H p) (h : H a = some (.lst xs)) (hp : g.pa ≠ some a) : StR g (hdel H a) p := by
  have q := s.pot
  refine ⟨?_, fun P hP => ?_⟩
  · unfold PotR at q ⊢
    split at q
    · rename_i e1
      show hdel H _ _ = _
      unfold hdel
      rw [if_neg]
      · exact q
      · intro e; exact hp (by rw [e1, e])
    · trivial
    · exact q
  · obtain ⟨ps, h1, h2, h3⟩ := s.tab P hP
    refine ⟨ps, ?_, h2, fun pos cv hc => ?_⟩
    · unfold hdel
      rw [if_neg]
      · exact h1
      · intro e; rw [e, h] at h1; cases h1
    · obtain ⟨c, e1, e2⟩ := h3 pos cv hc
      refine ⟨c, e1, ?_⟩
      unfold hdel
      rw [if_neg]
      · exact e2
      · intro e; rw [e, h] at e2; unfold CodeO at e2; cases e2
theorem ext1_del {H : Hp} {a : Addr} {xs : List V} (h : H a = some (.lst xs)) : Ext1 H (hdel H a) := fun b o e k => by
  unfold hdel
  rw [if_neg]
  · exact e
  · intro z; rw [z, h] at e; cases e; exact k
theorem pot_ne {g : Gx} {H : Hp} {p : P3} {a : Addr} (s : StR g H p) (h : H a = none) : g.pa ≠ some a := fun e => by
  have q := s.pot
  unfold PotR at q
  rw [e] at q
  cases p with
  | none => exact q
  | some p => obtain ⟨x, y, z⟩ := p; replace q : H a = _ := q; rw [h] at q; cases q
theorem StR.updL {g : Gx} {H : Hp} {p : P3} {a : Addr} {xs ys : List V} (s : StR g H p) (h : H a = some (.lst xs)) (hp : g.pa ≠ some a) : StR g (upd H a (.lst ys)) p := by
  have w := (s.del h hp).grow (Grow.upd (H := hdel H a) (p := a) (o := .lst ys) (if_pos rfl))
  have e : upd (hdel H a) a (.lst ys) = upd H a (.lst ys) := by
    funext b
    by_cases hb : b = a
    · subst hb; rw [upd_same, upd_same]
    · rw [upd_ne hb, upd_ne hb]; exact if_neg hb
  rw [e] at w
  exact w
theorem ext1_lst {H : Hp} {a : Addr} {xs : List V} {u : HO} (h : H a = some (.lst xs)) : Ext1 H (upd H a u) := fun b o e k => by
  rw [upd_ne]
  · exact e
  · intro z; rw [z, h] at e; cases e; exact k
/-- a list of one's own is turned: what it is measured from doesn't see it -/
theorem ext_updL {g : Gx} {H0 H : Hp} {a : Addr} {u : HO} (e : Ext g H0 H) (h : H0 a = none) : Ext g H0 (upd H a u) := fun b o q k n => by
  rw [upd_ne (ne_of_none q h)]
  exact e b o q k n
theorem vn_lc_logic {mi : MA} {mt : MB} {me : ME} {vs : List Nat} {g : TG} {bind : D → Vw → Option Vw} {K : PySem.W.Frag} (bd : Bd J K vs g bind) {σ : St} {H : Hp} {Q : VK}
    (h : tN J (mLc vs bind mi mt me) σ H Q) : tLc (tI J mi) g (tB J.blk mt) (tV J.blk me) vs σ H Q := by
  obtain ⟨vw, p, rr, st, q⟩ := h
  refine ⟨vw, p, rr, st, ?_⟩
  unfold mLc at q
  cases e1 : mi vw p with
  | bad => rw [e1] at q; exact q.elim
  | err x dv p1 => rw [e1] at q; exact q
  | ok ds p1 =>
    rw [e1] at q
    simp only [Res.bind] at q
    intro H1 I x1 s1 F hz DD hD
    have nP := pot_ne s1 hD
    have rw1 : ∀ {H' : Hp}, Ext J.g H1 H' → VRep J (wipe σ vs) H' (wipeV vw vs) := fun {H'} e => (rr.ext (x1.trans e)).wipe
    -- the invariant
    refine ⟨fun i mm H' => mm = ds.length - i ∧ i ≤ ds.length ∧ ∃ p' acc ys, StR J.g H' p' ∧ Ext J.g H1 H' ∧ H' DD = some (.lst acc) ∧ J.RL σ H' acc ys ∧ acc.length ≤ i ∧ PN J σ H Q ((lcGo bind mt me (wipeV vw vs) (ds.drop i) p').bind fun zs p2 => .ok (ys ++ zs) p2),
      ⟨ds.length, by simp, Nat.zero_le _, p1, [], [], s1.grow (Grow.upd hD), (Grow.upd hD).ext, upd_same, .nil, Nat.le_refl _, ?_⟩, fun i mm H' ⟨hm, hi, p', acc, ys, s2, x2, hacc, racc, hlacc, q2⟩ => ?_⟩
    · rw [List.drop_zero]
      cases e2 : lcGo bind mt me (wipeV vw vs) ds p1 with
      | bad => rw [e2] at q; exact q
      | err x dv p2 => rw [e2] at q; exact q
      | ok zs p2 => rw [e2] at q; exact q
    · by_cases hlt : i < ds.length
      · refine .inr ⟨F.go i H' x2.hard hlt, fun H'' => ∃ p' acc ys, StR J.g H'' p' ∧ Ext J.g H1 H'' ∧ H'' DD = some (.lst acc) ∧ J.RL σ H'' acc ys ∧ acc.length ≤ i + 1 ∧ PN J σ H Q ((lcGo bind mt me (wipeV vw vs) (ds.drop (i + 1)) p').bind fun zs p2 => .ok (ys ++ zs) p2), fun H'' hN => ⟨ds.length - (i + 1), by omega, rfl, hlt, hN⟩, fun x H3 hy => ?_⟩
        have hd : ds[i]? = some ds[i] := List.getElem?_eq_getElem hlt
        obtain ⟨g3, rx⟩ := F.yld i H' x H3 _ x2.hard hd hy
        rw [List.drop_eq_getElem_cons hlt] at q2
        unfold lcGo at q2
        cases e3 : bind ds[i] (wipeV vw vs) with
        | none => rw [e3] at q2; exact q2.elim
        | some vw1 =>
          rw [e3] at q2
          have x3 : Ext J.g H1 H3 := x2.trans g3.ext
          have s3 := s2.grow g3
          refine bd (wipe σ vs) H3 (wipeV vw vs) vw1 x ds[i] _ (rw1 x3) rx e3 fun σ2 hw r2 => ?_
          · rw [wipe_wipe] at hw
            refine ⟨hw, vw1, p', r2.toBlk, s3, ?_⟩
            simp only at q2
            cases e4 : mt vw1 p' with
            | bad => rw [e4] at q2; exact q2.elim
            | err x dv p2 => rw [e4] at q2; exact q2.elim
            | ok k p2 =>
              rw [e4] at q2
              simp only [strict, Res.bind] at q2
              intro H4 x4 s4
              have x14 := x3.trans x4
              have hacc4 : H4 DD = some (.lst acc) := x4.keepL (g3 _ _ hacc) nP
              have racc4 : J.RL σ H4 acc ys := J.extL (g3.ext.trans x4) racc
              cases k with
              | false =>
                rw [if_neg Bool.false_ne_true]
                simp only [Bool.false_eq_true, if_false] at q2
                exact ⟨p2, acc, ys, s4, x14, hacc4, racc4, by omega, q2⟩
              | true =>
                rw [if_pos rfl]
                simp only [if_true] at q2
                refine ⟨vw1, p2, (VRep.ext (J := J) x4 r2).toBlk, s4, ?_⟩
                cases e5 : me vw1 p2 with
                | bad => rw [e5] at q2; exact q2.elim
                | err x dv p3 => rw [e5] at q2; exact q2.elim
                | ok y p3 =>
                  rw [e5] at q2
                  simp only at q2
                  intro H5 v5 x5 s5 r5
                  have x15 := x14.trans x5
                  have hacc5 : H5 DD = some (.lst acc) := x5.keepL hacc4 nP
                  refine ⟨acc, hacc5, ?_, p3, acc ++ [v5], ys ++ [y], s5.updL hacc5 nP, ext_updL x15 hD, upd_same, ?_, ?_, ?_⟩
                  · have : acc.length < ds.length := Nat.lt_of_le_of_lt hlacc hlt
                    exact Nat.lt_of_lt_of_le this hz
                  · exact J.extL1 (ext1_lst hacc5) ((J.extL x5 racc4).append (.cons r5 .nil))
                  · rw [List.length_append]
                    exact Nat.add_le_add_right hlacc 1
                  · cases e6 : lcGo bind mt me (wipeV vw vs) (ds.drop (i + 1)) p3 with
                    | bad => rw [e6] at q2; exact q2
                    | err x dv p4 => rw [e6] at q2; exact q2
                    | ok zs p4 =>
                      rw [e6] at q2
                      simp only at q2
                      show PN J σ H Q (.ok ((ys ++ [y]) ++ zs) p4)
                      rw [show (ys ++ [y]) ++ zs = ys ++ (y :: zs) by simp]
                      exact q2
      · have hie : i = ds.length := by omega
        subst hie
        refine .inl ⟨F.stop H' x2.hard, ?_⟩
        rw [List.drop_length] at q2
        simp only [lcGo, Res.bind, List.append_nil] at q2
        have w := q2 (hdel H' DD) DD acc (x1.trans fun b o e k n => ?_) (s2.del hacc nP) (if_pos rfl) (J.extL1 (ext1_del hacc) racc)
        · rw [hdel_upd hacc] at w
          exact w
        · unfold hdel
          rw [if_neg (ne_of_none e hD)]
          exact x2 b o e k n
variable {base : Heap} {k : Nat}
theorem Fr0.blk (F : Fr0 X J base k) {s : Shared} {H : Hp} {scope : Scope} {ce : Env} {fp : List Addr} : Fr0 (X.blk s H scope ce fp) J.blk base k :=
  ⟨F.K, F.mg, F.bs, fun u s' ⟨_, _, _, _, _, _, _, _, _, _, _, _, _, _, _, _, z⟩ => z.elim, F.room, F.gd, F.calm⟩
theorem pts_tB {X : Cx} {J : Jc} : PTs X [] (tB J fun _ p => .ok true p) := ⟨fun pins s σ H Q I ⟨vw, p, r, st, q⟩ => pts_nil.run pins s σ H Q I (q H .refl st)⟩
def bTrue : MB := fun _ p => .ok true p
theorem vn_lc {elt tg iter : Expr} {ifs : List Expr} {scope : Scope} {own : List (Str × Nat)} {mi : MA} {mt : MB} {me : ME} {g : TG} {bind : D → Vw → Option Vw} (hc : X.calm = true) (hN : X.N.Nodup) (hi : VI X J tg iter mi) (ok : BlkOk X.N X.env.scope scope own)
    (bd : Bd J X.K (own.map (·.2)) g bind)
    (hg : ∀ (s : Shared) (H : Hp) (C : Addr) (cl : List (Str × Addr)) (fp : List Addr), PG (X.blk s H scope (compEnvC scope cl C X.env) fp) tg g)
    (ht : ∀ (s : Shared) (H : Hp) (C : Addr) (cl : List (Str × Addr)) (fp : List Addr), PTs (X.blk s H scope (compEnvC scope cl C X.env) fp) ifs (tB J.blk mt))
    (he : ∀ (s : Shared) (H : Hp) (C : Addr) (cl : List (Str × Addr)) (fp : List Addr), VE (X.blk s H scope (compEnvC scope cl C X.env) fp) J.blk elt me) (hs : ∀ x, foldedSetIterable iter X.env x = pure x := by intro _; rfl) :
    VN X J (.ListComp elt [⟨tg, iter, ifs, 0⟩] scope pos) (mLc (own.map (·.2)) bind mi mt me) :=
  pe_imp (pe_lc hc hN hi ok hg ht he hs) fun σ H Q q => vn_lc_logic bd q
end
end VL

namespace VL
open PySem PySem.Spec PyProof.Rows L2 LamX
section
variable {X : Cx} {J : Jc} {base : Heap} {k : Nat} {e : Expr} {pos : Pos}
/-! ### for -/
def forL (bind : D → En → Option En) (mb : MS) : List D → MS
  | [], env, p => .ok (.nx, env) p
  | x :: xs, env, p => match bind x env with
    | none => .bad
    | some env1 => match mb env1 p with
      | .ok (.nx, e) p1 => forL bind mb xs e p1
      | .ok (.ct, e) p1 => forL bind mb xs e p1
      | .ok (.bk, e) p1 => .ok (.nx, e) p1
      | .ok (.ret d, e) p1 => .ok (.ret d, e) p1
      | .ok (.rtl _, _) _ => .bad
      | .err x v p1 => .err x v p1
      | .bad => .bad
def sFor (bind : D → En → Option En) (mi : MA) (mb : MS) : MS := fun env p => match mi (vwOf env) p with
  | .ok ds p1 => forL bind mb ds env p1
  | .err x v p1 => .err x v p1
  | .bad => .bad
def eName (i : Nat) : D → En → Option En := fun d env => some (setE env i (.p d))
def eTup (is : List Nat) : D → En → Option En := fun d env => match d with
  | .tup ds => putAll is ds env
  | _ => none
def BdE (X : Cx) (J : Jc) (g : TG) (bind : D → En → Option En) : Prop := ∀ (σ : St) (H : Hp) (env env1 : En) (x : V) (d : D) (Q : St → Hp → Prop), ERep X J σ H env → J.R σ H x d → bind d env = some env1 → (∀ σ', ERep X J σ' H env1 → Q σ' H) → g x σ H Q
theorem be_name {i : Nat} : BdE X J (gName i) (eName i) := fun σ H env env1 x d Q r rx e q => by
  cases e
  exact q _ (r.set rx)
theorem be_tup {es : List Expr} {is : List Nat} {u : TGs} (ht : TNames X es is u) (hK : J.g.K = X.K) : BdE X J (gTup X.K is.length u) (eTup is) := fun σ H env env1 x d Q r rx e q => by
  unfold eTup at e
  cases d with
  | tup ds =>
    cases rx with
    | tup sq rl => exact ⟨_, _, rfl, hK ▸ sq, by rw [rl.length, putAll_len e], tn_run ht rl r e q⟩
  | _ => cases e
theorem vs_for {tg iter : Expr} {body : List Stmt} {mi : MA} {mb : MS} {g : TG} {bind : D → En → Option En} (hp : PassesOwn (model X.prog X.w) X.A X.env X.xe) (hc : X.calm = true) (hi : VI X J tg iter mi) (hg : PG X tg g) (bd : BdE X J g bind) (hb : VSs X J body mb)
    (hs : ∀ x, foldedSetIterable iter X.env x = pure x := by intro _; rfl) : VS X J (.For tg iter body [] pos) (sFor bind mi mb) := by
  refine ps_imp (ps_for hp hc hi hg hb hs) fun Dn σ H ⟨env, p, r, s, q⟩ => ⟨vwOf env, p, r.vrep, s, ?_⟩
  unfold sFor at q
  cases e1 : mi (vwOf env) p with
  | bad => rw [e1] at q; exact q
  | err x dv p1 => rw [e1] at q; exact err_st r q
  | ok ds p1 =>
    rw [e1] at q
    simp only at q
    intro H1 I x1 s1 F hz
    refine ⟨fun i m σ' H' => m = ds.length - i ∧ i ≤ ds.length ∧ ∃ env' p', ERep X J σ' H' env' ∧ StR J.g H' p' ∧ Ext1 H1 H' ∧ PSt X J Dn σ' H' (forL bind mb (ds.drop i) env' p'),
      ⟨ds.length, by simp, Nat.zero_le _, env, p1, r.ext1 x1, s1, .refl, by rw [List.drop_zero]; exact PSt.at_ q x1.hard⟩, fun i m σ' H' ⟨hm, hi, env', p', r', s', x', q'⟩ => ?_⟩
    by_cases hlt : i < ds.length
    · refine .inr ⟨F.go i H' x' hlt, fun σ2 H2 => ∃ env' p', ERep X J σ2 H2 env' ∧ StR J.g H2 p' ∧ Ext1 H1 H2 ∧ PSt X J Dn σ2 H2 (forL bind mb (ds.drop (i + 1)) env' p'), fun σ2 H2 hN => ⟨ds.length - (i + 1), by omega, rfl, hlt, hN⟩, fun x H3 hy => ?_⟩
      have hd : ds[i]? = some ds[i] := List.getElem?_eq_getElem hlt
      obtain ⟨g3, rx⟩ := F.yld i H' x H3 _ x' hd hy
      rw [List.drop_eq_getElem_cons hlt] at q'
      unfold forL at q'
      cases e3 : bind ds[i] env' with
      | none => rw [e3] at q'; exact q'.elim
      | some env1 =>
        rw [e3] at q'
        have g3e : Ext J.g H' H3 := g3.ext
        refine bd σ' H3 env' env1 x ds[i] _ (r'.ext1 g3e) rx e3 fun σ2 r2 => ⟨env1, p', r2, s'.grow g3, ?_⟩
        simp only at q'
        cases e4 : mb env1 p' with
        | bad => rw [e4] at q'; exact q'
        | err y dv p2 => rw [e4] at q'; exact q'
        | ok fe p2 =>
          obtain ⟨fl, env2⟩ := fe
          rw [e4] at q'
          cases fl with
          | nx => exact fun σ4 H4 r4 s4 x4 => ⟨env2, p2, r4, s4, (x'.trans g3e.hard).trans x4, PSt.at_ q' (g3e.hard.trans x4)⟩
          | ct => exact fun σ4 H4 r4 s4 x4 => ⟨env2, p2, r4, s4, (x'.trans g3e.hard).trans x4, PSt.at_ q' (g3e.hard.trans x4)⟩
          | bk => exact fun σ4 H4 r4 s4 x4 => q' σ4 H4 r4 s4 (g3e.hard.trans x4)
          | ret d => exact q'
          | rtl d => exact q'.elim
    · have hie : i = ds.length := by omega
      subst hie
      rw [List.drop_length] at q'
      exact .inl ⟨F.stop H' x', q' σ' H' r' s' .refl⟩
/-! ### while -/
def whileL (c : MB) (mb : MS) : Nat → MS
  | 0, _, _ => .bad
  | n + 1, env, p => match c (vwOf env) p with
    | .ok false p1 => .ok (.nx, env) p1
    | .ok true p1 => match mb env p1 with
      | .ok (.nx, e) p2 => whileL c mb n e p2
      | .ok (.ct, e) p2 => whileL c mb n e p2
      | .ok (.bk, e) p2 => .ok (.nx, e) p2
      | .ok (.ret d, e) p2 => .ok (.ret d, e) p2
      | .ok (.rtl _, _) _ => .bad
      | .err x v p2 => .err x v p2
      | .bad => .bad
    | .err x v p1 => .err x v p1
    | .bad => .bad
theorem vs_while {c : Expr} {body : List Stmt} {mc : MB} {mb : MS} (N : Nat) (hp : PassesOwn (model X.prog X.w) X.A X.env X.xe) (hc : VT X J c mc) (hb : VSs X J body mb) : VS X J (.While c body [] pos) (whileL mc mb N) := by
  refine ps_imp (ps_while hp hc hb) fun Dn σ H ⟨env, p, r, s, q⟩ => ?_
  refine ⟨fun n σ' H' => ∃ env' p', ERep X J σ' H' env' ∧ StR J.g H' p' ∧ PSt X J Dn σ' H' (whileL mc mb n env' p'), ⟨N, env, p, r, s, q⟩, fun n σ' H' ⟨env', p', r', s', q'⟩ => ⟨vwOf env', p', r'.vrep, s', ?_⟩⟩
  cases n with
  | zero => exact q'.elim
  | succ n =>
    unfold whileL at q'
    cases e1 : mc (vwOf env') p' with
    | bad => rw [e1] at q'; exact q'
    | err x dv p1 => rw [e1] at q'; exact err_st r' q'
    | ok b p1 =>
      rw [e1] at q'
      intro H1 x1 s1
      cases b with
      | false =>
        rw [if_neg Bool.false_ne_true]
        exact q' σ' H1 (r'.ext1 x1) s1 x1.hard
      | true =>
        rw [if_pos rfl]
        refine ⟨fun σ2 H2 => ∃ env' p', ERep X J σ2 H2 env' ∧ StR J.g H2 p' ∧ PSt X J Dn σ2 H2 (whileL mc mb n env' p'), fun σ2 H2 hN => ⟨n, Nat.lt_succ_self n, hN⟩, env', p1, r'.ext1 x1, s1, ?_⟩
        simp only at q'
        cases e2 : mb env' p1 with
        | bad => rw [e2] at q'; exact q'
        | err y dv p2 => rw [e2] at q'; exact q'
        | ok fe p2 =>
          obtain ⟨fl, env2⟩ := fe
          rw [e2] at q'
          cases fl with
          | nx => exact fun σ4 H4 r4 s4 x4 => ⟨env2, p2, r4, s4, PSt.at_ q' (x1.hard.trans x4)⟩
          | ct => exact fun σ4 H4 r4 s4 x4 => ⟨env2, p2, r4, s4, PSt.at_ q' (x1.hard.trans x4)⟩
          | bk => exact fun σ4 H4 r4 s4 x4 => q' σ4 H4 r4 s4 (x1.hard.trans x4)
          | ret d => exact q'
          | rtl d => exact q'.elim
/-! ### lists of one's own -/
def onN (m : MA) (k : List D → En → P3 → Res (Fl × En)) : MS := fun env p => match m (vwOf env) p with
  | .ok d p1 => k d env p1
  | .err x v p1 => .err x v p1
  | .bad => .bad
theorem ERep.own {σ : St} {H : Hp} {env : En} {p : P3} {i : Nat} {a : Addr} {xs : List V} {ds : List D} (r : ERep X J σ H env) (s : StR J.g H p) (ha : H a = none) (rl : J.RL σ H xs ds) : ERep X J (σ.set i (some (.ref a))) (upd H a (.lst xs)) (setE env i (.l ds)) := by
  have gr : Ext J.g H (upd H a (.lst xs)) := (Grow.upd ha).ext
  have fresh : ∀ j, isOwn env j → σ[j]? ≠ some (some (.ref a)) := fun j ⟨ds', h⟩ e => by
    obtain ⟨b, ys, h1, h2, _⟩ := r.slot j _ h
    rw [e] at h1
    cases h1
    rw [ha] at h2
    cases h2
  refine ⟨by unfold setE; rw [List.length_set, List.length_set, r.len], fun j sl h => ?_, fun a' b c hab hA hB => ?_, r.ext.trans gr⟩
  · unfold setE at h
    by_cases hj : i = j
    · subst hj
      by_cases hl : i < env.length
      · rw [List.getElem?_set_self hl] at h
        cases h
        refine ⟨a, xs, by rw [List.getElem?_set_self (by rw [← r.len]; exact hl)], upd_same, J.extL gr rl, pot_ne s ha, fun o ho => ?_⟩
        refine Classical.byContradiction fun z => ?_
        have w := r.ext a o ho (fun e => absurd e (pot_ne s ha)) fun ps e => z ⟨ps, e⟩
        rw [ha] at w
        cases w
      · rw [List.getElem?_eq_none (by rw [List.length_set]; exact Nat.le_of_not_lt hl)] at h; cases h
    · rw [List.getElem?_set_ne hj] at h
      have q := (r.ext1 gr).slot j sl h
      cases sl with
      | p d' =>
        obtain ⟨v', h1, h2⟩ := q
        exact ⟨v', by rw [List.getElem?_set_ne hj]; exact h1, h2⟩
      | l ds =>
        obtain ⟨a, xs, h1, h2, h3, h4⟩ := q
        exact ⟨a, xs, by rw [List.getElem?_set_ne hj]; exact h1, h2, h3, h4⟩
  · have old : ∀ j, j ≠ i → isOwn (setE env i (.l ds)) j → isOwn env j := fun j hj ⟨ds', h⟩ => by
      unfold setE at h
      rw [List.getElem?_set_ne (Ne.symm hj)] at h
      exact ⟨ds', h⟩
    have at_i : ∀ j, isOwn (setE env i (.l ds)) j → j < env.length := fun j ⟨ds', h⟩ => by
      have := (List.getElem?_eq_some_iff.mp h).1
      unfold setE at this
      rw [List.length_set] at this
      exact this
    by_cases h1 : a' = i
    · subst h1
      have hb : b ≠ a' := fun e => hab e.symm
      rw [List.getElem?_set_self (by rw [← r.len]; exact at_i a' hA), List.getElem?_set_ne (Ne.symm hb)]
      intro e1 e2
      cases e1
      exact fresh b (old b hb hB) e2
    · by_cases h2 : b = i
      · subst h2
        rw [List.getElem?_set_ne (Ne.symm h1), List.getElem?_set_self (by rw [← r.len]; exact at_i b hB)]
        intro e1 e2
        cases e2
        exact fresh a' (old a' h1 hA) e1
      · rw [List.getElem?_set_ne (Ne.symm h1), List.getElem?_set_ne (Ne.symm h2)]
        exact r.dist a' b c hab (old a' h1 hA) (old b h2 hB)
def sNew (i : Nat) (ms : MA) : MS := onN ms fun ds env p => .ok (.nx, setE env i (.l ds)) p
theorem new_logic {i : Nat} {ms : MA} {Dn : Ends} {σ : St} {H : Hp} (h : tS X J (sNew i ms) Dn σ H) : tAsg (tN J ms) (gName i) Dn σ H := by
  obtain ⟨env, p, r, s, q⟩ := h
  refine ⟨vwOf env, p, r.vrep, s, ?_⟩
  unfold sNew onN at q
  cases e1 : ms (vwOf env) p with
  | bad => rw [e1] at q; exact q
  | err x dv p1 => rw [e1] at q; exact err_st r q
  | ok d p1 =>
    rw [e1] at q
    intro H1 a xs x1 s1 hn r1
    exact q _ _ ((r.ext1 x1).own s1 hn r1) (s1.grow (Grow.upd hn)) (x1.hard.trans (Grow.ext (g := J.g) (Grow.upd hn)).hard)
theorem vs_new {i : Nat} {x : Str} {ms : MA} {pos' : Pos} (hN : X.N.Nodup) (he : VN X J e ms) (hi : X.N[i]? = some x := by rfl) (hx : Loc X.env.scope x := by first | exact Or.inl rfl | exact Or.inr rfl) (hs : swapsWith e (some (.Name x pos')) pos.line X.env = pure false := by rfl)
    (hfn : X.fn x = true ∨ X.env.scope.names.lookup x = some .local := by first | exact .inl rfl | exact .inr rfl) : VS X J (.Assign [.Name x pos'] e pos) (sNew i ms) :=
  ps_imp (ps_set hN hi hx he hs hfn) fun Dn σ H q => new_logic q
theorem vs_newLc {i : Nat} {y : Str} {py : Pos} {elt tg iter : Expr} {ifs : List Expr} {scope : Scope} {own : List (Str × Nat)} {spos : Pos} {mi : MA} {mt : MB} {me : ME} {g : TG} {bind : D → Vw → Option Vw} (hc : X.calm = true) (hN : X.N.Nodup) (hi : VI X J tg iter mi) (ok : BlkOk X.N X.env.scope scope own)
    (bd : Bd J X.K (own.map (·.2)) g bind)
    (hg : ∀ (s : Shared) (H : Hp) (C : Addr) (cl : List (Str × Addr)) (fp : List Addr), PG (X.blk s H scope (compEnvC scope cl C X.env) fp) tg g)
    (ht : ∀ (s : Shared) (H : Hp) (C : Addr) (cl : List (Str × Addr)) (fp : List Addr), PTs (X.blk s H scope (compEnvC scope cl C X.env) fp) ifs (tB J.blk mt))
    (he : ∀ (s : Shared) (H : Hp) (C : Addr) (cl : List (Str × Addr)) (fp : List Addr), VE (X.blk s H scope (compEnvC scope cl C X.env) fp) J.blk elt me)
    (hsw : swapsWith (.ListComp elt [⟨tg, iter, ifs, 0⟩] scope pos) (some (.Name y py)) spos.line X.env = pure true)
    (hy : X.N[i]? = some y := by rfl) (hyl : X.env.scope.names.lookup y = some .local := by rfl) (hs : ∀ x, foldedSetIterable iter X.env x = pure x := by intro _; rfl) :
    VS X J (.Assign [.Name y py] (.ListComp elt [⟨tg, iter, ifs, 0⟩] scope pos) spos) (sNew i (mLc (own.map (·.2)) bind mi mt me)) := by
  refine ps_imp (ps_setLc hc hN hy hyl hsw hi ok hg ht he hs) fun Dn σ H q => ?_
  have w := new_logic q
  exact vn_lc_logic bd w
/-- from here on the list in slot i never changes -/
def sFreeze (i : Nat) (m : MS) : MS := fun env p => match env[i]? with
  | some (some (.l ds)) => m (setE env i (.p (.lst ds))) p
  | _ => .bad
theorem ERep.freeze {σ : St} {H : Hp} {env : En} {i : Nat} {a : Addr} {xs : List V} {ds : List D} {o : Obj} (r : ERep X J σ H env) (hi : env[i]? = some (some (.l ds))) (hs : σ[i]? = some (some (.ref a))) (ha : H a = some (.lst xs)) (rl : J.RL σ H xs ds) (ow : Own X J.g a) : ERep X J σ (upd H a (.frz o (.lst xs))) (setE env i (.p (.lst ds))) := by
  have e1 : Ext1 H (upd H a (.frz o (.lst xs))) := ext1_lst ha
  refine ⟨by unfold setE; rw [List.length_set, r.len], fun j sl h => ?_, fun a' b c hab hA hB => ?_, fun b u hb k n => ?_⟩
  · unfold setE at h
    by_cases hj : i = j
    · subst hj
      rw [List.getElem?_set_self (List.getElem?_eq_some_iff.mp hi).1] at h
      cases h
      exact ⟨.ref a, hs, .lst ⟨o, upd_same⟩ (J.extL1 e1 rl)⟩
    · rw [List.getElem?_set_ne hj] at h
      have q := r.slot j sl h
      cases sl with
      | p d' =>
        obtain ⟨v', h1, h2⟩ := q
        exact ⟨v', h1, J.ext1 e1 h2⟩
      | l ds' =>
        obtain ⟨b, ys, h1, h2, h3, h4⟩ := q
        refine ⟨b, ys, h1, ?_, J.extL1 e1 h3, h4⟩
        rw [upd_ne]
        · exact h2
        · intro e
          subst e
          exact r.dist i j b hj ⟨ds, hi⟩ ⟨ds', h⟩ hs h1
  · have old : ∀ j, isOwn (setE env i (.p (.lst ds))) j → isOwn env j := fun j ⟨ds', h⟩ => by
      unfold setE at h
      by_cases hj : i = j
      · subst hj
        rw [List.getElem?_set_self (List.getElem?_eq_some_iff.mp hi).1] at h
        cases h
      · rw [List.getElem?_set_ne hj] at h
        exact ⟨ds', h⟩
    exact r.dist a' b c hab (old a' hA) (old b hB)
  · have hne : b ≠ a := fun e => by
      subst e
      obtain ⟨ps, e⟩ := ow.2 u hb
      exact n ps e
    rw [upd_ne hne]
    exact r.ext b u hb k n
theorem StR.frzL {g : Gx} {H : Hp} {p : P3} {a : Addr} {xs : List V} {o : Obj} (s : StR g H p) (h : H a = some (.lst xs)) (hp : g.pa ≠ some a) : StR g (upd H a (.frz o (.lst xs))) p := by
  have w := (s.del h hp).grow (Grow.upd (H := hdel H a) (p := a) (o := .frz o (.lst xs)) (if_pos rfl))
  have e : upd (hdel H a) a (.frz o (.lst xs)) = upd H a (.frz o (.lst xs)) := by
    funext b
    by_cases hb : b = a
    · subst hb; rw [upd_same, upd_same]
    · rw [upd_ne hb, upd_ne hb]; exact if_neg hb
  rw [e] at w
  exact w
theorem vss_freeze {sts : List Stmt} {m : MS} (i : Nat) (h : VSs X J sts m) : VSs X J sts (sFreeze i m) := by
  refine ⟨fun pins s σ H Dn I ⟨env, p, r, st, q⟩ => ?_⟩
  unfold sFreeze at q
  split at q
  · rename_i ds hi
    obtain ⟨a, xs, h1, h2, h3, h4⟩ := r.slot i _ hi
    obtain ⟨o, I2⟩ := inv_freeze I h2
    exact h.run pins s σ _ Dn I2 ⟨_, p, r.freeze hi h1 h2 h3 h4, st.frzL h2 h4.1, PSt.at_ q (ext1_lst h2)⟩
  · exact q.elim
end
end VL

namespace VL
open PySem PySem.Spec PyProof.Rows L2 LamX
/-! ### times -/
theorem op_repF {X : Cx} : OpR X (binaryOp .Mult) rRepF := by
  intro pins s σ H x y v u Q I rx ry h
  obtain ⟨l, k, xs, rfl, rfl, hH, h1, h2, hz, q⟩ := h
  cases rx
  obtain ⟨t, rfl⟩ := ry
  obtain ⟨z, its, n, r, e⟩ := inv_fz I hH
  have hl := r.length
  have hlen : its.toArray.size * k.toNat ≤ sizeLine := by rw [List.size_toArray, ← hl]; exact hz
  have hcap : ¬ its.toArray.size * k.toNat > (2 ^ 63 - 1) / 8 := by
    have : (sizeLine : Nat) ≤ (2 ^ 63 - 1) / 8 := by decide
    omega
  have hfit : ¬ (!Builtin.List.listFitsIndex k) = true := by
    rw [fitsIndex_both h1 h2]
    exact Bool.false_ne_true
  have hlong : ¬ Builtin.List.listTooLong (its.toArray.size * k.toNat) = true := by
    rw [notLongL hlen]
    exact Bool.false_ne_true
  have hnew : List.foldl (fun x1 x2 => x1 ++ x2) #[] (List.replicate (if its.toArray.isEmpty = true then 0 else k.toNat) its.toArray) = (List.replicate k.toNat its).flatten.toArray := by
    have f0 : ∀ m : Nat, List.foldl (fun x1 x2 => x1 ++ x2) #[] (List.replicate m its.toArray) = (List.replicate m its).flatten.toArray := fun m => by
      have := foldl_rep its m []
      rw [List.nil_append] at this
      exact this
    rw [f0]
    cases its with
    | nil => simp
    | cons a r' => rw [if_neg (by simp)]
  refine wpAny_binaryOp_repeat_ref (T := "list") (U := "int") (by decide) ⟨_, e, rfl⟩ (fun s' => typeIs_int s' k t) noFill_list_mul F.fills_int_mul F.slot_int_rmul repeat_list F.slot_int_index.lookup
    (call_meets F.slot_int_rmul (typeIs_int s k t) F.entry_int_rmul (F.args_int_rmul_2 _ _) (int___rmul___int_list k t l its.toArray n)
      ⟨e, rfl, ⟨_, e, rfl⟩, call_meets F.slot_list_mul ⟨_, e, rfl⟩ F.entry_list_mul (F.args_list_mul_2 _ _) (AutoListH.list___mul___list_int_3 l its.toArray n k t hfit hcap hlong) ⟨e, ?_⟩⟩)
  rw [hnew]
  exact ⟨.ref _, _, I.lnew (t' := s.toks) (r.rep k.toNat) (by rw [PyProof.Rows.lm_len_rep_flat, Nat.mul_comm]; exact hz), rfl, q _ I.fresh⟩
theorem RepL.rep {g : Gx} {co : CO} {H : Hp} {vs : List V} {ds : List D} (r : RepL g co H vs ds) : ∀ k : Nat, RepL g co H (List.replicate k vs).flatten (List.replicate k ds).flatten
  | 0 => .nil
  | k + 1 => by
    rw [List.replicate_succ, List.replicate_succ, List.flatten_cons, List.flatten_cons]
    exact r.append (RepL.rep r k)
section
variable {X : Cx} {J : Jc} {a b : Expr} {ma mb : ME} {pos : Pos}
theorem op_mulAll : OpR X (binaryOp .Mult) (fun x y H Q => rI CMul (fun i j => .int (i * j)) x y H Q ∨ rI CMulW (fun i j => .int (i * j)) x y H Q ∨ rRepT X.K x y H Q ∨ rRepF x y H Q) := op_mul.or (op_mulW.or (op_repT.or op_repF))
theorem ve_mul (hK : J.g.K = X.K) (ha : VE X J a ma) (hb : VE X J b mb) : VE X J (.BinOp a .Mult b pos) (m2 D.mul ma mb) := by
  refine op2_fz (pe_op op_mulAll ha hb) fun σ H Q x y dx dy d rx ry e q => ?_
  rw [← hK]
  unfold D.mul at e
  split at e
  · rename_i i j
    cases rx; cases ry
    split at e
    · rename_i hc
      cases e
      unfold okMul at hc
      simp only [Bool.or_eq_true, Bool.and_eq_true, decide_eq_true_eq] at hc
      have w : ∀ {P : Prop}, P → P := fun h => h
      rcases hc with h | h | h
      · exact .inl ⟨_, _, rfl, rfl, .inl h, .inl (q H _ (fun _ _ k => k) (.int _))⟩
      · exact .inl ⟨_, _, rfl, rfl, .inr h, .inl (q H _ (fun _ _ k => k) (.int _))⟩
      · exact .inr (.inl ⟨_, _, rfl, rfl, h, .inl (q H _ (fun _ _ k => k) (.int _))⟩)
    · cases e
  · cases ry
    cases rx with
    | tup s r =>
      split at e
      · rename_i hc
        obtain ⟨h1, h2, h3, h4⟩ := hc
        cases e
        refine .inr (.inr (.inl ⟨_, _, _, rfl, rfl, s, ?_, h2, h3, by rw [r.length]; exact h4, fun p hp => .inl (tup_of hp (r.rep _) q)⟩))
        intro z
        subst z
        cases r
        exact h1 rfl
      · cases e
  · cases ry
    cases rx with
    | lst s r =>
      split at e
      · rename_i hc
        obtain ⟨h1, h2, h3⟩ := hc
        cases e
        exact .inr (.inr (.inr ⟨_, _, _, rfl, rfl, s, by omega, by omega, by rw [r.length]; exact h3, fun p hp => fz_of (d := .non) hp (r.rep _) q⟩))
      · cases e
  · cases e
end
/-! ### own lists read in an expression: frozen for its time -/
mutual
def D.noL : D → Bool
  | .lst _ | .dct _ | .exc _ _ | .clo _ _ | .own _ | .scr _ => false
  | .tup ds => D.noLs ds
  | _ => true
def D.noLs : List D → Bool
  | [] => true
  | d :: ds => d.noL && D.noLs ds
end
theorem upd_ext1F {H : Hp} {a : Addr} {o : Obj} {xs : List V} {u : HO} (h : H a = some (.frz o (.lst xs))) : ∀ b w, H b = some w → (∀ o ys, w ≠ .frz o (.lst ys)) → upd H a u b = some w := fun b w e k => by
  rw [upd_ne]
  · exact e
  · intro z; rw [z, h] at e; cases e; exact k _ _ rfl
mutual
theorem Rep.thaw {g : Gx} {co co' : CO} {H : Hp} {a : Addr} {o : Obj} {xs : List V} {u : HO} (h : H a = some (.frz o (.lst xs))) : ∀ {v : V} {d : D}, Rep g co H v d → d.noL = true → Rep g co' (upd H a u) v d
  | _, _, .non, _ => .non
  | _, _, .bl b, _ => .bl b
  | _, _, .int i, _ => .int i
  | _, _, .str x, _ => .str x
  | _, _, .tup s r, e => by
    refine .tup ?_ (RepL.thaw h r (by simpa [D.noL] using e))
    rcases s with (s | ⟨o, s⟩) | s
    · exact .inl (.inl (upd_ext1F h _ _ s (fun _ _ z => nomatch z)))
    · exact .inl (.inr ⟨o, upd_ext1F h _ _ s (fun _ _ z => nomatch z)⟩)
    · exact .inr s
  | _, _, .lst _ _, e => by simp [D.noL] at e
  | _, _, .glb k, _ => .glb k
  | _, _, .exc _ _ _ _, e => by simp [D.noL] at e
  | _, _, .clo _ _, e => by simp [D.noL] at e
  | _, _, .own _, e => by simp [D.noL] at e
  | _, _, .pot k, _ => .pot k
  | _, _, .scr _, e => by simp [D.noL] at e
  | _, _, .rng k, _ => .rng (upd_ext1F h _ _ k (fun _ _ z => nomatch z))
theorem RepL.thaw {g : Gx} {co co' : CO} {H : Hp} {a : Addr} {o : Obj} {xs : List V} {u : HO} (h : H a = some (.frz o (.lst xs))) : ∀ {v : List V} {d : List D}, RepL g co H v d → D.noLs d = true → RepL g co' (upd H a u) v d
  | _, _, .nil, _ => .nil
  | _, _, .cons r t, e => by
    simp only [D.noLs, Bool.and_eq_true] at e
    exact .cons (Rep.thaw h r e.1) (RepL.thaw h t e.2)
end
mutual
theorem Rep.flat {g : Gx} {co co' : CO} {H : Hp} : ∀ {v : V} {d : D}, Rep g co H v d → d.noL = true → Rep g co' H v d
  | _, _, .non, _ => .non
  | _, _, .bl b, _ => .bl b
  | _, _, .int i, _ => .int i
  | _, _, .str x, _ => .str x
  | _, _, .tup s r, e => .tup s (RepL.flat r (by simpa [D.noL] using e))
  | _, _, .lst _ _, e => by simp [D.noL] at e
  | _, _, .glb k, _ => .glb k
  | _, _, .exc _ _ _ _, e => by simp [D.noL] at e
  | _, _, .clo _ _, e => by simp [D.noL] at e
  | _, _, .own _, e => by simp [D.noL] at e
  | _, _, .pot k, _ => .pot k
  | _, _, .scr _, e => by simp [D.noL] at e
  | _, _, .rng k, _ => .rng k
theorem RepL.flat {g : Gx} {co co' : CO} {H : Hp} : ∀ {v : List V} {d : List D}, RepL g co H v d → D.noLs d = true → RepL g co' H v d
  | _, _, .nil, _ => .nil
  | _, _, .cons r t, e => by
    simp only [D.noLs, Bool.and_eq_true] at e
    exact .cons (Rep.flat r e.1) (RepL.flat t e.2)
end
theorem StR.thaw {g : Gx} {H : Hp} {p : P3} {a : Addr} {o : Obj} {xs : List V} {u : HO} (s : StR g H p) (h : H a = some (.frz o (.lst xs))) : StR g (upd H a u) p := by
  refine ⟨?_, fun P hP => ?_⟩
  · have q := s.pot
    unfold PotR at q ⊢
    split at q
    · exact upd_ext1F h _ _ q (fun _ _ z => nomatch z)
    · trivial
    · exact q
  · obtain ⟨ps, h1, h2, h3⟩ := s.tab P hP
    refine ⟨ps, upd_ext1F h _ _ h1 (fun _ _ z => nomatch z), h2, fun pos cv hc => ?_⟩
    obtain ⟨c, e1, e2⟩ := h3 pos cv hc
    refine ⟨c, e1, upd_ext1F h _ _ e2 (fun _ _ z => ?_)⟩
    unfold CodeO at z
    cases z
/-- a judgement's weakest precondition, of any kind of result -/
abbrev TG0 (β : Type) := St → Hp → (β → Hp → Prop) → Prop
def borT {β : Type} (H0 : Hp) : List Nat → TG0 β → TG0 β
  | [], t => t
  | i :: is, t => fun σ H Q => ∃ a xs, σ[i]? = some (some (.ref a)) ∧ H a = some (.lst xs) ∧ (∀ o u, H0 a ≠ some (.frz o u)) ∧
    ∀ o, borT H0 is t σ (upd H a (.frz o (.lst xs))) fun v H1 => H1 a = some (.frz o (.lst xs)) ∧ Q v (upd H1 a (.lst xs))
section
variable {X : Cx} {J : Jc}
theorem pe_bor {e : Expr} {t : TE} (h : PE X e t) : ∀ is : List Nat, PE X e (borT X.H_0 is t)
  | [] => h
  | i :: is => by
    refine ⟨fun pins s σ H Q I ⟨a, xs, h1, h2, h3, q⟩ => ?_⟩
    obtain ⟨o, I1⟩ := inv_freeze I h2
    refine thn ((pe_bor h is).run pins s σ _ _ I1 (q o)) fun u s1 ⟨v, H1, I2, r, h4, q1⟩ => ?_
    exact ⟨v, _, inv_thaw I2 h4 h3, r, q1⟩
theorem pt_bor {e : Expr} {t : TT} (h : PT X e t) : ∀ is : List Nat, PT X e (borT X.H_0 is t)
  | [] => h
  | i :: is => by
    refine ⟨fun pins s σ H Q I ⟨a, xs, h1, h2, h3, q⟩ => ?_⟩
    obtain ⟨o, I1⟩ := inv_freeze I h2
    refine thn ((pt_bor h is).run pins s σ _ _ I1 (q o)) fun u s1 ⟨H1, I2, h4, q1⟩ => ?_
    exact ⟨_, inv_thaw I2 h4 h3, q1⟩
def frzE : List Nat → En → Option En
  | [], env => some env
  | i :: is, env => match env[i]? with
    | some (some (.l ds)) => frzE is (setE env i (.p (.lst ds)))
    | _ => none
theorem own_nofrz {g : Gx} {a : Addr} (h : Own X g a) : ∀ o u, X.H_0 a ≠ some (.frz o u) := fun o u e => by
  obtain ⟨ps, z⟩ := h.2 _ e
  cases z
theorem ext_thaw {g : Gx} {H Hf : Hp} {a : Addr} {o : Obj} {xs : List V} (h : H a = some (.lst xs)) (e : Ext g (upd H a (.frz o (.lst xs))) Hf) : Ext g H (upd Hf a (.lst xs)) := fun b w hb k n => by
  by_cases z : b = a
  · subst z
    rw [h] at hb
    cases hb
    exact upd_same
  · rw [upd_ne z]
    exact e b w (by rw [upd_ne z]; exact hb) k n
theorem frz_at {g : Gx} {H Hf : Hp} {a : Addr} {o : Obj} {xs : List V} (e : Ext g (upd H a (.frz o (.lst xs))) Hf) : Hf a = some (.frz o (.lst xs)) := e a _ upd_same (fun _ _ z => nomatch z) fun _ z => nomatch z
theorem bor_ind {β : Type} {σ : St} {t : TG0 β} {Pl : β → P3 → Hp → Prop} (st : ∀ v p H a o xs, H a = some (.frz o (.lst xs)) → Pl v p H → Pl v p (upd H a (.lst xs))) : ∀ (is : List Nat) {env envf : En} {p : P3} {H : Hp} {Q : β → Hp → Prop},
    frzE is env = some envf → ERep X J σ H env → StR J.g H p →
    (∀ Hf Q', ERep X J σ Hf envf → StR J.g Hf p → Ext1 H Hf → (∀ v p1 H1, Ext J.g Hf H1 → StR J.g H1 p1 → Pl v p1 H1 → (∀ H2, Ext J.g H H2 → StR J.g H2 p1 → Pl v p1 H2 → Q v H2) → Q' v H1) → t σ Hf Q') → borT X.H_0 is t σ H Q
  | [], env, envf, p, H, Q, he, r, s, h => by
    cases he
    exact h H Q r s .refl fun v p1 H1 e s1 pl q => q H1 e s1 pl
  | i :: is, env, envf, p, H, Q, he, r, s, h => by
    unfold frzE at he
    split at he
    · rename_i ds hi
      obtain ⟨a, xs, h1, h2, h3, h4⟩ := r.slot i _ hi
      refine ⟨a, xs, h1, h2, own_nofrz h4, fun o => ?_⟩
      refine bor_ind st is he (r.freeze hi h1 h2 h3 h4) (s.frzL h2 h4.1) fun Hf Q' rf sf xf back => ?_
      refine h Hf Q' rf sf ((ext1_lst h2).trans xf) fun v p1 H1 e s1 pl q => ?_
      refine back v p1 H1 e s1 pl fun H2 e2 s2 pl2 => ?_
      have h5 := frz_at e2
      exact ⟨h5, q _ (ext_thaw h2 e2) (s2.thaw h5) (st _ _ _ _ _ _ h5 pl2)⟩
    · cases he
/-- with the own lists in `is` seen -/
def onB (is : List Nat) (m : ME) (k : D → En → P3 → Res (Fl × En)) : MS := fun env p => match frzE is env with
  | none => .bad
  | some envf => match m (vwOf envf) p with
    | .ok d p1 => if d.noL then k d env p1 else .bad
    | .err x v p1 => .err x v p1
    | .bad => .bad
theorem onB_logic {is : List Nat} {me : ME} {k : D → En → P3 → Res (Fl × En)} {Dn : Ends} {σ : St} {H : Hp} {Q : VK} (h : tS X J (onB is me k) Dn σ H)
    (hq : ∀ env d p1 H1 v, Ext J.g H H1 → ERep X J σ H1 env → StR J.g H1 p1 → J.R σ H1 v d → PSt X J Dn σ H1 (k d env p1) → Q v H1) : borT X.H_0 is (tV J me) σ H Q := by
  obtain ⟨env, p, r, s, q⟩ := h
  unfold onB at q
  cases e0 : frzE is env with
  | none => rw [e0] at q; exact q.elim
  | some envf =>
    rw [e0] at q
    simp only at q
    cases e1 : me (vwOf envf) p with
    | bad => rw [e1] at q; exact q.elim
    | err x dv p1 =>
      rw [e1] at q
      refine bor_ind (Pl := fun _ _ _ => True) (fun _ _ _ _ _ _ _ _ => trivial) is e0 r s fun Hf Q' rf sf xf back => ⟨vwOf envf, p, rf.vrep, sf, ?_⟩
      rw [e1]
      exact err_st rf (PSt.at_ q xf)
    | ok d p1 =>
      rw [e1] at q
      by_cases hd : d.noL = true
      · simp only [hd, if_true] at q
        refine bor_ind (Pl := fun v p' H' => p' = p1 ∧ Rep J.g coN H' v d) (fun v p' H' a o xs ha ⟨z, rr⟩ => ⟨z, rr.thaw ha hd⟩) is e0 r s fun Hf Q' rf sf xf back => ⟨vwOf envf, p, rf.vrep, sf, ?_⟩
        rw [e1]
        intro H1 v x1 s1 r1
        refine back v p1 H1 x1 s1 ⟨rfl, Rep.flat r1 hd⟩ fun H2 x2 s2 ⟨_, r2⟩ => hq env d p1 H2 v x2 (r.ext1 x2) s2 r2.up (PSt.at_ q x2.hard)
      · simp only [hd, if_false, Bool.false_eq_true] at q
        exact q.elim

/-- with no own list seen nothing is asked of what comes -/
def onX (is : List Nat) (m : ME) (k : D → En → P3 → Res (Fl × En)) : MS := match is with
  | [] => onV m k
  | i :: is => onB (i :: is) m k
theorem onX_logicE {is : List Nat} {me : ME} {k : D → En → P3 → Res (Fl × En)} {Dn : Ends} {σ : St} {H : Hp} {Q : VK} (h : tS X J (onX is me k) Dn σ H)
    (hq : ∀ env d p1 H1 v, Ext J.g H H1 → ERep X J σ H1 env → StR J.g H1 p1 → J.R σ H1 v d → PSt X J Dn σ H1 (k d env p1) → Q v H1) : borT X.H_0 is (tV J me) σ H Q := by
  cases is with
  | nil =>
    obtain ⟨env, p, r, s, q⟩ := h
    refine ⟨vwOf env, p, r.vrep, s, ?_⟩
    unfold onX onV at q
    simp only at q
    cases e1 : me (vwOf env) p with
    | bad => rw [e1] at q; exact q
    | err x dv p1 => rw [e1] at q; exact err_st r q
    | ok d p1 =>
      rw [e1] at q
      exact fun H1 v x1 s1 r1 => hq env d p1 H1 v x1 (r.ext1 x1) s1 r1 (PSt.at_ (show PSt X J Dn σ H (k d env p1) from q) x1.hard)
  | cons i is => exact onB_logic h hq
theorem onX_logic {is : List Nat} {me : ME} {k : D → En → P3 → Res (Fl × En)} {Dn : Ends} {σ : St} {H : Hp} {Q : VK} (h : tS X J (onX is me k) Dn σ H)
    (hq : ∀ env d p1 H1 v, ERep X J σ H1 env → StR J.g H1 p1 → J.R σ H1 v d → PSt X J Dn σ H1 (k d env p1) → Q v H1) : borT X.H_0 is (tV J me) σ H Q :=
  onX_logicE h fun env d p1 H1 v _ => hq env d p1 H1 v
/-- an expression's tree, the own lists in `is` seen -/
def evV (is : List Nat) (m : ME) (env : En) (p : P3) : Res D := match is with
  | [] => m (vwOf env) p
  | i :: is => match frzE (i :: is) env with
    | none => .bad
    | some envf => match m (vwOf envf) p with
      | .ok d p1 => if d.noL then .ok d p1 else .bad
      | .err x v p1 => .err x v p1
      | .bad => .bad
theorem evV_logic {is : List Nat} {me : ME} {σ : St} {H : Hp} {env : En} {p : P3} {Q : VK} (r : ERep X J σ H env) (s : StR J.g H p)
    (q : match evV is me env p with
      | .ok d p1 => ∀ H2 v, Ext J.g H H2 → StR J.g H2 p1 → J.R σ H2 v d → Q v H2
      | .err x dv p1 => ∀ H', Ext J.g X.H_0 H' → ErrP J σ H' x dv p1
      | .bad => False) : borT X.H_0 is (tV J me) σ H Q := by
  cases is with
  | nil =>
    refine ⟨vwOf env, p, r.vrep, s, ?_⟩
    unfold evV at q
    simp only at q
    cases e1 : me (vwOf env) p with
    | bad => rw [e1] at q; exact q
    | err x dv p1 => rw [e1] at q; exact q H r.ext
    | ok d p1 => rw [e1] at q; exact fun H1 v x1 s1 r1 => q H1 v x1 s1 r1
  | cons i is =>
    unfold evV at q
    simp only at q
    cases e0 : frzE (i :: is) env with
    | none => rw [e0] at q; exact q.elim
    | some envf =>
      rw [e0] at q
      simp only at q
      cases e1 : me (vwOf envf) p with
      | bad => rw [e1] at q; exact q.elim
      | err x dv p1 =>
        rw [e1] at q
        refine bor_ind (Pl := fun _ _ _ => True) (fun _ _ _ _ _ _ _ _ => trivial) (i :: is) e0 r s fun Hf Q' rf sf xf back => ⟨vwOf envf, p, rf.vrep, sf, ?_⟩
        rw [e1]
        exact q Hf rf.ext
      | ok d p1 =>
        rw [e1] at q
        by_cases hd : d.noL = true
        · simp only [hd, if_true] at q
          refine bor_ind (Pl := fun v p' H' => p' = p1 ∧ Rep J.g coN H' v d) (fun v p' H' a o xs ha ⟨z, rr⟩ => ⟨z, rr.thaw ha hd⟩) (i :: is) e0 r s fun Hf Q' rf sf xf back => ⟨vwOf envf, p, rf.vrep, sf, ?_⟩
          rw [e1]
          intro H1 v x1 s1 r1
          exact back v p1 H1 x1 s1 ⟨rfl, Rep.flat r1 hd⟩ fun H2 x2 s2 ⟨_, r2⟩ => q H2 v x2 s2 r2.up
        · simp only [hd, if_false, Bool.false_eq_true] at q
/-! ### statements, own lists seen -/
section
variable {base : Heap} {k : Nat} {e : Expr} {pos : Pos} {m n : MS}
def xRet (is : List Nat) (me : ME) : MS := onX is me fun d env p => .ok (.ret d, env) p
theorem vx_ret {is : List Nat} {me : ME} (F : Fr0 X J base k) (h : VE X J e me) (pl : ∀ H, (J.co H).le coN := by intro _; exact .refl) : VS X J (.Return (some e) pos) (xRet is me) :=
  ps_imp (ps_ret (pe_bor h is)) fun Dn σ H q => onX_logic q fun env d p1 H1 v r s rv q => q H1 v r.ext s (plain1 pl rv)
def xExpr (is : List Nat) (me : ME) : MS := onX is me fun _ env p => .ok (.nx, env) p
theorem vx_expr {is : List Nat} {me : ME} (h : VE X J e me) (hs : swapsWith e none pos.line X.env = pure false := by rfl) : VS X J (.Expr e pos) (xExpr is me) :=
  ps_imp (ps_expr (pe_bor h is) hs) fun Dn σ H q => onX_logic q fun env d p1 H1 v r s rv q => q σ H1 r s .refl
def xSet (is : List Nat) (i : Nat) (me : ME) : MS := onX is me fun d env p => .ok (.nx, setE env i (.p d)) p
theorem vx_set {is : List Nat} {i : Nat} {x : Str} {me : ME} {pos' : Pos} (hN : X.N.Nodup) (he : VE X J e me) (hi : X.N[i]? = some x := by rfl) (hx : Loc X.env.scope x := by first | exact Or.inl rfl | exact Or.inr rfl) (hs : swapsWith e (some (.Name x pos')) pos.line X.env = pure false := by rfl)
    (hfn : X.fn x = true ∨ X.env.scope.names.lookup x = some .local := by first | exact .inl rfl | exact .inr rfl) : VS X J (.Assign [.Name x pos'] e pos) (xSet is i me) :=
  ps_imp (ps_set hN hi hx (pe_bor he is) hs hfn) fun Dn σ H q => onX_logic q fun env d p1 H1 v r s rv q => q _ _ (r.set rv) s .refl
def xTup (is js : List Nat) (me : ME) : MS := onX is me fun d env p => match d with
  | .tup ds => match putAll js ds env with
    | some env' => .ok (.nx, env') p
    | none => .bad
  | _ => .bad
theorem vx_tup {is : List Nat} {es : List Expr} {js : List Nat} {u : TGs} {me : ME} {j : Nat} {tpos : Pos} (hc : X.calm = true) (hK : J.g.K = X.K) (ht : TNames X es js u) (he : VE X J e me) (hn : (assignEach es X.env).length = js.length := by rfl) (hst : (assignEach es X.env).findIdx? (·.1) = none := by rfl)
    (hs : swapsWithSole [.Tuple es j tpos] e pos.line X.env = pure false := by rfl) (hw : swappedStores [.Tuple es j tpos] e X.env = pure none := by rfl) (h1 : (assignEach [.Tuple es j tpos] X.env).map (·.2) = [assign (.Tuple es j tpos) X.env] := by rfl) :
    VS X J (.Assign [.Tuple es j tpos] e pos) (xTup is js me) := by
  refine ps_imp (ps_asg (pe_bor he is) (pg_tup hc (tn_pgs ht) hn hst) hs hw h1) fun Dn σ H q => onX_logic q fun env d p1 H1 v r s rv q => ?_
  cases d with
  | tup ds =>
    cases rv with
    | tup sq rl =>
      simp only at q
      cases e1 : putAll js ds env with
      | none => rw [e1] at q; exact q.elim
      | some env' =>
        rw [e1] at q
        exact ⟨_, _, rfl, hK ▸ sq, by rw [rl.length, putAll_len e1], tn_run ht rl r e1 fun σ' er => q σ' H1 er s .refl⟩
  | _ => exact q.elim
def xIf (is : List Nat) (c : MB) (m n : MS) : MS := fun env p => match frzE is env with
  | none => .bad
  | some envf => match c (vwOf envf) p with
    | .ok true p1 => m env p1
    | .ok false p1 => n env p1
    | .err x v p1 => .err x v p1
    | .bad => .bad
theorem xif_logic {is : List Nat} {mc : MB} {Dn : Ends} {σ : St} {H : Hp} {Q : Bool → Hp → Prop} (h : tS X J (xIf is mc m n) Dn σ H)
    (hq : ∀ b H1, (b = true → tS X J m Dn σ H1) → (b = false → tS X J n Dn σ H1) → Q b H1) : borT X.H_0 is (tB J mc) σ H Q := by
  obtain ⟨env, p, r, s, q⟩ := h
  unfold xIf at q
  cases e0 : frzE is env with
  | none => rw [e0] at q; exact q.elim
  | some envf =>
    rw [e0] at q
    simp only at q
    cases e1 : mc (vwOf envf) p with
    | bad => rw [e1] at q; exact q.elim
    | err x dv p1 =>
      rw [e1] at q
      refine bor_ind (Pl := fun _ _ _ => True) (fun _ _ _ _ _ _ _ _ => trivial) is e0 r s fun Hf Q' rf sf xf back => ⟨vwOf envf, p, rf.vrep, sf, ?_⟩
      rw [e1]
      exact err_st rf (PSt.at_ q xf)
    | ok b p1 =>
      rw [e1] at q
      refine bor_ind (Pl := fun v p' _ => p' = p1 ∧ v = b) (fun v p' H' a o xs ha z => z) is e0 r s fun Hf Q' rf sf xf back => ⟨vwOf envf, p, rf.vrep, sf, ?_⟩
      rw [e1]
      intro H1 x1 s1
      refine back b p1 H1 x1 s1 ⟨rfl, rfl⟩ fun H2 x2 s2 _ => hq b H2 (fun z => ?_) (fun z => ?_)
      · subst z
        exact ⟨env, p1, r.ext1 x2, s2, PSt.at_ q x2.hard⟩
      · subst z
        exact ⟨env, p1, r.ext1 x2, s2, PSt.at_ q x2.hard⟩
theorem vx_if {is : List Nat} {c : Expr} {a b : List Stmt} {mc : MB} (hc : VT X J c mc) (ha : VSs X J a m) (hb : VSs X J b n) : VS X J (.If c a b pos) (xIf is mc m n) := by
  refine ps_imp (ps_if (pt_bor hc is) ha hb) fun Dn σ H q => xif_logic q fun b H1 h1 h2 => ?_
  cases b with
  | true => rw [if_pos rfl]; exact h1 rfl
  | false => rw [if_neg Bool.false_ne_true]; exact h2 rfl
/-! ### own lists turned -/
theorem ERep.turn {σ : St} {H : Hp} {env : En} {i : Nat} {a : Addr} {xs ys : List V} {ds ds' : List D} (r : ERep X J σ H env) (hi : env[i]? = some (some (.l ds))) (hs : σ[i]? = some (some (.ref a))) (ha : H a = some (.lst xs)) (rl : J.RL σ H ys ds') (ow : Own X J.g a) : ERep X J σ (upd H a (.lst ys)) (setE env i (.l ds')) := by
  have e1 : Ext1 H (upd H a (.lst ys)) := ext1_lst ha
  refine ⟨by unfold setE; rw [List.length_set, r.len], fun j sl h => ?_, fun a' b c hab hA hB => ?_, fun b u hb k n => ?_⟩
  · unfold setE at h
    by_cases hj : i = j
    · subst hj
      rw [List.getElem?_set_self (List.getElem?_eq_some_iff.mp hi).1] at h
      cases h
      exact ⟨a, ys, hs, upd_same, J.extL1 e1 rl, ow⟩
    · rw [List.getElem?_set_ne hj] at h
      have q := r.slot j sl h
      cases sl with
      | p d' =>
        obtain ⟨v', h1, h2⟩ := q
        exact ⟨v', h1, J.ext1 e1 h2⟩
      | l ds' =>
        obtain ⟨b, ys, h1, h2, h3, h4⟩ := q
        refine ⟨b, ys, h1, ?_, J.extL1 e1 h3, h4⟩
        rw [upd_ne]
        · exact h2
        · intro e
          subst e
          exact r.dist i j b hj ⟨ds, hi⟩ ⟨ds', h⟩ hs h1
  · have old : ∀ j, isOwn (setE env i (.l ds')) j → isOwn env j := fun j ⟨ds', h⟩ => by
      unfold setE at h
      by_cases hj : i = j
      · subst hj
        exact ⟨ds, hi⟩
      · rw [List.getElem?_set_ne hj] at h
        exact ⟨ds', h⟩
    exact r.dist a' b c hab (old a' hA) (old b hB)
  · have hne : b ≠ a := fun e => by
      subst e
      obtain ⟨ps, e⟩ := ow.2 u hb
      exact n ps e
    rw [upd_ne hne]
    exact r.ext b u hb k n
/-- slot i is an own list -/
def withL (i : Nat) (f : List D → MS) : MS := fun env p => match env[i]? with
  | some (some (.l ds)) => f ds env p
  | _ => .bad
theorem withL_logic {i : Nat} {f : List D → MS} {Dn : Ends} {σ : St} {H : Hp} (h : tS X J (withL i f) Dn σ H) : ∃ ds env p a xs, env[i]? = some (some (.l ds)) ∧ ERep X J σ H env ∧ StR J.g H p ∧ PSt X J Dn σ H (f ds env p) ∧ σ[i]? = some (some (.ref a)) ∧ H a = some (.lst xs) := by
  obtain ⟨env, p, r, s, q⟩ := h
  unfold withL at q
  split at q
  · rename_i ds hi
    obtain ⟨a, xs, h1, h2, _⟩ := r.slot i _ hi
    exact ⟨ds, env, p, a, xs, hi, r, s, q, h1, h2⟩
  · exact q.elim
/-- the list in slot i is turned by what comes -/
def xOwn (is : List Nat) (i : Nat) (f : List D → D → Option (List D)) (me : ME) : MS := withL i fun _ => onX is me fun d env p => match env[i]? with
  | some (some (.l ds)) => match f ds d with
    | some ds' => .ok (.nx, setE env i (.l ds')) p
    | none => .bad
  | _ => .bad
theorem xown_logic {is : List Nat} {i : Nat} {f : List D → D → Option (List D)} {me : ME} {Dn : Ends} {σ : St} {H : Hp} {Q : V → V → Hp → Prop} (h : tS X J (xOwn is i f me) Dn σ H)
    (hq : ∀ a xs ds ds' d v H1, σ[i]? = some (some (.ref a)) → H1 a = some (.lst xs) → J.RL σ H1 xs ds → J.R σ H1 v d → f ds d = some ds' → (∀ ys, J.RL σ H1 ys ds' → Dn.nx σ (upd H1 a (.lst ys))) → Q (.ref a) v H1) :
    ∃ a xs, σ[i]? = some (some (.ref a)) ∧ H a = some (.lst xs) ∧ borT X.H_0 is (tV J me) σ H (Q (.ref a)) := by
  obtain ⟨ds, env, p, a, xs, hi, r, s, q, h1, h2⟩ := withL_logic h
  refine ⟨a, xs, h1, h2, onX_logic ⟨env, p, r, s, q⟩ fun env1 d p1 H1 v r1 s1 rv q1 => ?_⟩
  split at q1
  · rename_i ds1 hi1
    obtain ⟨a', xs1, e1, e2, e3, e4⟩ := r1.slot i _ hi1
    rw [h1] at e1
    cases e1
    cases e5 : f ds1 d with
    | none => rw [e5] at q1; exact q1.elim
    | some ds' =>
      rw [e5] at q1
      exact hq a xs1 ds1 ds' d v H1 h1 e2 e3 rv e5 fun ys ry => q1 _ _ (r1.turn hi1 h1 e2 ry e4) (s1.updL e2 e4.1) (ext1_lst e2)
  · exact q1.elim
def fApp (ds : List D) (d : D) : Option (List D) := if ds.length < sizeLine then some (ds ++ [d]) else none
def xApp (is : List Nat) (i : Nat) (me : ME) : MS := xOwn is i fApp me
theorem vx_app {is : List Nat} {i : Nat} {x : Str} {me : ME} {p1 p2 p3 : Pos} (h : VE X J e me) (hN : X.N[i]? = some x := by rfl) (hv : Vis X.env.scope x := by first | exact Or.inl rfl | exact Or.inr (Or.inl rfl) | exact Or.inr (Or.inr rfl)) (hd : (x == ("__debug__" : Str)) = false := by decide)
    (hcd : (x == ("__classdict__" : Str)) = false := by decide) (hs : swapsWith (.Call (.Attribute (.Name x p1) "append" p2) [e] [] p3) none pos.line X.env = pure false := by rfl)
    (hbase : attributeBase (.Name x p1) "append" X.env (eval (.Name x p1) X.env) = eval (.Name x p1) X.env := by rfl)
    (hfew : ((backTo p3 (starEach [e] X.env)).all (fun x => !x.1) && (backToKw p3 (keywordEach [] X.env)).all (fun x => x.1.isSome)
      && decide ([e].length + ([] : List Keyword).length + (if ([] : List Keyword).isEmpty then 0 else 1) < 30)) = true := by rfl)
    (hline : (p2.endLine == p3.line) = true := by rfl) (hst : starEach [e] X.env = (false, eval e X.env) :: starEach [] X.env := by rfl) (hpl : (backTo p3 (starEach [] X.env)).any (·.1) = false := by rfl) :
    VS X J (.Expr (.Call (.Attribute (.Name x p1) "append" p2) [e] [] p3) pos) (xApp is i me) := by
  refine ps_imp (ps_expr (pe_bm PySem.F.plainAttrs_list PySem.F.slot_list_append PySem.F.type_list_append mt_append (pe_var hN hv hd hcd) (pa_cons (pe_bor h is) pa_nil hst) hbase hfew hline hst hpl) hs) fun Dn σ H q => ?_
  obtain ⟨a, xs, h1, h2, q⟩ := xown_logic (Q := fun x v H1 => rAppend x [v] H1 fun _ H2 => Dn.nx σ H2) q fun a xs ds ds' d v H1 h1 h2 rl rv e k => by
    unfold fApp at e
    split at e
    · rename_i hz
      cases e
      exact ⟨_, _, _, rfl, rfl, h2, by rw [rl.length]; exact hz, k _ (rl.append (.cons rv .nil))⟩
    · cases e
  exact ⟨.ref a, h1, .inl ⟨rfl, xs, .inl (.inl h2)⟩, q⟩
/-- xs.extend(ys): ys a list that never changes -/
def rExtendF : V → List V → Hp → VK → Prop := fun x vs H Q => ∃ l b xs zs, x = .ref l ∧ vs = [.ref b] ∧ H l = some (.lst xs) ∧ FzL H b zs ∧ xs.length + zs.length ≤ sizeLine ∧ Q .non (upd H l (.lst (xs ++ zs)))
theorem mt_extendF : MtM X "list.extend" rExtendF := by
  intro pins s σ H x vs v us Q I rx rv h
  obtain ⟨l, b, xs, zs, rfl, rfl, hH, hB, hz, q⟩ := h
  cases rx
  obtain ⟨u, rfl, ru⟩ := rv.one
  cases ru
  obtain ⟨z, its, n, r, hl, e⟩ := I.lstM hH
  obtain ⟨z2, its2, n2, r2, e2⟩ := inv_fz I hB
  have hl2 := r2.length
  have hsz : its.toArray.size + its2.toArray.size ≤ sizeLine := by rw [List.size_toArray, List.size_toArray]; omega
  have hlong : ¬ (!its.toArray.isEmpty && Builtin.List.listTooLong (its.toArray.size + its2.toArray.size)) = true := by
    rw [notLongL hsz, Bool.and_false]
    exact Bool.false_ne_true
  refine call_meets F.slot_list_extend ⟨_, e, rfl⟩ F.entry_list_extend (F.args_list_extend_2 _ _)
    (AutoSeq1.list_extend_list_list_0 l its.toArray n b its2.toArray n2 hlong (by rw [List.size_toArray]; omega) (by omega)) ⟨e, e2, ?_⟩
  refine ⟨.non, _, I.lset (its' := its ++ its2) hH e (by simp) (r.append r2) ?_, rfl, q⟩
  rw [List.length_append]
  omega
def fExt (ds : List D) (d : D) : Option (List D) := match d with
  | .lst zs => if ds.length + zs.length ≤ sizeLine then some (ds ++ zs) else none
  | _ => none
def xExt (is : List Nat) (i : Nat) (me : ME) : MS := xOwn is i fExt me
theorem vx_ext {is : List Nat} {i : Nat} {x : Str} {me : ME} {p1 p2 p3 : Pos} (h : VE X J e me) (hN : X.N[i]? = some x := by rfl) (hv : Vis X.env.scope x := by first | exact Or.inl rfl | exact Or.inr (Or.inl rfl) | exact Or.inr (Or.inr rfl)) (hd : (x == ("__debug__" : Str)) = false := by decide)
    (hcd : (x == ("__classdict__" : Str)) = false := by decide) (hs : swapsWith (.Call (.Attribute (.Name x p1) "extend" p2) [e] [] p3) none pos.line X.env = pure false := by rfl)
    (hbase : attributeBase (.Name x p1) "extend" X.env (eval (.Name x p1) X.env) = eval (.Name x p1) X.env := by rfl)
    (hfew : ((backTo p3 (starEach [e] X.env)).all (fun x => !x.1) && (backToKw p3 (keywordEach [] X.env)).all (fun x => x.1.isSome)
      && decide ([e].length + ([] : List Keyword).length + (if ([] : List Keyword).isEmpty then 0 else 1) < 30)) = true := by rfl)
    (hline : (p2.endLine == p3.line) = true := by rfl) (hst : starEach [e] X.env = (false, eval e X.env) :: starEach [] X.env := by rfl) (hpl : (backTo p3 (starEach [] X.env)).any (·.1) = false := by rfl) :
    VS X J (.Expr (.Call (.Attribute (.Name x p1) "extend" p2) [e] [] p3) pos) (xExt is i me) := by
  refine ps_imp (ps_expr (pe_bm PySem.F.plainAttrs_list PySem.F.slot_list_extend PySem.F.type_list_extend mt_extendF (pe_var hN hv hd hcd) (pa_cons (pe_bor h is) pa_nil hst) hbase hfew hline hst hpl) hs) fun Dn σ H q => ?_
  obtain ⟨a, xs, h1, h2, q⟩ := xown_logic (Q := fun x v H1 => rExtendF x [v] H1 fun _ H2 => Dn.nx σ H2) q fun a xs ds ds' d v H1 h1 h2 rl rv e k => by
    unfold fExt at e
    split at e
    · cases rv with
      | lst fz rz =>
        split at e
        · rename_i hz
          cases e
          exact ⟨_, _, _, _, rfl, rfl, h2, fz, by rw [rl.length, rz.length]; exact hz, k _ (rl.append rz)⟩
        · cases e
    · cases e
  exact ⟨.ref a, h1, .inl ⟨rfl, xs, .inl (.inl h2)⟩, q⟩
/-- xs[i] = e -/
def xSetIx (is : List Nat) (i : Nat) (me : ME) (is2 : List Nat) (mi : ME) : MS := onX is me fun d => withL i fun _ => onX is2 mi fun di env p => match env[i]?, di with
  | some (some (.l ds)), .int k => match ixN ds.length k with
    | some j => .ok (.nx, setE env i (.l (ds.set j d))) p
    | none => .bad
  | _, _ => .bad
theorem vx_setIx {is is2 : List Nat} {i : Nat} {x : Str} {me mi : ME} {ie : Expr} {p1 p2 : Pos} (h : VE X J e me) (hi : VE X J ie mi) (hN : X.N[i]? = some x := by rfl) (hv : Vis X.env.scope x := by first | exact Or.inl rfl | exact Or.inr (Or.inl rfl) | exact Or.inr (Or.inr rfl)) (hd : (x == ("__debug__" : Str)) = false := by decide)
    (hcd : (x == ("__classdict__" : Str)) = false := by decide)
    (ha : ∀ v, assign (.Subscript (.Name x p1) ie p2) X.env v = (do
      let ov ← holding [v] (eval (.Name x p1) X.env)
      let iv ← holding [v, ov] (eval ie X.env)
      standAt p2
      holding [v, ov, iv] (setItem ov iv v)
      release [v, ov, iv] []) := by intro _; rfl)
    (hs : swapsWithSole [.Subscript (.Name x p1) ie p2] e pos.line X.env = pure false := by rfl) (hw : swappedStores [.Subscript (.Name x p1) ie p2] e X.env = pure none := by rfl)
    (h1 : (assignEach [.Subscript (.Name x p1) ie p2] X.env).map (·.2) = [assign (.Subscript (.Name x p1) ie p2) X.env] := by rfl) :
    VS X J (.Assign [.Subscript (.Name x p1) ie p2] e pos) (xSetIx is i me is2 mi) := by
  refine ps_imp (ps_asg (pe_bor h is) (pg_sub (pe_var hN hv hd hcd) (pe_bor hi is2) set_list ha) hs hw h1) fun Dn σ H q => onX_logic q fun env d p1 H1 v r s rv q => ?_
  obtain ⟨ds, env', p', a, xs, e1, r', s', q', h2, h3⟩ := withL_logic ⟨env, p1, r, s, q⟩
  refine ⟨.ref a, h2, ?_⟩
  refine onX_logicE (Q := fun iv H2 => rSetL (.ref a) iv v H2 fun H3 => Dn.nx σ H3) ⟨env', p', r', s', q'⟩ fun env2 di p2 H2 iv x2 r2 s2 ri q2 => ?_
  split at q2
  · rename_i ds2 k hi2
    obtain ⟨a', xs2, e2, e3, e4, e5⟩ := r2.slot i _ hi2
    rw [h2] at e2
    cases e2
    cases ri
    cases e6 : ixN ds2.length k with
    | none => rw [e6] at q2; exact q2.elim
    | some j =>
      rw [e6] at q2
      exact ⟨_, _, _, j, rfl, rfl, e3, by rw [e4.length]; exact e6, q2 _ _ (r2.turn hi2 h2 e3 (e4.set (J.ext x2 rv) j) e5) (s2.updL e3 e5.1) (ext1_lst e3)⟩
  · exact q2.elim
/-! ### new lists, own lists seen -/
def onXN (is : List Nat) (m : MA) (k : List D → En → P3 → Res (Fl × En)) : MS := match is with
  | [] => onN m k
  | i :: is => fun env p => match frzE (i :: is) env with
    | none => .bad
    | some envf => match m (vwOf envf) p with
      | .ok d p1 => if D.noLs d then k d env p1 else .bad
      | .err x v p1 => .err x v p1
      | .bad => .bad
theorem ERep.own2 {σ : St} {H : Hp} {env : En} {i : Nat} {a : Addr} {xs : List V} {ds : List D} (r : ERep X J σ H env) (ha : H a = some (.lst xs)) (rl : J.RL σ H xs ds) (ow : Own X J.g a) (fresh : ∀ j, isOwn env j → σ[j]? ≠ some (some (.ref a))) : ERep X J (σ.set i (some (.ref a))) H (setE env i (.l ds)) := by
  refine ⟨by unfold setE; rw [List.length_set, List.length_set, r.len], fun j sl h => ?_, fun a' b c hab hA hB => ?_, r.ext⟩
  · unfold setE at h
    by_cases hj : i = j
    · subst hj
      by_cases hl : i < env.length
      · rw [List.getElem?_set_self hl] at h
        cases h
        exact ⟨a, xs, by rw [List.getElem?_set_self (by rw [← r.len]; exact hl)], ha, rl, ow⟩
      · rw [List.getElem?_eq_none (by rw [List.length_set]; exact Nat.le_of_not_lt hl)] at h; cases h
    · rw [List.getElem?_set_ne hj] at h
      have q := r.slot j sl h
      cases sl with
      | p d' =>
        obtain ⟨v', h1, h2⟩ := q
        exact ⟨v', by rw [List.getElem?_set_ne hj]; exact h1, h2⟩
      | l ds =>
        obtain ⟨a, xs, h1, h2, h3, h4⟩ := q
        exact ⟨a, xs, by rw [List.getElem?_set_ne hj]; exact h1, h2, h3, h4⟩
  · have old : ∀ j, j ≠ i → isOwn (setE env i (.l ds)) j → isOwn env j := fun j hj ⟨ds', h⟩ => by
      unfold setE at h
      rw [List.getElem?_set_ne (Ne.symm hj)] at h
      exact ⟨ds', h⟩
    have at_i : ∀ j, isOwn (setE env i (.l ds)) j → j < env.length := fun j ⟨ds', h⟩ => by
      have := (List.getElem?_eq_some_iff.mp h).1
      unfold setE at this
      rw [List.length_set] at this
      exact this
    by_cases h1 : a' = i
    · subst h1
      have hb : b ≠ a' := fun e => hab e.symm
      rw [List.getElem?_set_self (by rw [← r.len]; exact at_i a' hA), List.getElem?_set_ne (Ne.symm hb)]
      intro e1 e2
      cases e1
      exact fresh b (old b hb hB) e2
    · by_cases h2 : b = i
      · subst h2
        rw [List.getElem?_set_ne (Ne.symm h1), List.getElem?_set_self (by rw [← r.len]; exact at_i b hB)]
        intro e1 e2
        cases e2
        exact fresh a' (old a' h1 hA) e1
      · rw [List.getElem?_set_ne (Ne.symm h1), List.getElem?_set_ne (Ne.symm h2)]
        exact r.dist a' b c hab (old a' h1 hA) (old b h2 hB)
/-- a new list as it stands -/
structure NewL (X : Cx) (J : Jc) (σ : St) (env : En) (ds : List D) (v : V) (H : Hp) : Prop where
  at_ : ∃ a xs, v = .ref a ∧ H a = some (.lst xs) ∧ J.RL σ H xs ds ∧ Own X J.g a ∧ ∀ j, isOwn env j → σ[j]? ≠ some (some (.ref a))
theorem newL_of {σ : St} {H : Hp} {env : En} {p : P3} {a : Addr} {xs : List V} {ds : List D} (r : ERep X J σ H env) (s : StR J.g H p) (ha : H a = none) (rl : J.RL σ H xs ds) : NewL X J σ env ds (.ref a) (upd H a (.lst xs)) := by
  refine ⟨a, xs, rfl, upd_same, J.extL (Grow.upd ha).ext rl, ⟨pot_ne s ha, fun o ho => ?_⟩, fun j ⟨ds', h⟩ e => ?_⟩
  · refine Classical.byContradiction fun z => ?_
    have w := r.ext a o ho (fun e => absurd e (pot_ne s ha)) fun ps e => z ⟨ps, e⟩
    rw [ha] at w
    cases w
  · obtain ⟨b, ys, h1, h2, _⟩ := r.slot j _ h
    rw [e] at h1
    cases h1
    rw [ha] at h2
    cases h2
theorem onXN_logic {is : List Nat} {ms : MA} {k : List D → En → P3 → Res (Fl × En)} {Dn : Ends} {σ : St} {H : Hp} {Q : VK} (h : tS X J (onXN is ms k) Dn σ H)
    (hq : ∀ env ds p1 H1 v, ERep X J σ H1 env → StR J.g H1 p1 → NewL X J σ env ds v H1 → PSt X J Dn σ H1 (k ds env p1) → Q v H1) : borT X.H_0 is (tN J ms) σ H Q := by
  obtain ⟨env, p, r, s, q⟩ := h
  cases is with
  | nil =>
    unfold onXN onN at q
    simp only at q
    refine ⟨vwOf env, p, r.vrep, s, ?_⟩
    cases e1 : ms (vwOf env) p with
    | bad => rw [e1] at q; exact q
    | err x dv p1 => rw [e1] at q; exact err_st r q
    | ok ds p1 =>
      rw [e1] at q
      intro H1 a xs x1 s1 hn r1
      have gr : Ext J.g H1 (upd H1 a (.lst xs)) := (Grow.upd hn).ext
      exact hq env ds p1 _ _ ((r.ext1 x1).ext1 gr) (s1.grow (Grow.upd hn)) (newL_of (r.ext1 x1) s1 hn r1) (PSt.at_ q (x1.trans gr).hard)
  | cons i is =>
    unfold onXN at q
    simp only at q
    cases e0 : frzE (i :: is) env with
    | none => rw [e0] at q; exact q.elim
    | some envf =>
      rw [e0] at q
      simp only at q
      cases e1 : ms (vwOf envf) p with
      | bad => rw [e1] at q; exact q.elim
      | err x dv p1 =>
        rw [e1] at q
        refine bor_ind (Pl := fun _ _ _ => True) (fun _ _ _ _ _ _ _ _ => trivial) (i :: is) e0 r s fun Hf Q' rf sf xf back => ⟨vwOf envf, p, rf.vrep, sf, ?_⟩
        rw [e1]
        exact err_st rf (PSt.at_ q xf)
      | ok ds p1 =>
        rw [e1] at q
        by_cases hd : D.noLs ds = true
        · simp only [hd, if_true] at q
          have frs : ∀ {envf : En} {is : List Nat} {env : En}, frzE is env = some envf → ∀ j, isOwn env j → isOwn envf j ∨ ∃ ds, envf[j]? = some (some (.p (.lst ds))) := by
            intro envf is
            induction is with
            | nil => intro env he j hj; cases he; exact .inl hj
            | cons i is ih =>
              intro env he j hj
              unfold frzE at he
              split at he
              · rename_i ds0 hi
                by_cases hij : i = j
                · subst hij
                  have keep : ∀ {is : List Nat} {env envf : En} {ds : List D}, frzE is env = some envf → env[i]? = some (some (.p (.lst ds))) → envf[i]? = some (some (.p (.lst ds))) := by
                    intro is
                    induction is with
                    | nil => intro env envf ds he h; cases he; exact h
                    | cons k is ih2 =>
                      intro env envf ds he h
                      unfold frzE at he
                      split at he
                      · rename_i ds1 hk
                        refine ih2 he ?_
                        unfold setE
                        rw [List.getElem?_set_ne]
                        · exact h
                        · intro e; subst e; rw [hk] at h; cases h
                      · cases he
                  refine .inr ⟨ds0, keep he ?_⟩
                  unfold setE
                  rw [List.getElem?_set_self (List.getElem?_eq_some_iff.mp hi).1]
                · refine ih he j ?_
                  obtain ⟨ds', h⟩ := hj
                  exact ⟨ds', by unfold setE; rw [List.getElem?_set_ne hij]; exact h⟩
              · cases he
          refine bor_ind (Pl := fun v p' H' => p' = p1 ∧ ∃ a xs, v = .ref a ∧ H' a = some (.lst xs) ∧ RepL J.g coN H' xs ds ∧ Own X J.g a ∧ ∀ j, isOwn env j → σ[j]? ≠ some (some (.ref a)))
            (fun v p' H' a o xs ha ⟨z, b, ys, h1, h2, h3, h4⟩ => ⟨z, b, ys, h1, by rw [upd_ne (fun z => by subst z; rw [ha] at h2; cases h2)]; exact h2, h3.thaw ha hd, h4⟩) (i :: is) e0 r s fun Hf Q' rf sf xf back => ⟨vwOf envf, p, rf.vrep, sf, ?_⟩
          rw [e1]
          intro H1 a xs x1 s1 hn r1
          have gr : Ext J.g H1 (upd H1 a (.lst xs)) := (Grow.upd hn).ext
          obtain ⟨a', xs', ev, ha', rl', ow', fr'⟩ := (newL_of (rf.ext1 x1) s1 hn r1).at_
          cases ev
          refine back (.ref a) p1 _ (x1.trans gr) (s1.grow (Grow.upd hn)) ⟨rfl, a, xs', rfl, ha', RepL.flat rl' hd, ow', fun j hj e => ?_⟩ fun H2 x2 s2 ⟨_, b, ys, ev, h2, h3, h4, h5⟩ => ?_
          · rcases frs e0 j hj with k | ⟨ds', k⟩
            · exact fr' j k e
            · obtain ⟨v, h1, h2⟩ := (rf.ext1 x1).slot j _ k
              rw [e] at h1
              cases h1
              cases h2 with
              | lst fz _ =>
                obtain ⟨o, fz⟩ := fz
                rw [hn] at fz
                cases fz
          · cases ev
            exact hq env ds p1 H2 _ (r.ext1 x2) s2 ⟨a, ys, rfl, h2, h3.ext .refl coN_le, h4, h5⟩ (PSt.at_ q x2.hard)
        · simp only [hd, if_false, Bool.false_eq_true] at q
          exact q.elim
def xNew (is : List Nat) (i : Nat) (ms : MA) : MS := onXN is ms fun ds env p => .ok (.nx, setE env i (.l ds)) p
theorem xnew_logic {is : List Nat} {i : Nat} {ms : MA} {Dn : Ends} {σ : St} {H : Hp} (h : tS X J (xNew is i ms) Dn σ H) : tAsg (borT X.H_0 is (tN J ms)) (gName i) Dn σ H := by
  refine onXN_logic h fun env ds p1 H1 v r s ⟨a, xs, ev, h1, h2, h3, h4⟩ q => ?_
  subst ev
  exact q _ _ (r.own2 h1 h2 h3 h4) s .refl
theorem vx_new {is : List Nat} {i : Nat} {x : Str} {ms : MA} {pos' : Pos} (hN : X.N.Nodup) (he : VN X J e ms) (hi : X.N[i]? = some x := by rfl) (hx : Loc X.env.scope x := by first | exact Or.inl rfl | exact Or.inr rfl) (hs : swapsWith e (some (.Name x pos')) pos.line X.env = pure false := by rfl)
    (hfn : X.fn x = true ∨ X.env.scope.names.lookup x = some .local := by first | exact .inl rfl | exact .inr rfl) : VS X J (.Assign [.Name x pos'] e pos) (xNew is i ms) :=
  ps_imp (ps_set hN hi hx (pe_bor he is) hs hfn) fun Dn σ H q => xnew_logic q
/-! ### a, b = e1, e2 with new lists -/
abbrev El := (List Nat × ME) ⊕ MA
def evs : List El → En → P3 → Res (List Sl)
  | [], _, p => .ok [] p
  | .inl (is, m) :: es, env, p => (evV is m env p).bind fun d p1 => (evs es env p1).bind fun sl p2 => .ok (.p d :: sl) p2
  | .inr m :: es, env, p => (m (vwOf env) p).bind fun ds p1 => (evs es env p1).bind fun sl p2 => .ok (.l ds :: sl) p2
/-- the slots of an env turned about -/
theorem ERep.re {σ σ' : St} {H : Hp} {env env' : En} (f : Nat → Nat) (r : ERep X J σ H env) (hl : env'.length = σ'.length) (h : ∀ j sl, env'[j]? = some (some sl) → env[f j]? = some (some sl) ∧ σ'[j]? = σ[f j]?)
    (inj : ∀ i j, i ≠ j → i < env'.length → j < env'.length → f i ≠ f j) : ERep X J σ' H env' := by
  refine ⟨hl, fun j sl hj => ?_, fun a b c hab hA hB => ?_, r.ext⟩
  · obtain ⟨h1, h2⟩ := h j sl hj
    have q := r.slot (f j) sl h1
    unfold SlRep at q ⊢
    rw [h2]
    exact q
  · obtain ⟨ds, hA⟩ := hA
    obtain ⟨es, hB⟩ := hB
    obtain ⟨h1, h2⟩ := h a _ hA
    obtain ⟨h3, h4⟩ := h b _ hB
    rw [h2, h4]
    exact r.dist _ _ c (inj a b hab (List.getElem?_eq_some_iff.mp hA).1 (List.getElem?_eq_some_iff.mp hB).1) ⟨ds, h1⟩ ⟨es, h3⟩
theorem ERep.left {σ : St} {H : Hp} {env : En} {w : St} {sl : En} (r : ERep X J (σ ++ w) H (env ++ sl)) (hl : env.length = σ.length) : ERep X J σ H env := by
  refine r.re id hl (fun j s hj => ?_) fun i j h _ _ => h
  have := (List.getElem?_eq_some_iff.mp hj).1
  exact ⟨by rw [id, List.getElem?_append_left this]; exact hj, by rw [id, List.getElem?_append_left (by omega)]⟩
theorem ERep.pushP {σ : St} {H : Hp} {env : En} {v : V} {d : D} (r : ERep X J σ H env) (rv : J.R σ H v d) : ERep X J (σ ++ [some v]) H (env ++ [some (.p d)]) := by
  have r0 : ERep X J (σ ++ [none]) H (env ++ [none]) := by
    refine ⟨by rw [List.length_append, List.length_append, r.len]; rfl, fun j sl h => ?_, fun a b c hab hA hB => ?_, r.ext⟩
    · have hj : j < env.length := by
        refine Classical.byContradiction fun z => ?_
        rw [List.getElem?_append_right (by omega)] at h
        cases e : j - env.length with
        | zero => rw [e] at h; cases h
        | succ m => rw [e] at h; cases h
      rw [List.getElem?_append_left hj] at h
      have q := r.slot j sl h
      unfold SlRep at q ⊢
      rw [List.getElem?_append_left (by rw [← r.len]; exact hj)]
      exact q
    · have at_ : ∀ j, isOwn (env ++ [none]) j → j < env.length ∧ isOwn env j := fun j ⟨ds, h⟩ => by
        have hj : j < env.length := by
          refine Classical.byContradiction fun z => ?_
          rw [List.getElem?_append_right (by omega)] at h
          cases e : j - env.length with
          | zero => rw [e] at h; cases h
          | succ m => rw [e] at h; cases h
        rw [List.getElem?_append_left hj] at h
        exact ⟨hj, ds, h⟩
      obtain ⟨a1, a2⟩ := at_ a hA
      obtain ⟨b1, b2⟩ := at_ b hB
      rw [List.getElem?_append_left (by rw [← r.len]; exact a1), List.getElem?_append_left (by rw [← r.len]; exact b1)]
      exact r.dist a b c hab a2 b2
  have q := r0.set (i := env.length) rv
  have e1 : (σ ++ [none]).set env.length (some v) = σ ++ [some v] := by
    rw [r.len, List.set_append_right _ _ (Nat.le_refl _)]
    simp
  have e2 : (env ++ [none]).set env.length (some (.p d)) = env ++ [some (.p d)] := by
    rw [List.set_append_right _ _ (Nat.le_refl _)]
    simp
  rw [e1, e2] at q
  exact q
theorem ERep.pushL {σ : St} {H : Hp} {env : En} {a : Addr} {xs : List V} {ds : List D} (r : ERep X J σ H env) (ha : H a = some (.lst xs)) (rl : J.RL σ H xs ds) (ow : Own X J.g a) (fresh : ∀ j, isOwn env j → σ[j]? ≠ some (some (.ref a))) : ERep X J (σ ++ [some (.ref a)]) H (env ++ [some (.l ds)]) := by
  have r0 := r.pushP (v := .non) (d := .non) .non
  have q := r0.own2 (i := env.length) ha rl ow fun j ⟨ds', h⟩ => by
    by_cases hj : j < env.length
    · rw [List.getElem?_append_left hj] at h
      rw [List.getElem?_append_left (by rw [← r.len]; exact hj)]
      exact fresh j ⟨ds', h⟩
    · rw [List.getElem?_append_right (by omega)] at h
      cases e : j - env.length with
      | zero => rw [e] at h; cases h
      | succ m => rw [e] at h; cases h
  have e1 : (σ ++ [some V.non]).set env.length (some (.ref a)) = σ ++ [some (.ref a)] := by
    rw [r.len, List.set_append_right _ _ (Nat.le_refl _)]
    simp
  have e2 : setE (env ++ [some (Sl.p D.non)]) env.length (.l ds) = env ++ [some (.l ds)] := by
    unfold setE
    rw [List.set_append_right _ _ (Nat.le_refl _)]
    simp
  rw [e1, e2] at q
  exact q
/-- the elements of a display one after the other -/
inductive PEls (X : Cx) (J : Jc) : List Expr → List El → TA → Prop where
  | nil : PEls X J [] [] tNil
  | cons {e : Expr} {es : List Expr} {l : El} {ls : List El} {te : TE} {ta : TA} : PE X e te → (∀ σ H Q, (match l with | .inl (is, m) => borT X.H_0 is (tV J m) σ H Q | .inr m => tN J m σ H Q) → te σ H Q) → PEls X J es ls ta → PA X (e :: es) (tCons te ta) → PEls X J (e :: es) (l :: ls) (tCons te ta)
theorem PEls.pa {es : List Expr} {ls : List El} {ta : TA} (h : PEls X J es ls ta) : PA X es ta := by
  cases h with
  | nil => exact pa_nil
  | cons _ _ _ h => exact h
theorem pels_p {es : List Expr} {ls : List El} {ta : TA} {me : ME} {is : List Nat} (h : VE X J e me) (t : PEls X J es ls ta) (hst : starEach (e :: es) X.env = (false, eval e X.env) :: starEach es X.env := by rfl) : PEls X J (e :: es) (.inl (is, me) :: ls) (tCons (borT X.H_0 is (tV J me)) ta) :=
  .cons (pe_bor h is) (fun _ _ _ q => q) t (pa_cons (pe_bor h is) t.pa hst)
theorem pels_l {es : List Expr} {ls : List El} {ta : TA} {ms : MA} (h : VN X J e ms) (t : PEls X J es ls ta) (hst : starEach (e :: es) X.env = (false, eval e X.env) :: starEach es X.env := by rfl) : PEls X J (e :: es) (.inr ms :: ls) (tCons (tN J ms) ta) :=
  .cons h (fun _ _ _ q => q) t (pa_cons h t.pa hst)
theorem pels_run {σ : St} {env : En} (hl : env.length = σ.length) {es : List Expr} {ls : List El} {ta : TA} (h : PEls X J es ls ta) : ∀ {w : List V} {sl0 : List Sl} {H : Hp} {p : P3} {Q : List V → Hp → Prop},
    ERep X J (σ ++ w.map some) H (env ++ sl0.map some) → StR J.g H p →
    (match evs ls env p with
    | .ok sls p' => ∀ vs H', Ext J.g H H' → ERep X J (σ ++ (w ++ vs).map some) H' (env ++ (sl0 ++ sls).map some) → StR J.g H' p' → vs.length = sls.length → Q vs H'
    | .err x dv p' => ∀ H', Ext J.g X.H_0 H' → ErrP J σ H' x dv p'
    | .bad => False) → ta σ H Q := by
  induction h with
  | nil =>
    intro w sl0 H p Q r s q
    exact q [] H .refl (by simpa using r) s rfl
  | @cons e es l ls te ta he hi ht hp ih =>
    intro w sl0 H p Q r s q
    have r1 := r.left hl
    refine hi _ _ _ ?_
    cases l with
    | inl im =>
      obtain ⟨is, m⟩ := im
      refine evV_logic r1 s ?_
      simp only [evs] at q
      cases e1 : evV is m env p with
      | bad => rw [e1] at q; exact q.elim
      | err x dv p1 => rw [e1] at q; exact fun H' e' => q H' e'
      | ok d p1 =>
        rw [e1] at q
        intro H1 v x1 s1 rv
        have r2 := (r.ext1 x1).pushP (v := v) (d := d) rv
        rw [List.append_assoc, List.append_assoc, show w.map some ++ [some v] = (w ++ [v]).map some by simp, show sl0.map some ++ [some (Sl.p d)] = (sl0 ++ [Sl.p d]).map some by simp] at r2
        refine ih r2 s1 ?_
        simp only [Res.bind] at q
        cases e2 : evs ls env p1 with
        | bad => rw [e2] at q; exact q.elim
        | err x dv p2 => rw [e2] at q; exact fun H' => q H'
        | ok sls p2 =>
          rw [e2] at q
          simp only at q ⊢
          intro vs H2 x2 r3 s2 hz
          refine q (v :: vs) H2 (x1.trans x2) ?_ s2 (congrArg (· + 1) hz)
          rw [List.append_assoc, List.append_assoc] at r3
          exact r3
    | inr m =>
      refine ⟨vwOf env, p, r1.vrep, s, ?_⟩
      simp only [evs] at q
      cases e1 : m (vwOf env) p with
      | bad => rw [e1] at q; exact q.elim
      | err x dv p1 => rw [e1] at q; exact fun H' C dd y e => q H r1.ext H' C dd y e
      | ok d p1 =>
        rw [e1] at q
        intro H1 a xs x1 s1 hn rl
        have gr : Ext J.g H1 (upd H1 a (.lst xs)) := (Grow.upd hn).ext
        obtain ⟨a', xs', ev, ha', rl', ow', fr'⟩ := (newL_of (r.ext1 x1) s1 hn rl).at_
        cases ev
        have r2 := ((r.ext1 x1).ext1 gr).pushL ha' rl' ow' fr'
        rw [List.append_assoc, List.append_assoc, show w.map some ++ [some (V.ref a)] = (w ++ [V.ref a]).map some by simp, show sl0.map some ++ [some (Sl.l d)] = (sl0 ++ [Sl.l d]).map some by simp] at r2
        refine ih r2 (s1.grow (Grow.upd hn)) ?_
        simp only [Res.bind] at q
        cases e2 : evs ls env p1 with
        | bad => rw [e2] at q; exact q.elim
        | err x dv p2 => rw [e2] at q; exact fun H' => q H'
        | ok sls p2 =>
          rw [e2] at q
          simp only at q ⊢
          intro vs H2 x2 r3 s2 hz
          refine q (.ref a :: vs) H2 ((x1.trans gr).trans x2) ?_ s2 (congrArg (· + 1) hz)
          rw [List.append_assoc, List.append_assoc] at r3
          exact r3
def setAll : List Nat → List Sl → En → En
  | i :: is, s :: ss, env => setAll is ss (setE env i s)
  | _, _, env => env
def sPar (is : List Nat) (ls : List El) : MS := fun env p => match evs ls env p with
  | .ok sls p' => .ok (.nx, setAll is sls env) p'
  | .err x v p' => .err x v p'
  | .bad => .bad
end
end
end VL

namespace VL
open PySem PySem.Spec PyProof.Rows L2 LamX
/-! ### what is walked: zip -/
/-- a list (false), a tuple (true) -/
def SqK (K : PySem.W.Frag) : Bool → Hp → Addr → List V → Prop
  | false => SqL K
  | true => SqT K
def HSq : Bool → Heap → Addr → Array Value → Prop
  | false => fun h a its => h.IsList a its
  | true => fun h a its => h.IsTuple a its
def HIt : Bool → Heap → Addr → Addr → Nat → Prop
  | false => fun h i a n => h.IsListIter i a n
  | true => fun h i a n => h.IsTupleIter i a n
def oIt : Bool → Addr → Obj
  | false => fun a => { cls := .type "list_iterator", data := .fields #[.ref a, .int 0 0] }
  | true => fun a => { cls := .type "tuple_iterator", data := .fields #[.ref a, .int 0 0] }
theorem hit_keep {k : Bool} {h h' : Heap} {i a : Addr} {n : Nat} (s : HIt k h i a n) (e : ∀ o, h.get? i = some o → h'.get? i = some o) : HIt k h' i a n := by
  cases k with
  | false => exact (show h.IsListIter i a n from s).at e
  | true => exact (show h.IsTupleIter i a n from s).at e
theorem hit_obj {k : Bool} {h : Heap} {i a : Addr} {n : Nat} (s : HIt k h i a n) : ∃ o, h.get? i = some o ∧ ∀ v, o.data ≠ .cell v := by
  cases k with
  | false =>
    obtain ⟨o, e, _, d⟩ := (show h.IsListIter i a n from s)
    exact ⟨o, e, fun v z => by rw [d] at z; cases z⟩
  | true =>
    obtain ⟨o, e, _, d⟩ := (show h.IsTupleIter i a n from s)
    exact ⟨o, e, fun v z => by rw [d] at z; cases z⟩
theorem oIt_it {k : Bool} {h : Heap} {i a : Addr} (e : h.get? i = some (oIt k a)) : HIt k h i a 0 := by
  cases k with
  | false => exact ⟨_, e, rfl, rfl⟩
  | true => exact ⟨_, e, rfl, rfl⟩
theorem draws_k {P : Program} {w : World} {A : Around} (hh : A.handled = none) (k : Bool) (it a : Addr) (hne : a ≠ it) (items : Array Value) : Draws P w A it [it, a] items.size (fun i v => items[i]? = some v) (fun i h => HIt k h it a i ∧ HSq k h a items) := by
  cases k with
  | false => exact Draws.list hh it a hne items
  | true => exact Draws.tuple hh it a hne items
theorem begins_k (k : Bool) (a : Addr) (items : Array Value) : Begins (.ref a) (oIt k a) fun h => HSq k h a items := by
  cases k with
  | false => exact begins_list a items
  | true => exact begins_tuple a items
theorem sqk_at {X : Cx} {pins : List (Addr × Obj)} {σ : St} {H : Hp} {s : Shared} {k : Bool} {a : Addr} {xs : List V} (I : Inv X pins σ H s) (h : SqK X.K k H a xs) : ∃ its : List Value, Vals xs its ∧ HSq k s.heap a its.toArray ∧ a < s.heap.objs.size := by
  cases k with
  | false =>
    obtain ⟨its, rv, p, _⟩ := I.list h
    exact ⟨its, rv, p.isList, p.lt⟩
  | true =>
    obtain ⟨its, rv, p, _⟩ := I.tuple h
    obtain ⟨o, e, _⟩ := id p
    exact ⟨its, rv, p, Heap.lt_size e⟩
theorem turn_ofT {P : Program} {w : World} {K : PySem.W.Frag} {elts : List Expr} {kk : Nat} {tpos : Pos} {z : Addr} {fp : List Addr} {n : Nat} {yl : Nat → List V} {tn : Nat → Heap → Prop} {Fx : Hp → Prop} (mem : z ∈ fp)
    (obj : ∀ i h, tn i h → ∀ b ∈ fp, ∃ o, h.get? b = some o ∧ ∀ v, o.data ≠ .cell v) (keep : ∀ i h h', tn i h → (∀ b ∈ fp, ∀ o, h.get? b = some o → h'.get? b = some o) → tn i h')
    (self : ∀ (A : Around) (i : Nat) (s : Shared) (Q : Value → Shared → Prop) (E : Value → Shared → Prop), tn i s.heap → Q (.ref z) s → wpAny (model P w) A (pyIter (.ref z)) Q E s)
    (hyl : ∀ i, (yl i).length ≤ 3)
    (W : ∀ (X : Cx) pins σ H s i, X.prog = P → X.w = w → X.K = K → X.calm = true → Inv X pins σ H s → Fx H → tn i s.heap → ∃ fpW wr Pt St Mid, WalksT P w X.A z fpW wr n Pt St Mid ∧ (∀ b ∈ wr, b ∈ fp) ∧ St i s.heap ∧ (∀ i h, St i h → tn i h) ∧ ∀ i vals, i < n → Pt i vals → ∃ us, vals = us.toArray ∧ Vals (yl i) us) :
    Turn P w K (.Tuple elts kk tpos) ⟨fun i H => i < n ∧ Fx H, fun i H v H' => ∃ T, v = .ref T ∧ H T = none ∧ H' = upd H T (.tup (yl i)), fun i H => i = n ∧ Fx H⟩ fp z tn where
  mem := mem
  obj := obj
  keep := keep
  self := self
  item := by
    intro X hP hw hK hc i pins s σ H E I hf st hg
    obtain ⟨hi, hF⟩ := hg
    obtain ⟨fpW, wr, Pt, Sx, Mid, ww, sub, st1, back, hpt⟩ := W X pins σ H s i hP hw hK hc I hF st
    subst hP hw hK
    refine ww.item i s _ E hi st1 fun T vals h' tk hp hT ht hm hk => ⟨.ref T, rfl, ?_⟩
    obtain ⟨us, rfl, rv⟩ := hpt i vals hi hp
    have new : ObjOk X.prog X.w (upd H T (.tup (yl i))) h' T (.tup (yl i)) := ⟨Nat.le_trans (hyl i) (by decide), us, rv, ht⟩
    have nT : H T = none := I.hok.fresh hT
    have I1 : Inv X pins σ (upd H T (.tup (yl i))) { s with heap := h', toks := tk } := I.turnedNew (ch := wr) hk (fun b hb => hf b (sub b hb)) hT new
    refine ww.go elts kk tpos i T { s with heap := h', toks := tk } _ E hm fun h'' st2 hk2 => ?_
    have ap := ww.apart i T _ hm
    have hf1 : ∀ b ∈ wr, FpOk X pins (upd H T (.tup (yl i))) b := fun b hb => by
      obtain ⟨f0, f1, f2, f3, f4, f5⟩ := hf b (sub b hb)
      have hbT : b ≠ T := fun e => by
        subst e
        exact ap hb
      exact ⟨by rw [upd_ne hbT]; exact f0, f1, f2, f3, f4, f5⟩
    have I2 := I1.turnedL (t' := tk) (ch := wr) hk2 hf1
    refine ⟨.ref T, _, I2, rfl, ⟨T, rfl, nT, rfl⟩, back _ _ st2, fun c hc => ?_⟩
    obtain ⟨o, ho, _⟩ := obj i _ st c hc
    rw [upd_ne (Nat.ne_of_lt (Nat.lt_of_lt_of_le (Heap.lt_size ho) hT))]
    exact (hf c hc).1
  done := by
    intro X hP hw hK hc i pins s σ H E I hf st hg
    obtain ⟨hi, hF⟩ := hg
    subst hi
    obtain ⟨fpW, wr, Pt, Sx, Mid, ww, sub, st1, back, hpt⟩ := W X pins σ H s i hP hw hK hc I hF st
    subst hP hw hK
    exact ww.done s _ E st1 fun h' tk hk => ⟨rfl, I.turnedL (t' := tk) (ch := wr) hk fun b hb => hf b (sub b hb)⟩
def yz2 (xs ys : List V) (i : Nat) : List V := [xs.getD i .non, ys.getD i .non]
def yz3 (xs ys zs : List V) (i : Nat) : List V := [xs.getD i .non, ys.getD i .non, zs.getD i .non]
theorem vals_at {xs : List V} {its : List Value} {i : Nat} {u : Value} (r : Vals xs its) (h : its.toArray[i]? = some u) : RelV (xs.getD i .non) u := by
  have h' : its[i]? = some u := by simpa using h
  have hi : i < xs.length := by
    rw [r.length]
    exact (List.getElem?_eq_some_iff.mp h').1
  obtain ⟨w, h1, h2⟩ := r.get (List.getElem?_eq_getElem hi)
  rw [h'] at h1
  cases h1
  rw [List.getD_eq_getElem?_getD, List.getElem?_eq_getElem hi]
  exact h2
def Fx2 (K : PySem.W.Frag) (k1 k2 : Bool) (a1 a2 : Addr) (xs ys : List V) : Hp → Prop := fun H => SqK K k1 H a1 xs ∧ SqK K k2 H a2 ys
theorem turn_z2 {P : Program} {w : World} {K : PySem.W.Frag} {elts : List Expr} {kk : Nat} {tpos : Pos} {N a1 a2 : Addr} {k1 k2 : Bool} {xs ys : List V} (h1 : a1 < N) (h2 : a2 < N) :
    Turn P w K (.Tuple elts kk tpos) ⟨fun i H => i < min xs.length ys.length ∧ Fx2 K k1 k2 a1 a2 xs ys H, fun i H v H' => ∃ T, v = .ref T ∧ H T = none ∧ H' = upd H T (.tup (yz2 xs ys i)), fun i H => i = min xs.length ys.length ∧ Fx2 K k1 k2 a1 a2 xs ys H⟩
      [N + 4, N + 2, N + 3, N, N + 1] (N + 4) (fun i h => IsZip h (N + 4) (N + 2) (N + 3) .none ∧ IsTupOf2 h (N + 2) (.ref N) (.ref (N + 1)) ∧ (∃ a1 a2, IsTupOf2 h (N + 3) a1 a2) ∧ HIt k1 h N a1 i ∧ HIt k2 h (N + 1) a2 i) := by
  refine turn_ofT (by simp) (fun i h ⟨hz, hTI, ⟨x, y, hTO⟩, s1, s2⟩ b hb => ?_) (fun i h h' ⟨hz, hTI, ⟨x, y, hTO⟩, s1, s2⟩ hk => ?_) (fun A i s Q E st h => wpAny_pyIter_zip st.1 h) (fun i => by show 2 ≤ 3; decide) fun X pins σ H s i hP hw hK hc I ⟨f1, f2⟩ st => ?_
  · have e' : b = N + 4 ∨ b = N + 2 ∨ b = N + 3 ∨ b = N ∨ b = N + 1 := by simpa using hb
    rcases e' with q | q | q | q | q
    · rw [q]; exact ⟨_, hz, fun v q => nomatch q⟩
    · rw [q]; exact ⟨_, hTI, fun v q => nomatch q⟩
    · rw [q]; exact ⟨_, hTO, fun v q => nomatch q⟩
    · rw [q]; exact hit_obj s1
    · rw [q]; exact hit_obj s2
  · exact ⟨hk _ (by simp) _ hz, hk _ (by simp) _ hTI, ⟨x, y, hk _ (by simp) _ hTO⟩, hit_keep s1 (hk _ (by simp)), hit_keep s2 (hk _ (by simp))⟩
  · subst hP hw hK
    obtain ⟨its1, r1, q1, l1⟩ := sqk_at I f1
    obtain ⟨its2, r2, q2, l2⟩ := sqk_at I f2
    have hh : X.A.in1.handled = none := I.ok.hd hc
    have D1 := draws_k (P := X.prog) (w := X.w) (A := X.A.in1) hh k1 N a1 (Nat.ne_of_lt h1) its1.toArray
    have D2 := draws_k (P := X.prog) (w := X.w) (A := X.A.in1) hh k2 (N + 1) a2 (Nat.ne_of_lt (Nat.lt_succ_of_lt h2)) its2.toArray
    have W := WalksT.zipD2 (zip_sep2 (fp1 := [a1]) (fp2 := [a2]) (by simpa using h1) (by simpa using h2)) D1 D2
    obtain ⟨hz, hTI, hTO, s1, s2⟩ := st
    rw [List.size_toArray, List.size_toArray, ← r1.length, ← r2.length] at W
    refine ⟨_, _, _, _, _, W, fun b hb => by simp only [List.mem_cons, List.not_mem_nil, or_false] at hb; rcases hb with e | e | e | e <;> subst e <;> simp, ⟨hz, hTI, hTO, ⟨s1, q1⟩, ⟨s2, q2⟩⟩, fun i h ⟨a, b, c, d, e⟩ => ⟨a, b, c, d.1, e.1⟩, fun i vals hi ⟨x1, x2, p1, p2, e⟩ => ⟨[x1, x2], e, .cons (vals_at r1 p1) (.cons (vals_at r2 p2) .nil)⟩⟩
def Fx3 (K : PySem.W.Frag) (k1 k2 k3 : Bool) (a1 a2 a3 : Addr) (xs ys zs : List V) : Hp → Prop := fun H => SqK K k1 H a1 xs ∧ SqK K k2 H a2 ys ∧ SqK K k3 H a3 zs
theorem turn_z3 {P : Program} {w : World} {K : PySem.W.Frag} {elts : List Expr} {kk : Nat} {tpos : Pos} {N a1 a2 a3 : Addr} {k1 k2 k3 : Bool} {xs ys zs : List V} (h1 : a1 < N) (h2 : a2 < N) (h3 : a3 < N) :
    Turn P w K (.Tuple elts kk tpos) ⟨fun i H => i < min (min xs.length ys.length) zs.length ∧ Fx3 K k1 k2 k3 a1 a2 a3 xs ys zs H, fun i H v H' => ∃ T, v = .ref T ∧ H T = none ∧ H' = upd H T (.tup (yz3 xs ys zs i)), fun i H => i = min (min xs.length ys.length) zs.length ∧ Fx3 K k1 k2 k3 a1 a2 a3 xs ys zs H⟩
      [N + 5, N + 3, N + 4, N, N + 1, N + 2] (N + 5) (fun i h => IsZip h (N + 5) (N + 3) (N + 4) .none ∧ IsTupOf3 h (N + 3) (.ref N) (.ref (N + 1)) (.ref (N + 2)) ∧ (∃ a1 a2 a3, IsTupOf3 h (N + 4) a1 a2 a3) ∧ HIt k1 h N a1 i ∧ HIt k2 h (N + 1) a2 i ∧ HIt k3 h (N + 2) a3 i) := by
  refine turn_ofT (by simp) (fun i h ⟨hz, hTI, ⟨x, y, u, hTO⟩, s1, s2, s3⟩ b hb => ?_) (fun i h h' ⟨hz, hTI, ⟨x, y, u, hTO⟩, s1, s2, s3⟩ hk => ?_) (fun A i s Q E st h => wpAny_pyIter_zip st.1 h) (fun i => by show 3 ≤ 3; decide) fun X pins σ H s i hP hw hK hc I ⟨f1, f2, f3⟩ st => ?_
  · have e' : b = N + 5 ∨ b = N + 3 ∨ b = N + 4 ∨ b = N ∨ b = N + 1 ∨ b = N + 2 := by simpa using hb
    rcases e' with q | q | q | q | q | q
    · rw [q]; exact ⟨_, hz, fun v q => nomatch q⟩
    · rw [q]; exact ⟨_, hTI, fun v q => nomatch q⟩
    · rw [q]; exact ⟨_, hTO, fun v q => nomatch q⟩
    · rw [q]; exact hit_obj s1
    · rw [q]; exact hit_obj s2
    · rw [q]; exact hit_obj s3
  · exact ⟨hk _ (by simp) _ hz, hk _ (by simp) _ hTI, ⟨x, y, u, hk _ (by simp) _ hTO⟩, hit_keep s1 (hk _ (by simp)), hit_keep s2 (hk _ (by simp)), hit_keep s3 (hk _ (by simp))⟩
  · subst hP hw hK
    obtain ⟨its1, r1, q1, l1⟩ := sqk_at I f1
    obtain ⟨its2, r2, q2, l2⟩ := sqk_at I f2
    obtain ⟨its3, r3, q3, l3⟩ := sqk_at I f3
    have hh : X.A.in1.handled = none := I.ok.hd hc
    have D1 := draws_k (P := X.prog) (w := X.w) (A := X.A.in1) hh k1 N a1 (Nat.ne_of_lt h1) its1.toArray
    have D2 := draws_k (P := X.prog) (w := X.w) (A := X.A.in1) hh k2 (N + 1) a2 (Nat.ne_of_lt (Nat.lt_succ_of_lt h2)) its2.toArray
    have D3 := draws_k (P := X.prog) (w := X.w) (A := X.A.in1) hh k3 (N + 2) a3 (Nat.ne_of_lt (Nat.lt_of_lt_of_le h3 (Nat.le_add_right _ _))) its3.toArray
    have W := WalksT.zipD3 (zip_sep3 (fp1 := [a1]) (fp2 := [a2]) (fp3 := [a3]) (by simpa using h1) (by simpa using h2) (by simpa using h3)) D1 D2 D3
    obtain ⟨hz, hTI, hTO, s1, s2, s3⟩ := st
    rw [List.size_toArray, List.size_toArray, List.size_toArray, ← r1.length, ← r2.length, ← r3.length] at W
    refine ⟨_, _, _, _, _, W, fun b hb => by simp only [List.mem_cons, List.not_mem_nil, or_false] at hb; rcases hb with e | e | e | e | e <;> subst e <;> simp, ⟨hz, hTI, hTO, ⟨s1, q1⟩, ⟨s2, q2⟩, ⟨s3, q3⟩⟩, fun i h ⟨a, b, c, d, e, f⟩ => ⟨a, b, c, d.1, e.1, f.1⟩, fun i vals hi ⟨x1, x2, x3, p1, p2, p3, e⟩ => ⟨[x1, x2, x3], e, .cons (vals_at r1 p1) (.cons (vals_at r2 p2) (.cons (vals_at r3 p3) .nil))⟩⟩
/-! the walked sequence, at the view -/
def D.items : D → Option (List D)
  | .lst ds => some ds
  | .tup ds => some ds
  | .scr ns => some (ns.map D.int)
  | _ => none
section
variable {X : Cx} {J : Jc} {pos : Pos} {ms : MA}
theorem rep_items {K : PySem.W.Frag} (hK : J.g.K = K) {σ : St} {H : Hp} {v : V} {d : D} {ds : List D} (r : J.R σ H v d) (e : d.items = some ds) : ∃ a k xs, v = .ref a ∧ (∀ H', Ext1 H H' → SqK K k H' a xs) ∧ J.RL σ H xs ds := by
  cases d with
  | lst ds' =>
    cases e
    cases r with
    | lst fz r => exact ⟨_, false, _, rfl, fun H' x => (FzL.ext x fz).sq, r⟩
  | tup ds' =>
    cases e
    cases r with
    | tup sq r => exact ⟨_, true, _, rfl, fun H' x => by rw [← hK]; exact sqT_ext x sq, r⟩
  | scr ns =>
    cases e
    cases r with
    | scr h =>
      rcases h with ⟨o, h⟩ | h
      · exact ⟨_, false, _, rfl, fun H' x => (FzL.ext x ⟨o, h⟩).sq, scrL _ _ _ ns⟩
      · exact ⟨_, false, _, rfl, fun H' x => by rw [← hK]; exact h H', scrL _ _ _ ns⟩
  | _ => cases e
theorem getD_rep {σ : St} {H : Hp} {xs : List V} {ds : List D} {i : Nat} {d : D} (r : J.RL σ H xs ds) (h : ds[i]? = some d) : J.R σ H (xs.getD i .non) d := by
  obtain ⟨v, h1, h2⟩ := r.get h
  rw [List.getD_eq_getElem?_getD, h1]
  exact h2
def zip2 : List D → List D → List D
  | x :: xs, y :: ys => .tup [x, y] :: zip2 xs ys
  | _, _ => []
def zip3 : List D → List D → List D → List D
  | x :: xs, y :: ys, z :: zs => .tup [x, y, z] :: zip3 xs ys zs
  | _, _, _ => []
theorem zip2_len : ∀ xs ys : List D, (zip2 xs ys).length = min xs.length ys.length
  | [], ys => by simp [zip2]
  | _ :: _, [] => by simp [zip2]
  | x :: xs, y :: ys => by simp [zip2, zip2_len xs ys]
theorem zip3_len : ∀ xs ys zs : List D, (zip3 xs ys zs).length = min (min xs.length ys.length) zs.length
  | [], ys, zs => by simp [zip3]
  | _ :: _, [], zs => by simp [zip3]
  | _ :: _, _ :: _, [] => by simp [zip3]
  | x :: xs, y :: ys, z :: zs => by simp [zip3, zip3_len xs ys zs]
theorem zip2_get : ∀ {xs ys : List D} {i : Nat} {d : D}, (zip2 xs ys)[i]? = some d → ∃ x y, d = .tup [x, y] ∧ xs[i]? = some x ∧ ys[i]? = some y
  | [], ys, i, d, h => by simp [zip2] at h
  | _ :: _, [], i, d, h => by simp [zip2] at h
  | x :: xs, y :: ys, 0, d, h => by simp [zip2] at h; exact ⟨x, y, h.symm, rfl, rfl⟩
  | x :: xs, y :: ys, i + 1, d, h => by
    simp only [zip2, List.getElem?_cons_succ] at h
    obtain ⟨a, b, h1, h2, h3⟩ := zip2_get (xs := xs) (ys := ys) (i := i) h
    exact ⟨a, b, h1, by simpa using h2, by simpa using h3⟩
theorem zip3_get : ∀ {xs ys zs : List D} {i : Nat} {d : D}, (zip3 xs ys zs)[i]? = some d → ∃ x y z, d = .tup [x, y, z] ∧ xs[i]? = some x ∧ ys[i]? = some y ∧ zs[i]? = some z
  | [], ys, zs, i, d, h => by simp [zip3] at h
  | _ :: _, [], zs, i, d, h => by simp [zip3] at h
  | _ :: _, _ :: _, [], i, d, h => by simp [zip3] at h
  | x :: xs, y :: ys, z :: zs, 0, d, h => by simp [zip3] at h; exact ⟨x, y, z, h.symm, rfl, rfl, rfl⟩
  | x :: xs, y :: ys, z :: zs, i + 1, d, h => by
    simp only [zip3, List.getElem?_cons_succ] at h
    obtain ⟨a, b, c, h1, h2, h3, h4⟩ := zip3_get (xs := xs) (ys := ys) (zs := zs) (i := i) h
    exact ⟨a, b, c, h1, by simpa using h2, by simpa using h3, by simpa using h4⟩
def szOk (ds : List D) (p : P3) : Res (List D) := if ds.length ≤ sizeLine then .ok ds p else .bad
def mZip2 (ms : MA) : MA := fun vw p => (ms vw p).bind fun ds p1 => match ds with
  | [a, b] => match a.items, b.items with
    | some xs, some ys => szOk (zip2 xs ys) p1
    | _, _ => .bad
  | _ => .bad
def mZip3 (ms : MA) : MA := fun vw p => (ms vw p).bind fun ds p1 => match ds with
  | [a, b, c] => match a.items, b.items, c.items with
    | some xs, some ys, some zs => szOk (zip3 xs ys zs) p1
    | _, _, _ => .bad
  | _ => .bad
theorem vi_zip2 {e e2 : Expr} {p pos tpos : Pos} {elts : List Expr} {kk : Nat} (hK : J.g.K = X.K) (hm : X.mg "zip" = none) (ha : VA X J [e, e2] ms) (hg : Gl X "zip" := by rfl)
    (hs : starEach [e, e2] X.env = (false, eval e X.env) :: starEach [e2] X.env := by rfl) (hpl : (backTo pos (starEach [e2] X.env)).any (·.1) = false := by rfl) :
    VI X J (.Tuple elts kk tpos) (.Call (.Name "zip" p) [e, e2] [] pos) (mZip2 ms) := by
  refine ⟨fun pins s σ H R I ⟨vw, p0, rr, st, q⟩ => ?_⟩
  refine Call_ (ld_blt I hg hm PyProof.Rows.boot_zip (PyProof.Rows.callWith_type1 (thn (ha.run pos pins s σ H (fun vs H1 => ∃ a b xs ys p1, Ext J.g H H1 ∧ StR J.g H1 p1 ∧ J.RL σ H1 vs [a, b] ∧ a.items = some xs ∧ b.items = some ys ∧ PI3 J σ H R (szOk (zip2 xs ys) p1)) I ⟨vw, p0, rr, st, ?_⟩) fun us s1 ⟨vs, H1, I1, r1, a, b, xs, ys, p1, x1, st1, rl, ea, eb, q1⟩ => ?_) hs hpl))
  · unfold mZip2 at q
    cases e1 : ms vw p0 with
    | bad => rw [e1] at q; exact q.elim
    | err x dv p1 => rw [e1] at q; exact q
    | ok ds p1 =>
      rw [e1] at q
      intro H1 vs x1 s1 rl
      simp only [Res.bind] at q
      split at q
      · split at q
        · rename_i h1 h2
          exact ⟨_, _, _, _, p1, x1, s1, rl, h1, h2, q⟩
        · exact q.elim
      · exact q.elim
  · cases rl with
    | cons ra rl =>
      cases rl with
      | cons rb rl =>
        cases rl
        obtain ⟨a1, k1, vs1, rfl, f1, rl1⟩ := rep_items hK ra ea
        obtain ⟨a2, k2, vs2, rfl, f2, rl2⟩ := rep_items hK rb eb
        cases r1 with
        | cons r rr =>
          cases rr with
          | cons r' rr =>
            cases rr
            cases r
            cases r'
            obtain ⟨its1, v1, g1, l1⟩ := sqk_at I1 (f1 H1 .refl)
            obtain ⟨its2, v2, g2, l2⟩ := sqk_at I1 (f2 H1 .refl)
            refine zip_begins2 (begins_k k1 a1 its1.toArray) (begins_k k2 a2 its2.toArray) g1 g2 fun h' hz hTI hTO h1 h2 hsz hk => wpAny_pyIter_zip hz ?_
            have I2 : Inv X pins σ H1 { s1 with heap := h' } := I1.kept (t' := s1.toks) hk
            unfold szOk at q1
            split at q1
            · rename_i hzz
              refine ⟨s1.heap.objs.size + 4, _, _, _, H1, rfl, I2, turn_z2 (N := s1.heap.objs.size) (a1 := a1) (a2 := a2) (k1 := k1) (k2 := k2) (xs := vs1) (ys := vs2) l1 l2, ⟨hz, hTI, ⟨_, _, hTO⟩, oIt_it h1, oIt_it h2⟩, fun c hc => ?_, q1 H1 _ x1 st1 ⟨fun i H e hi => ?_, fun H e => ?_, fun i H x H' d e hd ⟨T, e1, e2, e3⟩ => ?_⟩ hzz⟩
              · have hle : s1.heap.objs.size ≤ c := by
                  simp only [List.mem_cons, List.not_mem_nil, or_false] at hc
                  rcases hc with e | e | e | e | e <;> subst e <;> first | exact Nat.le_refl _ | exact Nat.le_add_right _ _
                exact I1.fpOk hle (I1.hok.fresh hle)
              · rw [zip2_len, ← rl1.length, ← rl2.length] at hi
                exact ⟨hi, f1 H e, f2 H e⟩
              · exact ⟨by rw [zip2_len, rl1.length, rl2.length], f1 H e, f2 H e⟩
              · subst e1 e3
                obtain ⟨x', y', rfl, hx, hy⟩ := zip2_get hd
                have gr : Grow H (upd H T (.tup (yz2 vs1 vs2 i))) := Grow.upd e2
                exact ⟨gr, .tup (SqT.of upd_same) (.cons (J.ext1 (e.trans (Grow.ext (g := J.g) gr).hard) (σ := σ) (getD_rep rl1 hx)) (.cons (J.ext1 (e.trans (Grow.ext (g := J.g) gr).hard) (σ := σ) (getD_rep rl2 hy)) .nil))⟩
            · exact q1.elim
theorem vi_zip3 {e e2 e3 : Expr} {p pos tpos : Pos} {elts : List Expr} {kk : Nat} (hK : J.g.K = X.K) (hm : X.mg "zip" = none) (ha : VA X J [e, e2, e3] ms) (hg : Gl X "zip" := by rfl)
    (hs : starEach [e, e2, e3] X.env = (false, eval e X.env) :: starEach [e2, e3] X.env := by rfl) (hpl : (backTo pos (starEach [e2, e3] X.env)).any (·.1) = false := by rfl) :
    VI X J (.Tuple elts kk tpos) (.Call (.Name "zip" p) [e, e2, e3] [] pos) (mZip3 ms) := by
  refine ⟨fun pins s σ H R I ⟨vw, p0, rr, st, q⟩ => ?_⟩
  refine Call_ (ld_blt I hg hm PyProof.Rows.boot_zip (PyProof.Rows.callWith_type1 (thn (ha.run pos pins s σ H (fun vs H1 => ∃ a b c xs ys zs p1, Ext J.g H H1 ∧ StR J.g H1 p1 ∧ J.RL σ H1 vs [a, b, c] ∧ a.items = some xs ∧ b.items = some ys ∧ c.items = some zs ∧ PI3 J σ H R (szOk (zip3 xs ys zs) p1)) I ⟨vw, p0, rr, st, ?_⟩) fun us s1 ⟨vs, H1, I1, r1, a, b, c, xs, ys, zs, p1, x1, st1, rl, ea, eb, ec, q1⟩ => ?_) hs hpl))
  · unfold mZip3 at q
    cases e1 : ms vw p0 with
    | bad => rw [e1] at q; exact q.elim
    | err x dv p1 => rw [e1] at q; exact q
    | ok ds p1 =>
      rw [e1] at q
      intro H1 vs x1 s1 rl
      simp only [Res.bind] at q
      split at q
      · split at q
        · rename_i h1 h2 h3
          exact ⟨_, _, _, _, _, _, p1, x1, s1, rl, h1, h2, h3, q⟩
        · exact q.elim
      · exact q.elim
  · cases rl with
    | cons ra rl =>
      cases rl with
      | cons rb rl =>
        cases rl with
        | cons rc rl =>
          cases rl
          obtain ⟨a1, k1, vs1, rfl, f1, rl1⟩ := rep_items hK ra ea
          obtain ⟨a2, k2, vs2, rfl, f2, rl2⟩ := rep_items hK rb eb
          obtain ⟨a3, k3, vs3, rfl, f3, rl3⟩ := rep_items hK rc ec
          cases r1 with
          | cons r rr =>
            cases rr with
            | cons r' rr =>
              cases rr with
              | cons r'' rr =>
                cases rr
                cases r
                cases r'
                cases r''
                obtain ⟨its1, v1, g1, l1⟩ := sqk_at I1 (f1 H1 .refl)
                obtain ⟨its2, v2, g2, l2⟩ := sqk_at I1 (f2 H1 .refl)
                obtain ⟨its3, v3, g3, l3⟩ := sqk_at I1 (f3 H1 .refl)
                refine zip_begins3 (begins_k k1 a1 its1.toArray) (begins_k k2 a2 its2.toArray) (begins_k k3 a3 its3.toArray) g1 g2 g3 fun h' hz hTI hTO h1 h2 h3 hsz hk => wpAny_pyIter_zip hz ?_
                have I2 : Inv X pins σ H1 { s1 with heap := h' } := I1.kept (t' := s1.toks) hk
                unfold szOk at q1
                split at q1
                · rename_i hzz
                  refine ⟨s1.heap.objs.size + 5, _, _, _, H1, rfl, I2, turn_z3 (N := s1.heap.objs.size) (a1 := a1) (a2 := a2) (a3 := a3) (k1 := k1) (k2 := k2) (k3 := k3) (xs := vs1) (ys := vs2) (zs := vs3) l1 l2 l3, ⟨hz, hTI, ⟨_, _, _, hTO⟩, oIt_it h1, oIt_it h2, oIt_it h3⟩, fun c hc => ?_, q1 H1 _ x1 st1 ⟨fun i H e hi => ?_, fun H e => ?_, fun i H x H' d e hd ⟨T, e1, e2, e3⟩ => ?_⟩ hzz⟩
                  · have hle : s1.heap.objs.size ≤ c := by
                      simp only [List.mem_cons, List.not_mem_nil, or_false] at hc
                      rcases hc with e | e | e | e | e | e <;> subst e <;> first | exact Nat.le_refl _ | exact Nat.le_add_right _ _
                    exact I1.fpOk hle (I1.hok.fresh hle)
                  · rw [zip3_len, ← rl1.length, ← rl2.length, ← rl3.length] at hi
                    exact ⟨hi, f1 H e, f2 H e, f3 H e⟩
                  · exact ⟨by rw [zip3_len, rl1.length, rl2.length, rl3.length], f1 H e, f2 H e, f3 H e⟩
                  · subst e1 e3
                    obtain ⟨x', y', z', rfl, hx, hy, hz'⟩ := zip3_get hd
                    have gr : Grow H (upd H T (.tup (yz3 vs1 vs2 vs3 i))) := Grow.upd e2
                    have w : ∀ {xs : List V} {ds : List D} {d : D}, J.RL σ H1 xs ds → ds[i]? = some d → J.R [] (upd H T (.tup (yz3 vs1 vs2 vs3 i))) (xs.getD i .non) d := fun r h => J.ext1 (e.trans (Grow.ext (g := J.g) gr).hard) (σ := σ) (getD_rep r h)
                    exact ⟨gr, .tup (SqT.of upd_same) (.cons (w rl1 hx) (.cons (w rl2 hy) (.cons (w rl3 hz') .nil)))⟩
                · exact q1.elim
end
end VL

namespace VL
open PySem PySem.Spec PyProof.Rows L2 LamX
section
variable {X : Cx} {J : Jc} {base : Heap} {k : Nat} {e : Expr} {pos : Pos}
theorem ERep.move {σ w : St} {H : Hp} {env sl : En} {o : Option V} {s : Option Sl} {i : Nat} (r : ERep X J (σ ++ o :: w) H (env ++ s :: sl)) (hl : env.length = σ.length) : ERep X J (σ.set i o ++ w) H (env.set i s ++ sl) := by
  have hw : sl.length = w.length := by
    have := r.len
    rw [List.length_append, List.length_append, List.length_cons, List.length_cons] at this
    omega
  refine r.re (fun k => if k < env.length then (if k = i then env.length else k) else k + 1) (by rw [List.length_append, List.length_append, List.length_set, List.length_set, hl, hw]) (fun k s' hk => ?_) fun a b hab ha hb => ?_
  · by_cases h1 : k < env.length
    · have h1' : k < σ.length := by rw [← hl]; exact h1
      rw [List.getElem?_append_left (by rw [List.length_set]; exact h1)] at hk
      simp only [h1, if_true]
      by_cases h2 : k = i
      · subst h2
        rw [List.getElem?_set_self h1] at hk
        simp only [if_true]
        refine ⟨?_, ?_⟩
        · rw [List.getElem?_append_right (Nat.le_refl _)]
          simpa using hk
        · rw [List.getElem?_append_left (by rw [List.length_set]; exact h1'), List.getElem?_set_self h1', List.getElem?_append_right (Nat.le_of_eq hl.symm), hl]
          simp
      · rw [List.getElem?_set_ne (Ne.symm h2)] at hk
        simp only [h2, if_false]
        refine ⟨?_, ?_⟩
        · rw [List.getElem?_append_left h1]; exact hk
        · rw [List.getElem?_append_left (by rw [List.length_set]; exact h1'), List.getElem?_set_ne (Ne.symm h2), List.getElem?_append_left h1']
    · simp only [h1, if_false]
      rw [List.getElem?_append_right (by rw [List.length_set]; omega), List.length_set] at hk
      have e1 : k + 1 - env.length = (k - env.length) + 1 := by omega
      have e2 : k + 1 - σ.length = (k - σ.length) + 1 := by omega
      refine ⟨?_, ?_⟩
      · rw [List.getElem?_append_right (by omega), e1, List.getElem?_cons_succ]; exact hk
      · rw [List.getElem?_append_right (by rw [List.length_set]; omega), List.length_set, List.getElem?_append_right (by omega), e2, List.getElem?_cons_succ]
  · split <;> split <;> (try split) <;> (try split) <;> omega
theorem ERep.moves : ∀ {is : List Nat} {vs : List V} {sls : List Sl} {σ : St} {H : Hp} {env : En}, ERep X J (σ ++ vs.map some) H (env ++ sls.map some) → env.length = σ.length → is.length = vs.length → is.length = sls.length → ERep X J ((is.zip vs).foldl (fun σ x => σ.set x.1 (some x.2)) σ) H (setAll is sls env)
  | [], [], [], σ, H, env, r, hl, _, _ => by simpa [setAll] using r
  | i :: is, v :: vs, s :: sls, σ, H, env, r, hl, h1, h2 => by
    have q := ERep.move (i := i) (show ERep X J (σ ++ some v :: vs.map some) H (env ++ some s :: sls.map some) from r) hl
    exact ERep.moves (is := is) q (by unfold setE; rw [List.length_set, List.length_set, hl]) (by simpa using h1) (by simpa using h2)
theorem evs_len : ∀ (ls : List El) (env : En) (p : P3) (sls : List Sl) (p1 : P3), evs ls env p = .ok sls p1 → sls.length = ls.length := by
  intro ls
  induction ls with
  | nil => intro env p sls p1 h; cases h; rfl
  | cons l ls ih =>
    intro env p sls p1 h
    have go : ∀ {α : Type} {r : Res α} {f : α → Sl}, (r.bind fun d p1 => (evs ls env p1).bind fun sl p2 => .ok (f d :: sl) p2) = .ok sls p1 → sls.length = (l :: ls).length := by
      intro α r f h
      cases r with
      | bad => cases h
      | err x dv p1 => cases h
      | ok d p2 =>
        simp only [Res.bind] at h
        cases e3 : evs ls env p2 with
        | bad => rw [e3] at h; cases h
        | err x dv p1 => rw [e3] at h; cases h
        | ok sl p3 => rw [e3] at h; cases h; exact congrArg (· + 1) (ih _ _ _ _ e3)
    cases l with
    | inl im => exact go h
    | inr m => exact go h
theorem par_logic {es : List Expr} {ls : List El} {ta : TA} {is : List Nat} {Dn : Ends} {σ : St} {H : Hp} {Q : List V → Hp → Prop} (ha : PEls X J es ls ta) (hls : is.length = ls.length) (h : tS X J (sPar is ls) Dn σ H)
    (hq : ∀ vs H1 sls env p, vs.length = is.length → is.length = sls.length → env.length = σ.length → StR J.g H1 p → ERep X J (σ ++ vs.map some) H1 (env ++ sls.map some) → (∀ σ' H', ERep X J σ' H' (setAll is sls env) → StR J.g H' p → Ext1 H1 H' → Dn.nx σ' H') → Q vs H1) : ta σ H Q := by
  obtain ⟨env, p, r, s, q⟩ := h
  refine pels_run (w := []) (sl0 := []) (p := p) r.len ha (by simpa using r) s ?_
  unfold sPar at q
  cases e1 : evs ls env p with
  | bad => rw [e1] at q; exact q
  | err z dv p1 => rw [e1] at q; exact fun H' e H2 C dd y e2 => q σ H2 C dd y (e.trans e2)
  | ok sls p1 =>
    rw [e1] at q
    intro vs H' x1 r1 s1 hz
    have hsl := evs_len _ _ _ _ _ e1
    exact hq vs H' sls env p1 (by omega) (by omega) r.len s1 (by simpa using r1) fun σ' H'' r' s' x' => q σ' H'' r' s' (x1.hard.trans x')
theorem vs_par2 {i j : Nat} {x y : Str} {a b : Expr} {la lb : El} {ta : TA} {px py pt : Pos} {kt k2 pt2} (hc : X.calm = true) (hN : X.N.Nodup) (ha : PEls X J [a, b] [la, lb] ta) (hij : i ≠ j) (hi : X.N[i]? = some x := by rfl) (hj : X.N[j]? = some y := by rfl)
    (hx : X.env.scope.names.lookup x = some .local := by rfl) (hy : X.env.scope.names.lookup y = some .local := by rfl)
    (hw : swappedStores [.Tuple [.Name x px, .Name y py] kt pt] (.Tuple [a, b] k2 pt2) X.env = pure (some [x, y]) := by rfl)
    (hs : swapsWithSole [.Tuple [.Name x px, .Name y py] kt pt] (.Tuple [a, b] k2 pt2) pos.line X.env = pure false := by rfl) :
    VS X J (.Assign [.Tuple [.Name x px, .Name y py] kt pt] (.Tuple [a, b] k2 pt2) pos) (sPar [i, j] [la, lb]) := by
  refine ps_imp (ps_par hc hN hi hj hij hx hy ha.pa hw hs) fun Dn σ H h => par_logic ha rfl h fun vs H1 sls env p h1 h2 h3 s r q => ?_
  match vs, h1 with
  | [v1, v2], _ => exact ⟨v1, v2, rfl, q _ H1 (r.moves h3 rfl h2) s .refl⟩
theorem vs_par3 {i j l : Nat} {x y z : Str} {a b c : Expr} {la lb lc : El} {ta : TA} {px py pz pt : Pos} {kt k2 pt2} (hc : X.calm = true) (hN : X.N.Nodup) (ha : PEls X J [a, b, c] [la, lb, lc] ta) (hij : i ≠ j) (hil : i ≠ l) (hjl : j ≠ l) (hi : X.N[i]? = some x := by rfl) (hj : X.N[j]? = some y := by rfl) (hl : X.N[l]? = some z := by rfl)
    (hx : X.env.scope.names.lookup x = some .local := by rfl) (hy : X.env.scope.names.lookup y = some .local := by rfl) (hz : X.env.scope.names.lookup z = some .local := by rfl)
    (hw : swappedStores [.Tuple [.Name x px, .Name y py, .Name z pz] kt pt] (.Tuple [a, b, c] k2 pt2) X.env = pure (some [x, y, z]) := by rfl)
    (hs : swapsWithSole [.Tuple [.Name x px, .Name y py, .Name z pz] kt pt] (.Tuple [a, b, c] k2 pt2) pos.line X.env = pure false := by rfl) :
    VS X J (.Assign [.Tuple [.Name x px, .Name y py, .Name z pz] kt pt] (.Tuple [a, b, c] k2 pt2) pos) (sPar [i, j, l] [la, lb, lc]) := by
  refine ps_imp (ps_par3 hc hN hi hj hl hij hil hjl hx hy hz ha.pa hw hs) fun Dn σ H h => par_logic ha rfl h fun vs H1 sls env p h1 h2 h3 s r q => ?_
  match vs, h1 with
  | [v1, v2, v3], _ => exact ⟨v1, v2, v3, rfl, q _ H1 (r.moves h3 rfl h2) s .refl⟩
/-- a, b, .. = (e1, e2, ..), the tuple made, then taken apart -/
theorem tn_sets {es : List Expr} {is : List Nat} {u : TGs} (h : TNames X es is u) : ∀ {vs : List V} {σ : St} {H : Hp} {Q : St → Hp → Prop}, is.length = vs.length → Q ((is.zip vs).foldl (fun σ x => σ.set x.1 (some x.2)) σ) H → u vs σ H Q := by
  induction h with
  | nil =>
    intro vs σ H Q hl q
    cases vs with
    | nil => exact ⟨rfl, q⟩
    | cons v vs => cases hl
  | @cons i es is t e u _ ht _ _ ih =>
    intro vs σ H Q hl q
    subst ht
    cases vs with
    | nil => cases hl
    | cons v vs => exact ⟨v, vs, rfl, ih (by simpa using hl) q⟩
theorem vs_tupEl {es vls : List Expr} {js : List Nat} {u : TGs} {ls : List El} {ta : TA} {j k2 : Nat} {tpos p2 : Pos} (hc : X.calm = true) (ht : TNames X es js u) (ha : PEls X J vls ls ta) (hls : js.length = ls.length) (h3 : js.length ≤ 3) (hn : (assignEach es X.env).length = js.length := by rfl) (hst : (assignEach es X.env).findIdx? (·.1) = none := by rfl)
    (hs : swapsWithSole [.Tuple es j tpos] (.Tuple vls k2 p2) pos.line X.env = pure false := by rfl) (hw : swappedStores [.Tuple es j tpos] (.Tuple vls k2 p2) X.env = pure none := by rfl) (h1 : (assignEach [.Tuple es j tpos] X.env).map (·.2) = [assign (.Tuple es j tpos) X.env] := by rfl) :
    VS X J (.Assign [.Tuple es j tpos] (.Tuple vls k2 p2) pos) (sPar js ls) := by
  refine ps_imp (ps_asg (pe_tup ha.pa) (pg_tup hc (tn_pgs ht) hn hst) hs hw h1) fun Dn σ H h => par_logic ha hls h fun vs H1 sls env p h4 h5 h6 s r q => ?_
  refine ⟨by rw [h4]; exact Nat.le_trans h3 (by decide), fun a hn' => ⟨a, vs, rfl, SqT.of upd_same, by rw [h4], tn_sets ht h4.symm ?_⟩⟩
  have gr : Grow H1 (upd H1 a (.tup vs)) := Grow.upd hn'
  exact q _ _ (((r.moves h6 h4.symm h5)).ext1 gr.ext) (s.grow gr) (Grow.ext (g := J.g) gr).hard
end

/-! ### own exceptions raised -/
def spI (K : PySem.W.Frag) : Sp := fun vs H Q _ => ∃ (a C : Addr) (v : V), vs = [.ref a, v] ∧ OexC K C ∧ PySem.W.findIn K (.ref C) "value" = some none ∧ H a = some (exo a C none) ∧ ∀ dx, H dx = none → dx ≠ a → Q .non (upd (upd H dx (exd dx [("value", v)])) a (exo a C (some dx)))
abbrev scI : Scope := { kind := .function, names := [(Str.ofString "self", .local), (Str.ofString "value", .local), (Str.ofString "ValueError", .globalImplicit)], isGenerator := false, isCoroutine := false, more := [] }
/-- the class's __init__, walked -/
theorem init_ok {P : Program} {w : World} {K : PySem.W.Frag} {mg : Str → Option Value} {base : Heap} {qual : Str} {st : Stmt} {f : Addr} {fd : FuncData} {k : Nat} {p1 p2 p3 p4 p5 p6 p7 p8 p9 p10 : Pos} (F : L2.Fun K "__init__" qual st f fd) (hsc : defScope st = scI)
    (hb : defBody st = [.Expr (.Call (.Attribute (.Name "ValueError" p1) "__init__" p2) [.Name "self" p3, .Name "value" p4] [] p5) p6, .Assign [.Attribute (.Name "self" p7) "value" p8] (.Name "value" p9) p10])
    (hc : ∀ env : Env, ∃ pl : Sem Bool, eval (.Call (.Attribute (.Name "ValueError" p1) "__init__" p2) [.Name "self" p3, .Name "value" p4] [] p5) env = (do
      let ov ← eval (.Name "ValueError" p1) env
      standAt p2.atName
      let (f, first) ← holding [ov] (getMethod ov "__init__" pl)
      callWith p5 f first (backTo p5 (starEach [.Name "self" p3, .Name "value" p4] env)) (backToKw p5 (keywordEach [] env))))
    (hm : mg "ValueError" = none) (vV : PySem.W.findCls K (.type "ValueError") (.type "type") "__init__" = some (.val (.builtin "ValueError.__init__"))) : FnOk P w K mg base L2.CX0 (k + 1) f fd ["self", "value"] (spI K) := by
  have S : FnScope ["self", "value"] ["self", "value"] (defScope st) := by
    rw [hsc]
    exact ⟨rfl, rfl, rfl, by decide +kernel, rfl, by decide +kernel, by decide +kernel⟩
  refine F.ok S (fun vs H Q E ⟨a, C, v, e, _⟩ => by subst e; rfl) fun cdv A outer s H vs Q E hr ⟨a, C, v, e, T, hno, ha, q⟩ => ?_
  subst e
  rw [hb, hsc]
  obtain ⟨pl, hc⟩ := hc (cxOf L2.CX0 P w K mg base ["self", "value"] qual scI f cdv A outer s H E).nox.env
  refine ⟨_, pss_cons (ps_expr (pe_veinit (pl := pl) rfl hm vV (pa_cons (pv 0) (pa_cons (pv 1) pa_nil)) hc) rfl) (pss_one (ps_ost (pv 0) (pv 1) rfl)), ?_⟩
  refine ⟨_, rfl, _, rfl, a, C, [v], rfl, by simp, T, ha, ?_⟩
  exact ⟨_, rfl, _, rfl, a, C, rfl, T, hno, .inl ⟨ha, q⟩⟩
/-- what is known of an own exception class -/
structure ErrC (P : Program) (w : World) (base : Heap) (g : Gx) (x : Str) : Prop where
  ex : ∃ (C fI : Addr) (fd : FuncData), OexC g.K C ∧ PySem.W.findIn g.K (.ref C) "__init__" = some (some (.ref fI)) ∧ PySem.W.typeIn g.K (.ref fI) = some (.type "function") ∧ PySem.W.findIn g.K (.ref C) "value" = some none ∧ g.mg x = some (.ref C) ∧ Binds g.K fd ["self", "value"] [] ∧ FnOk P w g.K g.mg base L2.CX0 1 fI fd ["self", "value"] (spI g.K)
section
variable {X : Cx} {J : Jc} {base : Heap} {k : Nat} {e : Expr} {pos : Pos}
def xRaise (is : List Nat) (x : Str) (me : ME) : MS := onX is me fun d _ p => .err x d p
theorem vx_raise {is : List Nat} {x : Str} {me : ME} {p pos' : Pos} (F : Fr0 X J base k) (hk : 2 ≤ k) (C : ErrC X.prog X.w X.base J.g x) (h : VE X J e me) (hg : Gl X x := by rfl) (hdb : (x == ("__debug__" : Str)) = false := by decide) (hst : starEach [e] X.env = (false, eval e X.env) :: starEach [] X.env := by rfl) (hpl : (backTo pos (starEach [] X.env)).any (·.1) = false := by rfl) :
    VS X J (.Raise (some (.Call (.Name x p) [e] [] pos)) none pos') (xRaise is x me) := by
  obtain ⟨C, fI, fd, T, iC, tI, hno, hx, hb, F1⟩ := C.ex
  rw [F.K, F.mg] at F1
  rw [F.K] at T iC tI hno hb
  have hx' : X.mg x = some (.ref C) := F.mg ▸ hx
  refine ps_imp (ps_raise F.calm F.tk (pmk_oex T iC tI F1 (F.room.mono hk) hb .nil pass0 hg hx' (pa_cons (pe_bor h is) pa_nil hst) hdb hst hpl)) fun Dn σ H q => ?_
  refine onX_logic q fun env d p1 H1 v r s rv q => ?_
  refine ⟨by simp, fun a ha => ⟨a, C, v, by simp, T, hno, upd_same, fun dx hdx hne => ⟨rfl, dx, [("value", v)], upd_same, ?_, ?_, ?_⟩⟩⟩
  · rw [upd_ne hne, upd_same]
  · rw [upd_ne hne] at hdx; exact hdx
  · have hd1 : H1 dx = none := by rw [upd_ne hne] at hdx; exact hdx
    have gr : Grow H1 (upd (L2.del (upd (upd (upd H1 a (exo a C none)) dx (exd dx [("value", v)])) a (exo a C (some dx))) a) dx (.xd [("value", v)])) := fun b o hb => by
      have h1 : b ≠ a := ne_of_none hb ha
      have h2 : b ≠ dx := ne_of_none hb hd1
      rw [upd_ne h2, del_ne h1, upd_ne h1, upd_ne h2, upd_ne h1]
      exact hb
    exact q σ _ C dx v (r.ext.trans gr.ext) (s.grow gr) hx upd_same (J.ext gr.ext rv)
end
end VL

namespace VL
open PySem PySem.Spec PyProof.Rows L2 LamX
section
variable {X : Cx} {J : Jc} {base : Heap} {k : Nat} {e a b : Expr} {ma mb m : ME} {pos : Pos}
/-! ### powers of greater numbers -/
def CPowW (i j : Int) : Prop := 0 ≤ j ∧ (Builtin.Int.intBits i : Int) * j ≤ 2 ^ 27
theorem op_powW : OpR X (binaryOp .Pow) (rI CPowW fun i j => .int (i ^ j.toNat)) := opI fun _ _ _ _ _ _ _ hc q => pow_int hc.1 hc.2 q
def D.powW : D → D → Option D
  | .int a, .int b => if 0 ≤ b ∧ ((b ≤ 1000000 ∧ a.natAbs < 2 ^ 64) ∨ (Builtin.Int.intBits a : Int) * b ≤ 2 ^ 27) then some (.int (a ^ b.toNat)) else none
  | _, _ => none
theorem ve_powW (ha : VE X J a ma) (hb : VE X J b mb) : VE X J (.BinOp a .Pow b pos) (m2 D.powW ma mb) := by
  refine ve_two (pe_op (op_pow.or op_powW) ha hb) fun σ H Q x y dx dy d rx ry e q => ?_
  unfold D.powW at e
  split at e
  · cases rx; cases ry
    split at e
    · rename_i hc
      cases e
      obtain ⟨h1, h2 | h2⟩ := hc
      · exact .inl ⟨_, _, rfl, rfl, ⟨h1, h2.1, h2.2⟩, q H _ (fun _ _ k => k) (.int _)⟩
      · exact .inr ⟨_, _, rfl, rfl, ⟨h1, h2⟩, q H _ (fun _ _ k => k) (.int _)⟩
    · cases e
  · cases e
/-! ### texts -/
def D.upper : D → Option D
  | .str x => if x.length ≤ 5592405 then some (.str (Txt.upper x)) else none
  | _ => none
theorem ve_upper {p1 : Pos} (ha : VE X J e m) (hbase : attributeBase e "upper" X.env (eval e X.env) = eval e X.env := by rfl) (hline : (p1.endLine == pos.line) = true := by rfl) : VE X J (.Call (.Attribute e "upper" p1) [] [] pos) (m1 D.upper m) := by
  refine ve_one (r := fun x H Q => tyV X.K "str" x H ∧ (∃ a, x = .str a ∧ ([] : List V) = [] ∧ a.length ≤ 5592405 ∧ Q (.str (Txt.upper a)) H)) (pe_bm0 PySem.F.plainAttrs_str PySem.F.slot_str_upper PySem.F.type_str_upper mt_upper ha hbase hline) fun σ H Q x dx d rx e q => ?_
  unfold D.upper at e
  split at e
  · cases rx
    split at e
    · rename_i hz
      cases e
      exact ⟨rfl, _, rfl, rfl, hz, q H _ (fun _ _ k => k) (.str _)⟩
    · cases e
  · cases e
def dStr : List D → Option D
  | [.int i] => if i.natAbs.log2 < 1920 then some (.str (toString i)) else none
  | [.str x] => some (.str x)
  | _ => none
theorem call_strD : CallR X (.type "str") (fun xs H Q => (∃ i, xs = [.int i] ∧ i.natAbs.log2 < 1920 ∧ Q (.str (toString i)) H) ∨ (∃ a, xs = [.str a] ∧ Q (.str a) H)) := call_str_int.or SkE.call_str_str
theorem on_str : OpN J dStr (fun xs H Q => (∃ i, xs = [.int i] ∧ i.natAbs.log2 < 1920 ∧ Q (.str (toString i)) H) ∨ (∃ a, xs = [.str a] ∧ Q (.str a) H)) := fun σ H Q xs ds d r e q => by
  unfold dStr at e
  split at e
  · cases r with
    | cons r1 r2 =>
      cases r2; cases r1
      split at e
      · rename_i hz
        cases e
        exact .inl ⟨_, rfl, hz, q H _ (fun _ _ k => k) (.str _)⟩
      · cases e
  · cases r with
    | cons r1 r2 =>
      cases r2; cases r1; cases e
      exact .inr ⟨_, rfl, q H _ (fun _ _ k => k) (.str _)⟩
  · cases e
/-! ### the pot -/
def pGet : P3 → Nat → Option Int
  | some (x, _, _), 0 => some x
  | some (_, y, _), 1 => some y
  | some (_, _, z), 2 => some z
  | _, _ => none
def pPut : P3 → Nat → Int → P3
  | some (_, y, z), 0, i => some (i, y, z)
  | some (x, _, z), 1, i => some (x, i, z)
  | some (x, y, _), 2, i => some (x, y, i)
  | p, _, _ => p
def mPotIx (m : ME) (k : Nat) : ME := fun vw p => (m vw p).bind fun d p1 => match d, pGet p1 k with
  | .pot, some i => .ok (.int i) p1
  | _, _ => .bad
theorem ve_potIx {k : Nat} {j : Nat} {p2 : Pos} (ha : VE X J e m) (hs : PlainIx (.Constant (.int (k : Int)) j p2)) : VE X J (.Subscript e (.Constant (.int (k : Int)) j p2) pos) (mPotIx m k) := by
  refine pe_imp (pe_ix ix_seq ha (pe_int (i := (k : Int))) hs) fun σ H Q ⟨vw, p, rr, s, q⟩ => ⟨vw, p, rr, s, ?_⟩
  unfold mPotIx at q
  cases e1 : m vw p with
  | bad => rw [e1] at q; exact q.elim
  | err x dv p1 => rw [e1] at q; exact q
  | ok d p1 =>
    rw [e1] at q
    simp only [Res.bind] at q
    intro H1 v x1 s1 r1
    split at q
    · rename_i i hg
      cases r1 with
      | pot hp =>
        have w := s1.pot
        unfold PotR at w
        rw [hp] at w
        cases p1 with
        | none => exact w.elim
        | some t =>
          obtain ⟨x, y, z⟩ := t
          refine .inl ⟨_, _, _, .int i, rfl, rfl, .inl (.inl w), ?_, q H1 _ x1 s1 (.int i)⟩
          match k, hg with
          | 0, hg => cases hg; rfl
          | 1, hg => cases hg; rfl
          | 2, hg => cases hg; rfl
    · exact q.elim
theorem ERep.potTurn {σ : St} {H : Hp} {env : En} {a : Addr} {xs ys : List V} (r : ERep X J σ H env) (ha : H a = some (.lst xs)) (hp : J.g.pa = some a) : ERep X J σ (upd H a (.lst ys)) env := by
  have e1 : Ext1 H (upd H a (.lst ys)) := ext1_lst ha
  refine ⟨r.len, fun j sl h => ?_, r.dist, fun b o hb k n => ?_⟩
  · have q := r.slot j sl h
    cases sl with
    | p d' =>
      obtain ⟨v', h1, h2⟩ := q
      exact ⟨v', h1, J.ext1 e1 h2⟩
    | l ds' =>
      obtain ⟨b, ys, h1, h2, h3, h4⟩ := q
      refine ⟨b, ys, h1, ?_, J.extL1 e1 h3, h4⟩
      rw [upd_ne]
      · exact h2
      · intro e
        subst e
        exact h4.1 hp
  · have w := r.ext b o hb k n
    rw [upd_ne]
    · exact w
    · intro e
      subst e
      rw [ha] at w
      cases w
      exact k hp xs rfl
def sPotSet (i k : Nat) (me : ME) : MS := onV me fun d env p => match env[i]?, d, pGet p k with
  | some (some (.p .pot)), .int v, some _ => .ok (.nx, env) (pPut p k v)
  | _, _, _ => .bad
theorem vs_potSet {i k j : Nat} {x : Str} {p1 p2 p3 : Pos} (h : VE X J e m) (hN : X.N[i]? = some x := by rfl) (hv : Vis X.env.scope x := by first | exact Or.inl rfl | exact Or.inr (Or.inl rfl) | exact Or.inr (Or.inr rfl)) (hd : (x == ("__debug__" : Str)) = false := by decide)
    (hcd : (x == ("__classdict__" : Str)) = false := by decide)
    (ha : ∀ v, assign (.Subscript (.Name x p1) (.Constant (.int (k : Int)) j p3) p2) X.env v = (do
      let ov ← holding [v] (eval (.Name x p1) X.env)
      let iv ← holding [v, ov] (eval (.Constant (.int (k : Int)) j p3) X.env)
      standAt p2
      holding [v, ov, iv] (setItem ov iv v)
      release [v, ov, iv] []) := by intro _; rfl)
    (hs : swapsWithSole [.Subscript (.Name x p1) (.Constant (.int (k : Int)) j p3) p2] e pos.line X.env = pure false := by rfl) (hw : swappedStores [.Subscript (.Name x p1) (.Constant (.int (k : Int)) j p3) p2] e X.env = pure none := by rfl)
    (h1 : (assignEach [.Subscript (.Name x p1) (.Constant (.int (k : Int)) j p3) p2] X.env).map (·.2) = [assign (.Subscript (.Name x p1) (.Constant (.int (k : Int)) j p3) p2) X.env] := by rfl) :
    VS X J (.Assign [.Subscript (.Name x p1) (.Constant (.int (k : Int)) j p3) p2] e pos) (sPotSet i k m) := by
  refine ps_imp (ps_asg h (pg_sub (pe_var hN hv hd hcd) pe_int set_list ha) hs hw h1) fun Dn σ H q => onV_logic q fun env d p1 H1 v r s rv q => ?_
  split at q
  · rename_i v' old hi hg
    obtain ⟨u, e1, e2⟩ := r.slot i _ hi
    cases e2 with
    | @pot a hp =>
      have w := s.pot
      unfold PotR at w
      rw [hp] at w
      cases rv
      cases p1 with
      | none => exact w.elim
      | some t =>
        obtain ⟨x, y, z⟩ := t
        have st : ∀ p', PotR J.g (upd H1 a (.lst [V.int x, V.int y, V.int z])) p' → True := fun _ _ => trivial
        have go : ∀ (j : Nat) (x' y' z' : Int), k = j → ixN 3 (j : Int) = some j → [V.int x, V.int y, V.int z].set j (.int v') = [V.int x', V.int y', V.int z'] → pPut (some (x, y, z)) k v' = some (x', y', z') →
            tVar i σ H1 fun o H2 => (fun σ H Q => Q (V.int (k : Int)) H) σ H2 fun ix H3 => rSetL o ix (.int v') H3 fun H4 => Dn.nx σ H4 := fun j x' y' z' ek hx e3 e4 => by
          refine ⟨.ref a, e1, a, _, _, j, rfl, rfl, w, by rw [ek]; exact hx, ?_⟩
          rw [e3]
          rw [e4] at q
          refine q _ _ (r.potTurn w hp) ⟨?_, fun P hP => ?_⟩ (ext1_lst w)
          · unfold PotR
            rw [hp]
            exact upd_same
          · obtain ⟨ps, h1, h2, h3⟩ := s.tab P hP
            refine ⟨ps, ?_, h2, fun pos cv hc => ?_⟩
            · rw [upd_ne]
              · exact h1
              · intro e; rw [e, w] at h1; cases h1
            · obtain ⟨c, e1, e2⟩ := h3 pos cv hc
              refine ⟨c, e1, ?_⟩
              rw [upd_ne]
              · exact e2
              · intro e; rw [e, w] at e2; unfold CodeO at e2; cases e2
        have hk : k = 0 ∨ k = 1 ∨ k = 2 := by
          match k, hg with
          | 0, _ => exact .inl rfl
          | 1, _ => exact .inr (.inl rfl)
          | 2, _ => exact .inr (.inr rfl)
        rcases hk with hk | hk | hk
        · exact go 0 v' y z hk rfl rfl (by rw [hk]; rfl)
        · exact go 1 x v' z hk rfl rfl (by rw [hk]; rfl)
        · exact go 2 x y v' hk rfl rfl (by rw [hk]; rfl)
  · exact q.elim
end
end VL

namespace VL
open PySem PySem.Spec PyProof.Rows L2 LamX
/-! ### a def that hands on a new list -/
def PFN (g : Gx) (H : Hp) (Q : VK) (E : XK) : Res (List D) → Prop
  | .ok ds p => ∀ (H' : Hp) (a : Addr) (xs : List V), Ext g H H' → StR g H' p → H' a = none → RepL g coN H' xs ds → Q (.ref a) (upd H' a (.lst xs))
  | .err x dv p => ∀ (H' : Hp) (C dd : Addr) (y : V), Ext g H H' → StR g H' p → g.mg x = some (.ref C) → H' dd = some (.xd [("value", y)]) → Rep g coN H' y dv → E (.ref C) (some dd) H'
  | .bad => False
structure FnN (P : Program) (w : World) (base : Heap) (g : Gx) (k : Nat) (f : Addr) (fd : FuncData) (ps : List Str) (mf : List D → P3 → Res (List D)) : Prop where
  len : ∀ ds p, ds.length ≠ ps.length → mf ds p = .bad
  run : ∀ (A : Around) (outer : List Env) (s : Shared) (H : Hp) (args : Args) (us : List Value) (vs : List V) (ds : List D) (p : P3) (Q : VK) (E : XK), Room k A → A.guards = some [] → Env0 P w g.K g.mg base A outer s H → BindsTo s fd args (ps.zip us) → Vals vs us →
    RepL g coN H vs ds → StR g H p → PFN g H Q E (mf ds p) → codeAny (model P w) A (.call (.ref f) args) (CR (L2.CX P w) outer P w H s Q E) s
structure CalN (P : Program) (w : World) (base : Heap) (g : Gx) (k : Nat) (x : Str) (ps : List Str) (mf : List D → P3 → Res (List D)) : Prop where
  ex : ∃ (f : Addr) (fd : FuncData), g.mg x = some (.ref f) ∧ PySem.W.keepIn g.K (.ref f) = true ∧ Binds g.K fd ps [] ∧ FnN P w base g k f fd ps mf
def outN (r : Res (Fl × En)) : Res (List D) := match r with
  | .ok (.rtl ds, _) p => .ok ds p
  | .ok _ _ => .bad
  | .err x v p => .err x v p
  | .bad => .bad
def callN (n np : Nat) (m : MS) : List D → P3 → Res (List D) := fun ds p => if ds.length = np then outN (m (env0 n ds) p) else .bad
section
variable {P : Program} {w : World} {base : Heap} {g : Gx} {k : Nat} {x qual : Str} {st : Stmt} {f : Addr} {fd : FuncData} {N ps : List Str} {m : MS}
/-- a def entered: its frame, its slots -/
theorem enter (F : L2.Fun g.K x qual st f fd) (S : FnScope N ps (L2.defScope st))
    (hbody : ∀ (cdv : Value) (A : Around) (outer : List Env) (s : Shared) (H : Hp) (E : XK), Fr0 (cxOf (L2.CX P w) P w g.K g.mg base N qual (L2.defScope st) f cdv A outer s H E) (jP g fun cls d _ H' => E cls d H') base k →
      VSs (cxOf (L2.CX P w) P w g.K g.mg base N qual (L2.defScope st) f cdv A outer s H E) (jP g fun cls d _ H' => E cls d H') (L2.defBody st) m)
    {A : Around} {outer : List Env} {s : Shared} {H : Hp} {args : Args} {us : List Value} {vs : List V} {ds : List D} {p : P3} {Q : VK} {E : XK} (hr : Room (k + 1) A) (gd : A.guards = some []) (e0 : Env0 P w g.K g.mg base A outer s H) (hb : BindsTo s fd args (ps.zip us)) (r : Vals vs us)
    (rd : RepL g coN H vs ds) (stp : StR g H p) (hl : ds.length = ps.length) (q : ∀ cdv, PSt (cxOf (L2.CX P w) P w g.K g.mg base N qual (L2.defScope st) f cdv A outer s H E) (jP g fun cls d _ H' => E cls d H') { nx := fun _ H' => Q .non H', rt := Q } (L2.start N vs) H (m (env0 N.length ds) p)) :
    codeAny (model P w) A (.call (.ref f) args) (CR (L2.CX P w) outer P w H s Q E) s := by
  obtain ⟨oc, od, kV, doc, pm, an, cdv, ct, osl, rfl, lk, hcd⟩ := F.ex
  have hpl : ps.length ≤ N.length := by have := congrArg List.length S.pre; rw [List.length_take] at this; omega
  have KX : g.K.In s.heap := e0.mod.kin.keeps fun b o e => (e0.bs b o e).1
  have lim : s.heap.NoLimit := e0.mod.nolimit.keeps fun b o e => (e0.bs b o e).1
  have hkind : ∀ y ∈ ps.zip us, (L2.defScope st).names.lookup y.1 = some .local ∨ ((L2.defScope st).names.lookup y.1 = some .cell ∧ ((cellsFrom (s.heap.objs.size + 1) (L2.defScope st).names []).lookup y.1).isSome = true) := fun ⟨n, v⟩ hy => by
    rcases S.par n (List.of_mem_zip hy).1 with z | z
    · exact .inl z
    · exact .inr ⟨z, PySem.W.cellsFrom_some _ _ _ (.inl z)⟩
  have hvl : vs.length = ps.length := by rw [rd.length, hl]
  refine codeAny_call_function hr.depth (KX _ _ lk) rfl S.co S.gen rfl (PySem.W.codeRec_of KX hcd) (hb _ _ _ _ ?_)
  refine wpAny_newFunctionEnv_cells S.kind hkind fun env he s1 xx => ?_
  subst he
  refine ⟨lim.keeps xx.toInCall.keep, codeAny_func ?_⟩
  have I : Inv (cxOf (L2.CX P w) P w g.K g.mg base N qual (L2.defScope st) f cdv A outer s H E) [] (L2.start N vs) H s1 := inv_start S hr.hd e0 hvl r xx
  have F0 : Fr0 (cxOf (L2.CX P w) P w g.K g.mg base N qual (L2.defScope st) f cdv A outer s H E) (jP g fun cls d _ H' => E cls d H') base k :=
    ⟨rfl, rfl, rfl, takes_of rfl rfl rfl rfl, hr.deeper _, gd, rfl⟩
  have er : ERep (cxOf (L2.CX P w) P w g.K g.mg base N qual (L2.defScope st) f cdv A outer s H E) (jP g fun cls d _ H' => E cls d H') (L2.start N vs) H (env0 N.length ds) := by
    refine ⟨?_, fun i sl h => ?_, fun i j a _ ⟨ds', h⟩ => ?_, .refl⟩
    · unfold env0 L2.start
      rw [List.length_append, List.length_append, List.length_map, List.length_map, List.length_replicate, List.length_replicate, rd.length]
    · unfold env0 at h
      by_cases hi : i < ds.length
      · rw [List.getElem?_append_left (by rw [List.length_map]; exact hi), List.getElem?_map, List.getElem?_eq_getElem hi] at h
        cases h
        obtain ⟨v, h1, h2⟩ := rd.get (List.getElem?_eq_getElem hi)
        exact ⟨v, start_get (by omega) h1, h2⟩
      · rw [List.getElem?_append_right (by rw [List.length_map]; omega), List.getElem?_replicate] at h
        split at h <;> cases h
    · unfold env0 at h
      by_cases hi : i < ds.length
      · rw [List.getElem?_append_left (by rw [List.length_map]; exact hi), List.getElem?_map, List.getElem?_eq_getElem hi] at h
        cases h
      · rw [List.getElem?_append_right (by rw [List.length_map]; omega), List.getElem?_replicate] at h
        split at h <;> cases h
  have hrun := (hbody cdv A outer s H E F0).run [] s1 (L2.start N vs) H { nx := fun _ H' => Q .non H', rt := Q } I ⟨_, p, er, stp, q cdv⟩
  refine wpAny_mono hrun (fun fl s' hs => ?_) fun e s' hs => hs
  have fin : ∀ {σ' : St} {H' : Hp} {v : V} {u : Value}, Inv (cxOf (L2.CX P w) P w g.K g.mg base N qual (L2.defScope st) f cdv A outer s H E) [] σ' H' s' → RelV v u → Q v H' → CE outer P w H s Q u s' :=
    fun {σ' H' v u} J rv z => ⟨v, H', J.os, J.bare, J.base, J.hok, rv, z⟩
  cases fl with
  | ret u => obtain ⟨v, σ', H', J, rv, z⟩ := hs; exact fin J rv z
  | next => obtain ⟨σ', H', J, z⟩ := hs; exact fin (v := V.non) (u := Value.none) J rfl z
  | brk => obtain ⟨_, _, _, z⟩ := hs; exact False.elim z
  | cont => obtain ⟨_, _, _, z⟩ := hs; exact False.elim z
theorem fnn_of (F : L2.Fun g.K x qual st f fd) (S : FnScope N ps (L2.defScope st))
    (hbody : ∀ (cdv : Value) (A : Around) (outer : List Env) (s : Shared) (H : Hp) (E : XK), Fr0 (cxOf (L2.CX P w) P w g.K g.mg base N qual (L2.defScope st) f cdv A outer s H E) (jP g fun cls d _ H' => E cls d H') base k →
      VSs (cxOf (L2.CX P w) P w g.K g.mg base N qual (L2.defScope st) f cdv A outer s H E) (jP g fun cls d _ H' => E cls d H') (L2.defBody st) m) : FnN P w base g (k + 1) f fd ps (callN N.length ps.length m) := by
  refine ⟨fun ds p h => if_neg h, fun A outer s H args us vs ds p Q E hr gd e0 hb r rd stp q => ?_⟩
  unfold callN at q
  by_cases hl : ds.length = ps.length
  · rw [if_pos hl] at q
    refine enter F S hbody hr gd e0 hb r rd stp hl fun cdv => ?_
    unfold outN at q
    cases e1 : m (env0 N.length ds) p with
    | bad => rw [e1] at q; exact q
    | err y dv p1 => rw [e1] at q; exact fun σ H' C dd y' e s c z r => q H' C dd y' e s c z r
    | ok fe p1 =>
      obtain ⟨fl, env1⟩ := fe
      rw [e1] at q
      cases fl with
      | rtl ds => exact fun H' a xs e s hn r => q H' a xs e s hn r
      | _ => exact q.elim
  · rw [if_neg hl] at q
    exact q.elim
end
section
variable {X : Cx} {J : Jc} {base : Heap} {k : Nat} {e : Expr} {es : List Expr} {sts : List Stmt} {m : MS} {ms : MA} {pos : Pos}
def sRetNew (ms : MA) : MS := onN ms fun ds env p => .ok (.rtl ds, env) p
theorem vs_retNew (F : Fr0 X J base k) (h : VN X J e ms) (pl : ∀ H, (J.co H).le coN := by intro _; exact .refl) : VS X J (.Return (some e) pos) (sRetNew ms) := by
  refine ps_imp (ps_ret h) fun Dn σ H ⟨env, p, r, s, q⟩ => ⟨vwOf env, p, r.vrep, s, ?_⟩
  unfold sRetNew onN at q
  cases e1 : ms (vwOf env) p with
  | bad => rw [e1] at q; exact q
  | err x dv p1 => rw [e1] at q; exact err_st r q
  | ok d p1 =>
    rw [e1] at q
    exact fun H1 a xs x1 s1 hn rl => q H1 a xs (r.ext.trans x1) s1 hn (plainL pl rl)
def mCallN (mf : List D → P3 → Res (List D)) (ms : MA) : MA := fun vw p => (ms vw p).bind mf
theorem vn_call {mf : List D → P3 → Res (List D)} {x : Str} {ps : List Str} {p : Pos} {j : Nat} (C : CalN X.prog X.w X.base J.g j x ps mf) (F : Fr0 X J X.base k) (hj : j ≤ k) (ha : VA X J (e :: es) ms) (pl : ∀ H, (J.co H).le coN := by intro _; exact .refl) (hg : Gl X x := by rfl) (hdb : (x == ("__debug__" : Str)) = false := by decide)
    (he : starEach (e :: es) X.env = (false, eval e X.env) :: starEach es X.env := by rfl) (hpl : (backTo pos (starEach es X.env)).any (·.1) = false := by rfl) : VN X J (.Call (.Name x p) (e :: es) [] pos) (mCallN mf ms) := by
  obtain ⟨f, fd, h1, h2, h3, h4⟩ := C.ex
  refine ⟨fun pins s σ H Q I ⟨vw, p, rr, st, q⟩ => ?_⟩
  refine wpAny_Call_Name_kw (ld_glob I hg (F.mg ▸ h1) ?_ hdb)
  have hk : PySem.W.keepIn X.K (.ref f) = true := F.K ▸ h2
  refine PySem.W.callWith_K (h₀ := X.base) I.ok.mod.kin hk (thn (ha.run pos pins s σ H (fun vs H1 => ∃ ds p1, J.RL σ H1 vs ds ∧ StR J.g H1 p1 ∧ PN J σ H1 Q (mf ds p1)) I ⟨vw, p, rr, st, ?_⟩) fun us s1 ⟨vs, H1, I1, rv, ds, p1, r1, s1', q1⟩ => ⟨I1.kIn, ?_⟩) he hpl
  · unfold mCallN at q
    cases e1 : ms vw p with
    | bad => rw [e1] at q; exact q.elim
    | err x dv p1 => rw [e1] at q; exact q
    | ok ds p1 =>
      rw [e1] at q
      simp only [Res.bind] at q
      intro H1 vs x1 s1 r1
      refine ⟨ds, p1, r1, s1, ?_⟩
      cases e2 : mf ds p1 with
      | bad => rw [e2] at q; exact q
      | err x dv p1 => rw [e2] at q; exact ErrP.ext q x1
      | ok d p2 => rw [e2] at q; exact fun H2 a xs x2 s2 hn r2 => q H2 a xs (x1.trans x2) s2 hn r2
  · have hl : us.length = ps.length := by
      rw [← rv.length, r1.length]
      refine Classical.byContradiction fun z => ?_
      rw [h4.len ds p1 z] at q1
      exact q1
    have hb' := h3 s1 us (F.K ▸ I1.kIn) (by rw [List.append_nil]; exact hl)
    rw [List.append_nil] at hb'
    have e0 : Env0 X.prog X.w J.g.K J.g.mg X.base X.A X.stack s1 H1 := by rw [F.K, F.mg]; exact I1.env0
    refine wpAny_call (codeAny_mono (h4.run X.A X.stack s1 H1 ⟨us, []⟩ us vs ds p1 Q (fun cls d H' => J.W cls d σ H') (F.room.mono hj) F.gd e0 hb' rv (plainL pl r1) s1' ?_) fun r s' hq => ?_)
    · cases e1 : mf ds p1 with
      | bad => rw [e1] at q1; exact q1
      | err x dv p1 => rw [e1] at q1; exact fun H' C dd y e s c z r => q1 H' C dd y e s c z (Rep.up r)
      | ok d p1 => rw [e1] at q1; exact fun H' a xs e s hn r => q1 H' a xs e s hn (r.ext .refl coN_le)
    · cases r with
      | error e => exact F.tk _ _ (XE.of_call (W := J.W) I1 (fun _ _ _ z => z) hq)
      | ok fl =>
        cases fl with
        | ret u => exact I1.after hq
        | next => exact False.elim hq
        | brk => exact False.elim hq
        | cont => exact False.elim hq
/-! ### the pot comes, the rest of the suite has it -/
def Gx.at_ (g : Gx) (a : Addr) : Gx := { g with pa := some a }
def Jc.at_ (J : Jc) (a : Addr) : Jc := { J with g := J.g.at_ a }
mutual
theorem Rep.at_ {g : Gx} {co : CO} {H : Hp} {a : Addr} (h0 : g.pa = none) : ∀ {v : V} {d : D}, Rep g co H v d → Rep (g.at_ a) co H v d
  | _, _, .non => .non
  | _, _, .bl b => .bl b
  | _, _, .int i => .int i
  | _, _, .str x => .str x
  | _, _, .tup s r => .tup s (RepL.at_ h0 r)
  | _, _, .lst s r => .lst s (RepL.at_ h0 r)
  | _, _, .glb h => .glb h
  | _, _, .exc h1 h2 h3 r => .exc h1 h2 h3 (Rep.at_ h0 r)
  | _, _, .clo h r => .clo h (RepL.at_ h0 r)
  | _, _, .own h => .own h
  | _, _, .pot h => by rw [h0] at h; cases h
  | _, _, .scr h => .scr h
  | _, _, .rng h => .rng h
theorem RepL.at_ {g : Gx} {co : CO} {H : Hp} {a : Addr} (h0 : g.pa = none) : ∀ {vs : List V} {ds : List D}, RepL g co H vs ds → RepL (g.at_ a) co H vs ds
  | _, _, .nil => .nil
  | _, _, .cons r t => .cons (Rep.at_ h0 r) (RepL.at_ h0 t)
end
/-- what is kept when the pot is gone -/
def keepS : Option Sl → Option Sl
  | some (.p (.scr ns)) => some (.p (.scr ns))
  | some (.p (.int i)) => some (.p (.int i))
  | some (.p (.bl i)) => some (.p (.bl i))
  | some (.p (.str i)) => some (.p (.str i))
  | _ => none
def sPot (i : Nat) (ms : MA) (rest : MS) : MS := fun env p => match p with
  | some _ => .bad
  | none => match ms (vwOf env) none with
    | .ok [.int x, .int y, .int z] none => match rest (setE env i (.p .pot)) (some (x, y, z)) with
      | .ok (.nx, env2) (some _) => .ok (.nx, env2.map keepS) none
      | .ok (.ret (.bl b), env2) (some _) => .ok (.ret (.bl b), []) none
      | _ => .bad
    | _ => .bad
theorem vss_pot {i : Nat} {x : Str} {pos' : Pos} (h0 : J.g.pa = none) (hN : X.N.Nodup) (he : VN X J e ms) (hrest : ∀ a, VSs X (J.at_ a) sts m) (hi : X.N[i]? = some x := by rfl) (hx : Loc X.env.scope x := by first | exact Or.inl rfl | exact Or.inr rfl) (hs : swapsWith e (some (.Name x pos')) pos.line X.env = pure false := by rfl)
    (hfn : X.fn x = true ∨ X.env.scope.names.lookup x = some .local := by first | exact .inl rfl | exact .inr rfl) : VSs X J (.Assign [.Name x pos'] e pos :: sts) (sPot i ms m) := by
  have hr : PSs X sts (fun Dn σ H => ∃ a, tS X (J.at_ a) m Dn σ H) := ⟨fun pins s σ H D I ⟨a, h⟩ => (hrest a).run pins s σ H D I h⟩
  refine pss_imp (pss_cons (ps_set hN hi hx he hs hfn) hr) fun Dn σ H ⟨env, p, r, s, q⟩ => ?_
  refine ⟨vwOf env, p, r.vrep, s, ?_⟩
  unfold sPot at q
  cases p with
  | some t => exact q.elim
  | none =>
    (try simp only at q)
    cases e1 : ms (vwOf env) none with
    | bad => rw [e1] at q; exact q.elim
    | err x dv p1 => rw [e1] at q; exact q.elim
    | ok ds p1 =>
      rw [e1] at q
      (try simp only at q)
      split at q
      · rename_i x0 y0 z0 e2
        cases e2
        intro H1 a xs x1 s1 hn rl
        have hxs : xs = [V.int x0, V.int y0, V.int z0] := by
          cases rl with
          | cons a1 rl =>
            cases rl with
            | cons a2 rl =>
              cases rl with
              | cons a3 rl =>
                cases rl; cases a1; cases a2; cases a3
                rfl
        subst hxs
        have gr : Grow H1 (upd H1 a (.lst [V.int x0, V.int y0, V.int z0])) := Grow.upd hn
        have r1 := (r.ext1 x1).ext1 gr.ext
        obtain ⟨a', xs', ev, ha', rl', ow', fr'⟩ := (newL_of (r.ext1 x1) s1 hn rl).at_
        cases ev
        have h0a : ∀ o, X.H_0 a = some o → ∃ ps, o = .tbl ps := ow'.2
        -- the frame with the pot
        have er : ERep X (J.at_ a) (σ.set i (some (.ref a))) (upd H1 a (.lst [V.int x0, V.int y0, V.int z0])) (setE env i (.p .pot)) := by
          have er0 : ERep X (J.at_ a) σ (upd H1 a (.lst [V.int x0, V.int y0, V.int z0])) env := by
            refine ⟨r1.len, fun j sl h => ?_, r1.dist, fun b o hb k n => r1.ext b o hb (fun z => by rw [h0] at z; cases z) n⟩
            have q := r1.slot j sl h
            cases sl with
            | p d' =>
              obtain ⟨v', h1, h2⟩ := q
              exact ⟨v', h1, Rep.at_ h0 h2⟩
            | l ds' =>
              obtain ⟨b, ys, h1, h2, h3, h4⟩ := q
              refine ⟨b, ys, h1, h2, RepL.at_ h0 h3, fun z => ?_, h4.2⟩
              cases z
              exact fr' j ⟨ds', h⟩ h1
          exact er0.set (v := .ref a) (d := .pot) (.pot rfl)
        refine ⟨a, setE env i (.p .pot), some (x0, y0, z0), er, ⟨(show upd H1 a (.lst [V.int x0, V.int y0, V.int z0]) a = some (.lst [V.int x0, V.int y0, V.int z0]) from upd_same), (s1.grow gr).tab⟩, ?_⟩
        have up : ∀ {H' : Hp}, Ext (J.at_ a).g X.H_0 H' → Ext J.g X.H_0 H' := fun {H'} e b o hb k n => e b o hb (fun z => by
          cases z
          obtain ⟨ps, e2⟩ := h0a o hb
          exact absurd e2 (n ps)) n
        have x2 : Ext1 H (upd H1 a (.lst [V.int x0, V.int y0, V.int z0])) := x1.hard.trans (Grow.ext (g := J.g) gr).hard
        cases e3 : m (setE env i (.p .pot)) (some (x0, y0, z0)) with
        | bad => rw [e3] at q; exact q.elim
        | err x dv p2 => rw [e3] at q; exact q.elim
        | ok fe p2 =>
          obtain ⟨fl, env2⟩ := fe
          rw [e3] at q
          cases p2 with
          | none => cases fl with
            | ret d => cases d <;> exact q.elim
            | _ => exact q.elim
          | some t =>
            have tabs : ∀ {H' : Hp}, StR (J.at_ a).g H' (some t) → StR J.g H' none := fun {H'} s => ⟨by unfold PotR; rw [h0]; trivial, s.tab⟩
            cases fl with
            | nx =>
              (try simp only at q)
              intro σ2 H2 r2 s2 x3
              refine q σ2 H2 ⟨by rw [List.length_map]; exact r2.len, fun j sl h => ?_, fun j j' c _ ⟨ds, h⟩ => ?_, up r2.ext⟩ (tabs s2) (x2.trans x3)
              · rw [List.getElem?_map] at h
                cases e4 : env2[j]? with
                | none => rw [e4] at h; cases h
                | some o =>
                  rw [e4] at h
                  have h' : keepS o = some sl := by simpa using h
                  cases o with
                  | none => cases h'
                  | some s0 =>
                    have q2 := r2.slot j s0 e4
                    cases s0 with
                    | l ds => cases h'
                    | p d =>
                      obtain ⟨v, h1, h2⟩ := q2
                      cases d with
                      | scr ns => cases h'; cases h2 with | scr z => exact ⟨_, h1, .scr z⟩
                      | int ns => cases h'; cases h2; exact ⟨_, h1, .int _⟩
                      | bl ns => cases h'; cases h2; exact ⟨_, h1, .bl _⟩
                      | str ns => cases h'; cases h2; exact ⟨_, h1, .str _⟩
                      | _ => cases h'
              · rw [List.getElem?_map] at h
                cases e4 : env2[j]? with
                | none => rw [e4] at h; cases h
                | some o =>
                  rw [e4] at h
                  have h' : keepS o = some (.l ds) := by simpa using h
                  cases o with
                  | none => cases h'
                  | some s0 =>
                    cases s0 with
                    | l ds => cases h'
                    | p d => cases d <;> cases h'
            | ret d =>
              cases d with
              | bl b =>
                (try simp only at q)
                intro H2 v x3 s2 r2
                cases r2
                exact q H2 _ (up x3) (tabs s2) (.bl b)
              | _ => exact q.elim
            | _ => exact q.elim
      · exact q.elim
end
end VL

namespace VL
open PySem PySem.Spec PyProof.Rows L2 LamX
/-! ### the law's own call -/
/-- what is tracked as the law is entered: the script (unless it is written), the tables -/
def hp0 (a : Addr) (frz : Bool) (o : Obj) (xs : List V) (ts : List Addr) : Hp := fun b => if b ∈ ts then some (.tbl #[]) else if b = a ∧ frz = true then some (.frz o (.lst xs)) else none
theorem hp0_t {a : Addr} {z : Bool} {o : Obj} {xs : List V} {ts : List Addr} {b : Addr} (h : b ∈ ts) : hp0 a z o xs ts b = some (.tbl #[]) := if_pos h
theorem hp0_n {a : Addr} {z : Bool} {o : Obj} {xs : List V} {ts : List Addr} {b : Addr} (h : b ∉ ts) (h2 : ¬ (b = a ∧ z = true)) : hp0 a z o xs ts b = none := (if_neg h).trans (if_neg h2)
theorem hp0_a {a : Addr} {o : Obj} {xs : List V} {ts : List Addr} (h : a ∉ ts) : hp0 a true o xs ts a = some (.frz o (.lst xs)) := (if_neg h).trans (if_pos ⟨rfl, rfl⟩)
theorem hp0_cases {a : Addr} {z : Bool} {o : Obj} {xs : List V} {ts : List Addr} (b : Addr) : (b ∈ ts ∧ hp0 a z o xs ts b = some (.tbl #[])) ∨ (b ∉ ts ∧ b = a ∧ z = true ∧ hp0 a z o xs ts b = some (.frz o (.lst xs))) ∨ (b ∉ ts ∧ ¬ (b = a ∧ z = true) ∧ hp0 a z o xs ts b = none) := by
  by_cases h : b ∈ ts
  · exact .inl ⟨h, hp0_t h⟩
  · by_cases h2 : b = a ∧ z = true
    · obtain ⟨e1, e2⟩ := h2
      subst e1 e2
      exact .inr (.inl ⟨h, rfl, rfl, hp0_a h⟩)
    · exact .inr (.inr ⟨h, h2, hp0_n h h2⟩)
theorem vl_call {P : Program} {w : World} {K : PySem.W.Frag} {mg mb : Str → Option Value} {k : Nat} {fa a : Addr} {cs : List (Addr × Addr)} {T : List (Addr × Str)} {x : Str} {s₁ : Shared} {vs : List Value} {ns : List Int}
    (KX : K.In s₁.heap) (hns : s₁.heap.Ns mainGlobals mg) (hb : s₁.heap.Ns builtinsNs mb) (hbb : ∀ x : Str, x ≠ "__name__" → mb x = bootBuiltins x) (hlim : s₁.heap.NoLimit) (hg : s₁.gens = #[])
    (hT : ∀ p ∈ cs, s₁.heap.get? p.2 = some { cls := .none, data := .fields #[] }) (nT : ∀ p ∈ cs, K.lookup p.2 = none) (C : ∀ p ∈ cs, PySem.W.CodeHd s₁.heap p.1 p.2) (hTT : ∀ p ∈ T, p.1 ∈ cs.map (·.2))
    (hbm : ∃ (bm : Addr) (ob : Obj), mg "__builtins__" = some (.ref bm) ∧ bm ≠ builtinsNs ∧ s₁.heap.get? bm = some ob ∧ ob.cls = .type "module" ∧ ob.dict = some builtinsNs ∧ ob.data = .plain)
    (ha : s₁.heap.get? a = some { cls := .type "list", data := .seq vs.toArray }) (hi : IntsAre vs ns) (hl : ns.length ≤ sizeLine) (hr : Room k callerA)
    (F : ∀ base : Heap, K.In base → base.Ns mainGlobals mg → (∀ p ∈ cs, TabB base mg p.1 p.2) → ∃ fd mf, FnP P w base ⟨K, mg, none, T⟩ k fa fd [x] mf ∧ (∀ (s : Shared) (u : Value), K.In s.heap → BindsTo s fd ⟨[u], []⟩ [(x, u)]) ∧ ∃ p, mf [.scr ns] none = .ok (.bl true) p) :
    codeAny (model P w) callerA (.call (.ref fa) ⟨[.ref a], []⟩) (fun r s' => r = .ok (.ret (.bool true)) ∧ OldK s₁.heap s'.heap ∧ s'.os = s₁.os ∧ AllBare s'.gens) s₁ := by
  have rv := vals_ints hi
  have tAt : ∀ b, b ∈ cs.map (·.2) → s₁.heap.get? b = some { cls := .none, data := .fields #[] } ∧ K.lookup b = none ∧ ∃ p ∈ cs, p.2 = b := fun b hb => by
    obtain ⟨p, hp, e⟩ := List.mem_map.mp hb
    subst e
    exact ⟨hT p hp, nT p hp, p, hp, rfl⟩
  have aT : a ∉ cs.map (·.2) := fun z => by
    have q := (tAt a z).1
    rw [ha] at q
    cases Option.some.inj q
  let zz : Bool := (K.lookup a).isNone
  let oa : Obj := { cls := .type "list", data := .seq vs.toArray }
  let H : Hp := hp0 a zz oa (ns.map V.int) (cs.map (·.2))
  have hlv : (ns.map V.int).length ≤ sizeLine := by rw [List.length_map]; exact hl
  have hok : HOk P w H s₁.heap := fun b u e => by
    rcases hp0_cases (a := a) (z := zz) (o := oa) (xs := ns.map V.int) (ts := cs.map (·.2)) b with ⟨h1, h2⟩ | ⟨h1, h2, h3, h4⟩ | ⟨h1, h2, h3⟩
    · rw [show H b = _ from h2] at e
      cases e
      exact (tAt b h1).1
    · rw [show H b = _ from h4] at e
      cases e
      subst h2
      exact ⟨ha, hlv, vs, _, rv, ha⟩
    · rw [show H b = _ from h3] at e
      cases e
  -- what is not tracked
  have free : ∀ {b : Addr} {o : Obj}, s₁.heap.get? b = some o → (∀ vs n, o.data ≠ .seq vs n) → (∀ vs, o.data ≠ .fields vs ∨ o.cls ≠ .none) → H b = none := fun {b o} e n1 n2 => by
    rcases hp0_cases (a := a) (z := zz) (o := oa) (xs := ns.map V.int) (ts := cs.map (·.2)) b with ⟨h1, _⟩ | ⟨_, h2, _⟩ | ⟨_, _, h3⟩
    · have q := (tAt b h1).1
      rw [e] at q
      cases q
      rcases n2 #[] with z | z <;> exact absurd rfl z
    · subst h2
      rw [e] at ha
      cases ha
      exact absurd rfl (n1 _ _)
    · exact h3
  have dictFree : ∀ {b : Addr} {o : Obj} {es : Array DictEntry} {ep : Nat}, s₁.heap.get? b = some o → o.data = .dict es ep → H b = none := fun {b o es ep} e d =>
    free e (fun vs n z => by rw [d] at z; cases z) fun vs => .inl fun z => by rw [d] at z; cases z
  have nsK : ∀ {b : Addr} {m : Str → Option Value}, s₁.heap.Ns b m → (hidT s₁.heap H).Ns b m := fun ⟨o, es, ep, e, d, r⟩ => ⟨o, es, ep, hidT_get e (dictFree e d), d, r⟩
  have KB : K.In (hidT s₁.heap H) := fun b o e => by
    refine hidT_get (KX b o e) ?_
    rcases hp0_cases (a := a) (z := zz) (o := oa) (xs := ns.map V.int) (ts := cs.map (·.2)) b with ⟨h1, _⟩ | ⟨_, h2, h4, _⟩ | ⟨_, _, h3⟩
    · rw [(tAt b h1).2.1] at e; cases e
    · subst h2
      have : (K.lookup b).isNone = true := h4
      rw [e] at this
      cases this
    · exact h3
  have M : L2.Mod K mg (hidT s₁.heap H) := ⟨KB, nsK hns, ⟨mb, nsK hb, hbb⟩, let ⟨mc, h1, h2⟩ := hlim; ⟨mc, nsK h1, h2⟩⟩
  have TB : ∀ p ∈ cs, TabB (hidT s₁.heap H) mg p.1 p.2 := fun p hp => by
    obtain ⟨o, us, file, tf, flags, tg, inF, text, tt, e1, r1, r2, r⟩ := C p hp
    have nG : ∀ {b m}, s₁.heap.Ns b m → b ≠ p.2 := fun ⟨o, es, ep, e, d, _⟩ z => by
      subst z
      rw [hT p hp] at e
      cases e
      cases d
    refine ⟨⟨o, us, file, tf, flags, tg, inF, text, tt, hidT_get e1 (free e1 (fun vs n z => by rw [r2] at z; cases z) fun vs => .inr (by rw [r1]; intro z; cases z)), r1, r2, r⟩, ?_, nG hns⟩
    obtain ⟨bm, ob, b1, b2, b3, b4, b5, b6⟩ := hbm
    have fb : H bm = none := free b3 (fun vs n z => by rw [b6] at z; cases z) fun vs => .inl fun z => by rw [b6] at z; cases z
    refine ⟨bm, ob, b1, b2, fun z => ?_, fun z => ?_, hidT_get b3 fb, b4, b5, b6⟩
    · obtain ⟨o, es, ep, e, d, _⟩ := hns
      rw [z, e] at b3
      cases b3
      rw [d] at b6
      cases b6
    · rw [z, hT p hp] at b3
      cases b3
      cases b6
  have e0 : Env0 P w K mg (hidT s₁.heap H) callerA [] s₁ H := ⟨rfl, M, fun b o e => of_hidT e, Nat.le_of_eq (hidT_size _ _), trivial, fun b hb => absurd (show b ∈ ([] : List Addr) from hb) (by simp), hok, .of_eq hg⟩
  obtain ⟨fd, mf, FP, hbind, p1, hmf⟩ := F _ KB (nsK hns) TB
  have rs : Rep (⟨K, mg, none, T⟩ : Gx) coN H (.ref a) (.scr ns) := by
    refine .scr ?_
    cases hk : K.lookup a with
    | none =>
      have : zz = true := by show (K.lookup a).isNone = true; rw [hk]; rfl
      exact .inl ⟨oa, by show hp0 a zz oa _ _ a = _; rw [this]; exact hp0_a aT⟩
    | some o =>
      refine .inr fun H' => .inr ⟨o, vs.toArray, 0, hk, ?_⟩
      have e := KX a o hk
      rw [ha] at e
      cases e
      exact ⟨rfl, rfl, rfl, by rw [List.size_toArray, hi.length]; exact hl, by simpa using rv⟩
  have st : StR (⟨K, mg, none, T⟩ : Gx) H none := ⟨trivial, fun p hp => TabS.nil (hp0_t (hTT p hp))⟩
  have run := FP.run callerA [] s₁ H ⟨[.ref a], []⟩ [.ref a] [.ref a] [.scr ns] none (fun v _ => v = .bl true) (fun _ _ _ => False) hr rfl e0 (hbind s₁ (.ref a) KX) (.cons rfl .nil) (.cons rs .nil) st (by
    rw [hmf]
    intro H' v _ _ r
    cases r
    rfl)
  refine codeAny_mono run fun r s' h => ?_
  cases r with
  | error e =>
    obtain ⟨_, _, _, _, _, _, _, _, _, _, _, _, z⟩ := h
    exact z.elim
  | ok fl =>
    cases fl with
    | next => exact False.elim h
    | brk => exact False.elim h
    | cont => exact False.elim h
    | ret u =>
      obtain ⟨v, H', os, bare, un, hok', r', q⟩ := h
      subst q
      obtain rfl : u = Value.bool true := r'
      have key : ∀ b o, b ∉ cs.map (·.2) → s₁.heap.get? b = some o → s'.heap.get? b = some o := fun b o nb e => by
        rcases hp0_cases (a := a) (z := zz) (o := oa) (xs := ns.map V.int) (ts := cs.map (·.2)) b with ⟨h1, _⟩ | ⟨_, _, _, h4⟩ | ⟨_, _, h3⟩
        · exact absurd h1 nb
        · obtain ⟨e1, _⟩ := hok b _ h4
          obtain ⟨e2, _⟩ := hok' b _ (un.frzs b _ _ h4)
          rw [e] at e1
          cases e1
          exact e2
        · exact un.keep b o e h3 (fun z => nomatch (show b ∈ ([] : List Addr) from z)) (by simp)
      have grown : ∀ b, b ∈ cs.map (·.2) → ∃ more : Array Value, s'.heap.get? b = some { cls := .none, data := .fields more } := fun b hb => by
        obtain ⟨more, z⟩ := un.tbls b #[] (hp0_t hb)
        exact ⟨_, hok' b _ z⟩
      refine ⟨rfl, ⟨fun b o e => ?_, fun b o e => ?_⟩, os, bare⟩
      · by_cases hb : b ∈ cs.map (·.2)
        · obtain ⟨t1, t2, p, hp, ep⟩ := tAt b hb
          obtain ⟨more, hm⟩ := grown b hb
          rw [t1] at e
          cases e
          subst ep
          exact .inr (.inl ⟨((C p hp).tab (hT p hp)).isCodeTable, rfl, #[], more, rfl, by rw [Array.empty_append]; exact hm⟩)
        · exact .inl (key b o hb e)
      · by_cases hb : b ∈ cs.map (·.2)
        · obtain ⟨more, hm⟩ := grown b hb
          exact ⟨_, hm⟩
        · exact ⟨o, key b o hb e⟩
end VL

namespace VL
open PySem PySem.Spec PyProof.Rows L2 LamX
/-! ### the rules, with what holds in every frame bundled -/
structure Bt (mg : Str → Option Value) : Prop where
  len : mg "len" = none
  abs : mg "abs" = none
  min : mg "min" = none
  max : mg "max" = none
  int : mg "int" = none
  tuple : mg "tuple" = none
  list : mg "list" = none
  range : mg "range" = none
  zip : mg "zip" = none
  all : mg "all" = none
  any : mg "any" = none
  sum : mg "sum" = none
  repr : mg "repr" = none
  isi : mg "isinstance" = none
  str : mg "str" = none
  bool : mg "bool" = none
structure Fx (X : Cx) (J : Jc) (k : Nat) : Prop where
  F : Fr0 X J X.base k
  bt : Bt X.mg
  nd : X.N.Nodup
structure Fs (X : Cx) (J : Jc) (k : Nat) : Prop where
  x : Fx X J k
  own : PassesOwn (model X.prog X.w) X.A X.env X.xe
def IntG (g : Gx) (x : Str) (i : Int) : Prop := ∃ u, g.mg x = some u ∧ RelV (.int i) u
def StrG (g : Gx) (x : Str) (i : Str) : Prop := ∃ u, g.mg x = some u ∧ RelV (.str i) u
/-- a def that stands in the module -/
structure DefAt (g : Gx) (x : Str) (st : Stmt) : Prop where
  ex : ∃ (f : Addr) (fd : FuncData), g.mg x = some (.ref f) ∧ L2.Fun g.K x x st f fd
section
variable {P : Program} {w : World} {base : Heap} {g : Gx} {k : Nat} {x : Str} {st : Stmt} {N ps : List Str} {m : MS}
/-- how a def's arguments bind -/
abbrev HB (x : Str) (st : Stmt) (ps : List Str) : Prop := ∀ (kV doc pm : Value) (an : Option Addr) (cdv ct : Value) (us : List Value), us.length = ps.length → bindArgs (PySem.W.fnOf x x (L2.defArgs st) (L2.defBody st) (L2.defScope st) .none kV doc pm an cdv ct) ⟨us, []⟩ = pure (ps.zip us)
theorem fx_of {A : Around} {outer : List Env} {s : Shared} {H : Hp} {E : XK} {cdv : Value} {f : Addr} {qual : Str} (bt : Bt g.mg) (S : FnScope N ps (L2.defScope st)) (F : Fr0 (cxOf (L2.CX P w) P w g.K g.mg base N qual (L2.defScope st) f cdv A outer s H E) (jP g fun cls d _ H' => E cls d H') base k) :
    Fs (cxOf (L2.CX P w) P w g.K g.mg base N qual (L2.defScope st) f cdv A outer s H E) (jP g fun cls d _ H' => E cls d H') k := ⟨⟨F, bt, S.nd⟩, passes_of rfl⟩
theorem cal_of (D : DefAt g x st) (S : FnScope N ps (L2.defScope st)) (hb : HB x st ps) (bt : Bt g.mg)
    (hbody : ∀ (f : Addr) (cdv : Value) (A : Around) (outer : List Env) (s : Shared) (H : Hp) (E : XK), Fs (cxOf (L2.CX P w) P w g.K g.mg base N x (L2.defScope st) f cdv A outer s H E) (jP g fun cls d _ H' => E cls d H') k →
      VSs (cxOf (L2.CX P w) P w g.K g.mg base N x (L2.defScope st) f cdv A outer s H E) (jP g fun cls d _ H' => E cls d H') (L2.defBody st) m) : Cal P w base g (k + 1) x ps (callF N.length ps.length m) := by
  obtain ⟨f, fd, hm, F⟩ := D.ex
  exact ⟨f, fd, hm, F.kp, F.binds hb, fnp_of F S fun cdv A outer s H E F0 => hbody f cdv A outer s H E (fx_of bt S F0)⟩
theorem cal_bad (D : DefAt g x st) (hb : HB x st ps) : Cal P w base g k x ps (fun _ _ => .bad) := by
  obtain ⟨f, fd, hm, F⟩ := D.ex
  exact ⟨f, fd, hm, F.kp, F.binds hb, FnP.bad⟩
theorem caln_of (D : DefAt g x st) (S : FnScope N ps (L2.defScope st)) (hb : HB x st ps) (bt : Bt g.mg)
    (hbody : ∀ (f : Addr) (cdv : Value) (A : Around) (outer : List Env) (s : Shared) (H : Hp) (E : XK), Fs (cxOf (L2.CX P w) P w g.K g.mg base N x (L2.defScope st) f cdv A outer s H E) (jP g fun cls d _ H' => E cls d H') k →
      VSs (cxOf (L2.CX P w) P w g.K g.mg base N x (L2.defScope st) f cdv A outer s H E) (jP g fun cls d _ H' => E cls d H') (L2.defBody st) m) : CalN P w base g (k + 1) x ps (callN N.length ps.length m) := by
  obtain ⟨f, fd, hm, F⟩ := D.ex
  exact ⟨f, fd, hm, F.kp, F.binds hb, fnn_of F S fun cdv A outer s H E F0 => hbody f cdv A outer s H E (fx_of bt S F0)⟩
end
section
variable {X : Cx} {J : Jc} {k : Nat} {e a b c : Expr} {es rest : List Expr} {m ma mb mc : ME} {na nb : MB} {ms : MA} {pos p p2 : Pos}
theorem Fx.K (F : Fx X J k) : J.g.K = X.K := F.F.K
theorem Fx.u64 (F : Fx X J k) : X.A.units + 64 < cLine := by have := F.F.room.un; omega
theorem Fx.u65 (F : Fx X J k) : X.A.units + 65 < cLine := by have := F.F.room.un; omega
theorem Fx.u70 (F : Fx X J k) : X.A.units + 70 < cLine := by have := F.F.room.un; omega
theorem Fx.blk (F : Fx X J k) {s : Shared} {H : Hp} {scope : Scope} {ce : Env} {fp : List Addr} : Fx (X.blk s H scope ce fp) J.blk k :=
  ⟨F.F.blk, F.bt, F.nd⟩
theorem Fx.at_ {a : Addr} (F : Fx X J k) : Fx X (J.at_ a) k := ⟨⟨F.F.K, F.F.mg, F.F.bs, F.F.tk, F.F.room, F.F.gd, F.F.calm⟩, F.bt, F.nd⟩
theorem Fs.at_ {a : Addr} (F : Fs X J k) : Fs X (J.at_ a) k := ⟨F.x.at_, F.own⟩
/-! names -/
theorem x_gint {x : Str} {i : Int} {g : Gx} (F : Fx X J k) (h : IntG g x i) (eg : J.g = g := by rfl) (hg : Gl X x := by rfl) (hd : (x == ("__debug__" : Str)) = false := by decide) : VE X J (.Name x pos) (mC (.int i)) := by
  subst eg
  obtain ⟨u, h1, h2⟩ := h
  exact ve_glob hg (F.F.mg ▸ h1) h2 (fun _ _ => .int i) hd
theorem x_gstr {x : Str} {i : Str} {g : Gx} (F : Fx X J k) (h : StrG g x i) (eg : J.g = g := by rfl) (hg : Gl X x := by rfl) (hd : (x == ("__debug__" : Str)) = false := by decide) : VE X J (.Name x pos) (mC (.str i)) := by
  subst eg
  obtain ⟨u, h1, h2⟩ := h
  exact ve_glob hg (F.F.mg ▸ h1) h2 (fun _ _ => .str i) hd
/-! operations -/
theorem x_add (F : Fx X J k) (ha : VE X J a ma) (hb : VE X J b mb) : VE X J (.BinOp a .Add b pos) (m2 D.add ma mb) := ve_add F.K ha hb
theorem x_mul (F : Fx X J k) (ha : VE X J a ma) (hb : VE X J b mb) : VE X J (.BinOp a .Mult b pos) (m2 D.mul ma mb) := ve_mul F.K ha hb
abbrev fLt (i j : Int) : Bool := decide (i < j)
abbrev fLe (i j : Int) : Bool := decide (i ≤ j)
abbrev fGt (i j : Int) : Bool := decide (j < i)
abbrev fGe (i j : Int) : Bool := decide (j ≤ i)
/-- a comparison that is known: the operator, its rule -/
structure Op (X : Cx) (J : Jc) (op : CmpOp) (f : D → D → Option D) : Prop where
  ex : ∃ r, OpR X (compareOp op) r ∧ Op2 J f r
theorem o_lt : Op X J .Lt (D.cmp fLt) := ⟨_, op_lt, op2_cmp⟩
theorem o_le : Op X J .LtE (D.cmp fLe) := ⟨_, op_le, op2_cmp⟩
theorem o_gt : Op X J .Gt (D.cmp fGt) := ⟨_, op_gt, op2_cmp⟩
theorem o_ge : Op X J .GtE (D.cmp fGe) := ⟨_, op_ge, op2_cmp⟩
theorem o_eq (F : Fx X J k) : Op X J .Eq D.eq := ⟨_, op_eq.or (op_eqD F.u64), op2_eq F.K⟩
theorem o_ne (F : Fx X J k) : Op X J .NotEq D.ne := ⟨_, op_ne.or (op_neD F.u64), op2_ne F.K⟩
theorem o_in (F : Fx X J k) : Op X J .In D.isin := ⟨_, op_in3 F.u65, op2_in F.K⟩
theorem o_ni (F : Fx X J k) : Op X J .NotIn (fun x y => D.neg (D.isin x y)) := ⟨_, op_notIn3 F.u65, op2_notIn F.K⟩
theorem x_cmp {op : CmpOp} {f : D → D → Option D} (o : Op X J op f) (ha : VE X J a ma) (hb : VE X J b mb) (hm : behindInMarks op b = false := by first | rfl | exact nomark _) : VE X J (.Compare a [op] [b] pos) (m2 f ma mb) := by
  obtain ⟨r, h1, h2⟩ := o.ex
  exact ve_cmp h1 h2 ha hb hm
theorem t_cmp {op : CmpOp} {f : D → D → Option D} (o : Op X J op f) (ha : VE X J a ma) (hb : VE X J b mb) (hm : behindInMarks op b = false := by first | rfl | exact nomark _) : VT X J (.Compare a [op] [b] pos) (toB (m2 f ma mb)) := by
  obtain ⟨r, h1, h2⟩ := o.ex
  exact vt_cmp h1 h2 ha hb hm
theorem x_chain {op op' : CmpOp} {f f' : D → D → Option D} (o : Op X J op f) (o' : Op X J op' f') (ha : VE X J a ma) (hb : VE X J b mb) (hc : VE X J c mc) (hm : lastMarks [op, op'] [b, c] = false := by with_unfolding_all rfl) : VE X J (.Compare a [op, op'] [b, c] pos) (mChain f f' ma mb mc) := by
  obtain ⟨r, h1, h2⟩ := o.ex
  obtain ⟨r', h1', h2'⟩ := o'.ex
  exact ve_chain h1 h2 h1' h2' ha hb hc hm
theorem t_chain {op op' : CmpOp} {f f' : D → D → Option D} (o : Op X J op f) (o' : Op X J op' f') (ha : VE X J a ma) (hb : VE X J b mb) (hc : VE X J c mc) (hm : lastMarks [op, op'] [b, c] = false := by with_unfolding_all rfl) : VT X J (.Compare a [op, op'] [b, c] pos) (toB (mChain f f' ma mb mc)) := by
  obtain ⟨r, h1, h2⟩ := o.ex
  obtain ⟨r', h1', h2'⟩ := o'.ex
  exact vt_chain h1 h2 h1' h2' ha hb hc hm
theorem x_ix (F : Fx X J k) (ha : VE X J a ma) (hb : VE X J b mb) (hs : PlainIx b := by intro _ _; rfl) : VE X J (.Subscript a b pos) (m2 D.ix ma mb) := ve_ix F.K ha hb hs
theorem x_slice {lo hi : Option Expr} {ml mh : MO} (F : Fx X J k) (he : VE X J e m) (hl : VO X J lo ml) (hu : VO X J hi mh) : VE X J (.Subscript e (.Slice lo hi none p2) pos) (mSl m ml mh) := ve_slice F.K he hl hu
theorem x_rev {j : Nat} {p1 p2 p3 : Pos} (F : Fx X J k) (he : VE X J e m) : VE X J (.Subscript e (.Slice none none (some (.UnaryOp .USub (.Constant (.int 1) j p1) p2)) p3) pos) (m1 D.rev m) := ve_rev F.K he
theorem x_isi {x : Str} {T : String} (F : Fx X J k) (hmT : X.mg x = none) (hvT : bootBuiltins x = some (.type T)) (ha : VE X J e m) (hg : Gl X "isinstance" := by rfl) (hgT : Gl X x := by rfl) (hn : x ≠ "__name__" := by decide)
    (hdb : (x == ("__debug__" : Str)) = false := by decide) (he : starEach [e, .Name x p2] X.env = (false, eval e X.env) :: starEach [.Name x p2] X.env := by rfl) : VE X J (.Call (.Name "isinstance" p) [e, .Name x p2] [] pos) (mIsi T m) := ve_isi F.K ha F.bt.isi hmT hvT hg hgT hn hdb he
theorem va_seq (F : Fx X J k) (h : VE X J e m) (hs : VA X J es ms) (hst : starEach (.Starred e p :: es) X.env = (true, eval e X.env) :: starEach es X.env := by rfl) : VA X J (.Starred e p :: es) (mStar m ms) := va_star F.K h hs hst
/-! built-in calls -/
theorem x_len (F : Fx X J k) (ha : VA X J (e :: es) ms) (hg : Gl X "len" := by rfl) (he : starEach (e :: es) X.env = (false, eval e X.env) :: starEach es X.env := by rfl) (hpl : (backTo pos (starEach es X.env)).any (·.1) = false := by rfl) : VE X J (.Call (.Name "len" p) (e :: es) [] pos) (mN dLen ms) :=
  ve_callB (call_len) (on_len F.K) F.bt.len (by decide +kernel) ha hg (by decide) (by decide) he hpl
theorem x_abs (F : Fx X J k) (ha : VA X J (e :: es) ms) (hg : Gl X "abs" := by rfl) (he : starEach (e :: es) X.env = (false, eval e X.env) :: starEach es X.env := by rfl) (hpl : (backTo pos (starEach es X.env)).any (·.1) = false := by rfl) : VE X J (.Call (.Name "abs" p) (e :: es) [] pos) (mN dAbs ms) :=
  ve_callB (call_abs) (on_abs) F.bt.abs (by decide +kernel) ha hg (by decide) (by decide) he hpl
theorem x_max2 (F : Fx X J k) (ha : VA X J (e :: es) ms) (hg : Gl X "max" := by rfl) (he : starEach (e :: es) X.env = (false, eval e X.env) :: starEach es X.env := by rfl) (hpl : (backTo pos (starEach es X.env)).any (·.1) = false := by rfl) : VE X J (.Call (.Name "max" p) (e :: es) [] pos) (mN dMax2 ms) :=
  ve_callB (call_max2 F.F.calm) (on_max2) F.bt.max (by decide +kernel) ha hg (by decide) (by decide) he hpl
theorem x_min2 (F : Fx X J k) (ha : VA X J (e :: es) ms) (hg : Gl X "min" := by rfl) (he : starEach (e :: es) X.env = (false, eval e X.env) :: starEach es X.env := by rfl) (hpl : (backTo pos (starEach es X.env)).any (·.1) = false := by rfl) : VE X J (.Call (.Name "min" p) (e :: es) [] pos) (mN dMin2 ms) :=
  ve_callB (call_min2 F.F.calm) (on_min2) F.bt.min (by decide +kernel) ha hg (by decide) (by decide) he hpl
theorem x_max1 (F : Fx X J k) (ha : VA X J (e :: es) ms) (hg : Gl X "max" := by rfl) (he : starEach (e :: es) X.env = (false, eval e X.env) :: starEach es X.env := by rfl) (hpl : (backTo pos (starEach es X.env)).any (·.1) = false := by rfl) : VE X J (.Call (.Name "max" p) (e :: es) [] pos) (mN dMax1 ms) :=
  ve_callB (cr_max F.F.calm) (on_max F.K) F.bt.max (by decide +kernel) ha hg (by decide) (by decide) he hpl
theorem x_min1 (F : Fx X J k) (ha : VA X J (e :: es) ms) (hg : Gl X "min" := by rfl) (he : starEach (e :: es) X.env = (false, eval e X.env) :: starEach es X.env := by rfl) (hpl : (backTo pos (starEach es X.env)).any (·.1) = false := by rfl) : VE X J (.Call (.Name "min" p) (e :: es) [] pos) (mN dMin1 ms) :=
  ve_callB (cr_min F.F.calm) (on_min F.K) F.bt.min (by decide +kernel) ha hg (by decide) (by decide) he hpl
theorem x_sum (F : Fx X J k) (ha : VA X J (e :: es) ms) (hg : Gl X "sum" := by rfl) (he : starEach (e :: es) X.env = (false, eval e X.env) :: starEach es X.env := by rfl) (hpl : (backTo pos (starEach es X.env)).any (·.1) = false := by rfl) : VE X J (.Call (.Name "sum" p) (e :: es) [] pos) (mN dSum ms) :=
  ve_callB (cr_sum F.F.calm) (on_sum F.K) F.bt.sum (by decide +kernel) ha hg (by decide) (by decide) he hpl
theorem x_all (F : Fx X J k) (ha : VA X J (e :: es) ms) (hg : Gl X "all" := by rfl) (he : starEach (e :: es) X.env = (false, eval e X.env) :: starEach es X.env := by rfl) (hpl : (backTo pos (starEach es X.env)).any (·.1) = false := by rfl) : VE X J (.Call (.Name "all" p) (e :: es) [] pos) (mN dAll ms) :=
  ve_callB (cr_all F.F.calm) (on_all F.K) F.bt.all (by decide +kernel) ha hg (by decide) (by decide) he hpl
theorem x_any (F : Fx X J k) (ha : VA X J (e :: es) ms) (hg : Gl X "any" := by rfl) (he : starEach (e :: es) X.env = (false, eval e X.env) :: starEach es X.env := by rfl) (hpl : (backTo pos (starEach es X.env)).any (·.1) = false := by rfl) : VE X J (.Call (.Name "any" p) (e :: es) [] pos) (mN dAny ms) :=
  ve_callB (cr_any F.F.calm) (on_any F.K) F.bt.any (by decide +kernel) ha hg (by decide) (by decide) he hpl
theorem x_repr (F : Fx X J k) (ha : VA X J (e :: es) ms) (hg : Gl X "repr" := by rfl) (he : starEach (e :: es) X.env = (false, eval e X.env) :: starEach es X.env := by rfl) (hpl : (backTo pos (starEach es X.env)).any (·.1) = false := by rfl) : VE X J (.Call (.Name "repr" p) (e :: es) [] pos) (mN dRepr ms) :=
  ve_callB (call_reprD F.u70 F.F.gd) (on_repr F.K) F.bt.repr (by decide +kernel) ha hg (by decide) (by decide) he hpl
theorem x_int (F : Fx X J k) (ha : VA X J (e :: es) ms) (hg : Gl X "int" := by rfl) (he : starEach (e :: es) X.env = (false, eval e X.env) :: starEach es X.env := by rfl) (hpl : (backTo pos (starEach es X.env)).any (·.1) = false := by rfl) : VE X J (.Call (.Name "int" p) (e :: es) [] pos) (mN dInt ms) :=
  ve_callTy (call_int1) (on_int) F.bt.int (by decide +kernel) ha hg (by decide) (by decide) he hpl
theorem x_tuple (F : Fx X J k) (ha : VA X J (e :: es) ms) (hg : Gl X "tuple" := by rfl) (he : starEach (e :: es) X.env = (false, eval e X.env) :: starEach es X.env := by rfl) (hpl : (backTo pos (starEach es X.env)).any (·.1) = false := by rfl) : VE X J (.Call (.Name "tuple" p) (e :: es) [] pos) (mN dTuple ms) :=
  ve_callTy (call_tuple_of) (on_tuple F.K) F.bt.tuple (by decide +kernel) ha hg (by decide) (by decide) he hpl
theorem x_str (F : Fx X J k) (ha : VA X J (e :: es) ms) (hg : Gl X "str" := by rfl) (he : starEach (e :: es) X.env = (false, eval e X.env) :: starEach es X.env := by rfl) (hpl : (backTo pos (starEach es X.env)).any (·.1) = false := by rfl) : VE X J (.Call (.Name "str" p) (e :: es) [] pos) (mN dStr ms) :=
  ve_callTy (call_strD) (on_str) F.bt.str (by decide +kernel) ha hg (by decide) (by decide) he hpl
theorem n_list (F : Fx X J k) (ha : VA X J (e :: es) ms) (hg : Gl X "list" := by rfl) (he : starEach (e :: es) X.env = (false, eval e X.env) :: starEach es X.env := by rfl) (hpl : (backTo pos (starEach es X.env)).any (·.1) = false := by rfl) : VN X J (.Call (.Name "list" p) (e :: es) [] pos) (mNL dList ms) :=
  vn_callTy call_list_of (on_list F.K) F.bt.list (by decide +kernel) ha hg (by decide) (by decide) he hpl
/-! list(range(..)), tuple(range(..)) -/
end
end VL

namespace VL
open PySem PySem.Spec PyProof.Rows L2 LamX
section
variable {X : Cx} {J : Jc} {k : Nat} {e : Expr} {es : List Expr} {m : ME} {ms : MA} {pos p p2 : Pos}
theorem cr_range1 : CallR X (.type "range") (fun vs H Q => ∃ j, vs = [V.int j] ∧ ∀ p, H p = none → Q (.ref p) (upd H p (.rng 0 j))) := by
  intro pins s σ H vs us Q I r h
  obtain ⟨j, rfl, q⟩ := h
  obtain ⟨u1, rfl, t, rfl⟩ := vals1 r
  refine call_range_1 ⟨.ref s.heap.objs.size, upd H s.heap.objs.size (.rng 0 j), I.laid (t' := s.toks + 2) (fun b o e => Heap.get?_push_of_some _ e) (Nat.le_refl _) ?_, rfl, q _ (I.hok.fresh (Nat.le_refl _))⟩
  exact ⟨s.toks, t, s.toks + 1, Heap.get?_push_size _ rfl⟩
def dRange : List D → Option D
  | [.int j] => some (.rng 0 j)
  | [.int i, .int j] => some (.rng i j)
  | _ => none
theorem on_range : OpN J dRange (fun xs H Q => (∃ j, xs = [V.int j] ∧ ∀ p, H p = none → Q (.ref p) (upd H p (.rng 0 j))) ∨ (∃ i j, xs = [V.int i, V.int j] ∧ ∀ p, H p = none → Q (.ref p) (upd H p (.rng i j)))) := fun σ H Q xs ds d r e q => by
  unfold dRange at e
  split at e
  · cases e
    cases r with
    | cons r1 r2 =>
      cases r2; cases r1
      exact .inl ⟨_, rfl, fun p hp => q _ _ (Grow.upd hp) (.rng upd_same)⟩
  · cases e
    cases r with
    | cons r1 r2 =>
      cases r2 with
      | cons r2 r3 =>
        cases r3; cases r2; cases r1
        exact .inr ⟨_, _, rfl, fun p hp => q _ _ (Grow.upd hp) (.rng upd_same)⟩
  · cases e
theorem x_range (F : Fx X J k) (ha : VA X J (e :: es) ms) (hg : Gl X "range" := by rfl) (he : starEach (e :: es) X.env = (false, eval e X.env) :: starEach es X.env := by rfl) (hpl : (backTo pos (starEach es X.env)).any (·.1) = false := by rfl) : VE X J (.Call (.Name "range" p) (e :: es) [] pos) (mN dRange ms) :=
  ve_callTy (cr_range1.or cr_range2) on_range F.bt.range (by decide +kernel) ha hg (by decide) (by decide) he hpl
/-! list(r), tuple(r) of a range -/
theorem call_listRng (hc : X.calm = true) : CallR X (.type "list") (fun xs H Q => ∃ a lo hi, xs = [.ref a] ∧ H a = some (.rng lo hi) ∧ RgOk lo hi ∧ ∀ q, H q = none → Q (.ref q) (upd H q (.lst (rgV lo hi)))) := by
  intro pins s σ H vs us Q I r h
  obtain ⟨a, lo, hi, rfl, ha, ⟨b1, b2, b3, b4, b5⟩, q⟩ := h
  obtain ⟨u1, rfl, r1⟩ := vals1 r
  cases r1
  obtain ⟨t, u, v, ho⟩ := I.hok a _ ha
  refine call_list_range (n := (hi - lo).toNat) (I.ok.hd hc) (show IsRange s.heap a lo hi 1 t u v from ho) (small_one b1 b2 b3 b4) (rangeSize_nat lo hi) b5 fun h' tk acc c' hk e' hi' => ?_
  refine ⟨.ref s.heap.objs.size, upd H s.heap.objs.size (.lst (rgV lo hi)), I.laid hk (Nat.le_refl _) (show ObjOk X.prog X.w _ _ _ (.lst (rgV lo hi)) from ⟨?_, acc.toList, c', vals_rg hi', ?_⟩), rfl, q _ (I.hok.fresh (Nat.le_refl _))⟩
  · rw [rgV_length, sizeLine_eq]; omega
  · rw [Array.toArray_toList]; exact e'
theorem call_tupRng (hc : X.calm = true) : CallR X (.type "tuple") (fun xs H Q => ∃ a lo hi, xs = [.ref a] ∧ H a = some (.rng lo hi) ∧ RgOk lo hi ∧ ∀ q, H q = none → Q (.ref q) (upd H q (.tup (rgV lo hi)))) := by
  intro pins s σ H vs us Q I r h
  obtain ⟨a, lo, hi, rfl, ha, ⟨b1, b2, b3, b4, b5⟩, q⟩ := h
  obtain ⟨u1, rfl, r1⟩ := vals1 r
  cases r1
  obtain ⟨t, u, v, ho⟩ := I.hok a _ ha
  refine call_tuple_range (n := (hi - lo).toNat) (I.ok.hd hc) (show IsRange s.heap a lo hi 1 t u v from ho) (small_one b1 b2 b3 b4) (rangeSize_nat lo hi) b5 fun h' tk acc hk hi' => ?_
  have I2 : Inv X pins σ H { s with heap := h', toks := tk } := I.kept (t' := tk) hk
  exact ⟨.ref h'.objs.size, upd H h'.objs.size (.tup (rgV lo hi)), I2.laid (t' := tk) (fun c o e => Heap.get?_push_of_some _ e) (Nat.le_refl _) (show ObjOk X.prog X.w _ _ _ (.tup (rgV lo hi)) from ⟨by rw [rgV_length, sizeLine_eq]; omega, acc.toList, vals_rg hi', IsTup.new _ _⟩), rfl, q _ (I2.hok.fresh (Nat.le_refl _))⟩
theorem rg_rep (g : Gx) (co : CO) (H : Hp) (lo hi : Int) : RepL g co H (rgV lo hi) (irange lo hi) := by
  unfold rgV irange
  generalize List.range (hi - lo).toNat = l
  induction l with
  | nil => exact .nil
  | cons x l ih => exact .cons (.int _) ih
theorem rgOk_of {lo hi : Int} (h : rgOk lo hi = true) : RgOk lo hi := by
  obtain ⟨⟨h1, h2, h3, h4⟩, h5⟩ := rg_ok h
  rw [sizeLine_eq] at h5
  exact ⟨h1, h2, h3, h4, by unfold rgOk at h; simp only [Bool.and_eq_true, decide_eq_true_eq] at h; omega⟩
def dList2 : List D → Option (List D)
  | [.rng lo hi] => if rgOk lo hi then some (irange lo hi) else none
  | ds => dList ds
def dTuple2 : List D → Option D
  | [.rng lo hi] => if rgOk lo hi then some (.tup (irange lo hi)) else none
  | ds => dTuple ds
theorem n_list2 (F : Fx X J k) (ha : VA X J (e :: es) ms) (hg : Gl X "list" := by rfl) (he : starEach (e :: es) X.env = (false, eval e X.env) :: starEach es X.env := by rfl) (hpl : (backTo pos (starEach es X.env)).any (·.1) = false := by rfl) : VN X J (.Call (.Name "list" p) (e :: es) [] pos) (mNL dList2 ms) := by
  refine vn_callTy (call_list_of.or (call_listRng F.F.calm)) (fun σ H Q xs ds ys r e q => ?_) F.bt.list (by decide +kernel) ha hg (by decide) (by decide) he hpl
  unfold dList2 at e
  split at e
  · split at e
    · rename_i hc
      cases e
      cases r with
      | cons r1 r2 =>
        cases r2
        cases r1 with
        | rng h => exact .inr ⟨_, _, _, rfl, h, rgOk_of hc, fun l hl => q H l _ (fun _ _ k => k) hl (rg_rep _ _ _ _ _)⟩
    · cases e
  · exact .inl (on_list F.K σ H Q xs ds ys r e q)
theorem x_tuple2 (F : Fx X J k) (ha : VA X J (e :: es) ms) (hg : Gl X "tuple" := by rfl) (he : starEach (e :: es) X.env = (false, eval e X.env) :: starEach es X.env := by rfl) (hpl : (backTo pos (starEach es X.env)).any (·.1) = false := by rfl) : VE X J (.Call (.Name "tuple" p) (e :: es) [] pos) (mN dTuple2 ms) := by
  refine ve_callTy (call_tuple_of.or (call_tupRng F.F.calm)) (fun σ H Q xs ds d r e q => ?_) F.bt.tuple (by decide +kernel) ha hg (by decide) (by decide) he hpl
  unfold dTuple2 at e
  split at e
  · split at e
    · rename_i hc
      cases e
      cases r with
      | cons r1 r2 =>
        cases r2
        cases r1 with
        | rng h => exact .inr ⟨_, _, _, rfl, h, rgOk_of hc, fun l hl => tup_of hl (rg_rep _ _ _ _ _) q⟩
    · cases e
  · exact .inl (on_tuple F.K σ H Q xs ds d r e q)
/-! iteration -/
theorem i_seq {tg : Expr} (F : Fx X J k) (h : VE X J e m) : VI X J tg e (mIter m) := vi_seq F.K h
theorem i_zip2 {e2 : Expr} {tpos : Pos} {elts : List Expr} {kk : Nat} (F : Fx X J k) (ha : VA X J [e, e2] ms) (hg : Gl X "zip" := by rfl) (hs : starEach [e, e2] X.env = (false, eval e X.env) :: starEach [e2] X.env := by rfl) (hpl : (backTo pos (starEach [e2] X.env)).any (·.1) = false := by rfl) :
    VI X J (.Tuple elts kk tpos) (.Call (.Name "zip" p) [e, e2] [] pos) (mZip2 ms) := vi_zip2 F.K F.bt.zip ha hg hs hpl
theorem i_zip3 {e2 e3 : Expr} {tpos : Pos} {elts : List Expr} {kk : Nat} (F : Fx X J k) (ha : VA X J [e, e2, e3] ms) (hg : Gl X "zip" := by rfl) (hs : starEach [e, e2, e3] X.env = (false, eval e X.env) :: starEach [e2, e3] X.env := by rfl) (hpl : (backTo pos (starEach [e2, e3] X.env)).any (·.1) = false := by rfl) :
    VI X J (.Tuple elts kk tpos) (.Call (.Name "zip" p) [e, e2, e3] [] pos) (mZip3 ms) := vi_zip3 F.K F.bt.zip ha hg hs hpl
end
end VL

namespace VL
open PySem PySem.Spec PyProof.Rows L2 LamX
def gns : List Nat → TGs
  | [] => gNil
  | i :: is => gCons (gName i) (gns is)
section
variable {X : Cx} {J : Jc} {k : Nat} {e : Expr} {es : List Expr} {m : ME} {ms : MA} {pos p p2 : Pos}
theorem bd_gns0 {vs : List Nat} : ∀ (is : List Nat), (∀ i ∈ is, i ∈ vs) → ∀ {σ : St} {H : Hp} {vw vw1 : Vw} {xs : List V} {ds : List D} {Q : St → Hp → Prop}, VRep J σ H vw → J.RL σ H xs ds → putV is ds vw = some vw1 →
    (∀ σ2, wipe σ2 vs = wipe σ vs → VRep J σ2 H vw1 → Q σ2 H) → gns is xs σ H Q
  | [], _, σ, H, vw, vw1, xs, ds, Q, r, rx, e, q => by
    cases ds with
    | nil => cases rx; cases e; exact ⟨rfl, q σ rfl r⟩
    | cons d ds => cases e
  | i :: is, hi, σ, H, vw, vw1, xs, ds, Q, r, rx, e, q => by
    cases ds with
    | nil => cases e
    | cons d ds =>
      cases rx with
      | cons r1 r2 =>
        refine ⟨_, _, rfl, bd_gns0 is (fun j hj => hi j (List.mem_cons_of_mem _ hj)) (r.set r1) r2 e fun σ2 h2 r' => q σ2 ?_ r'⟩
        rw [h2, wipe_set (hi i List.mem_cons_self)]
theorem putV_len : ∀ {is : List Nat} {ds : List D} {vw vw1 : Vw}, putV is ds vw = some vw1 → ds.length = is.length
  | [], [], _, _, _ => rfl
  | i :: is, d :: ds, _, _, h => congrArg (· + 1) (putV_len (is := is) (ds := ds) h)
  | [], _ :: _, _, _, h => by cases h
  | _ :: _, [], _, _, h => by cases h
/-- a comprehension's target -/
structure TgB (X : Cx) (J : Jc) (scope : Scope) (vs : List Nat) (tg : Expr) (bind : D → Vw → Option Vw) : Prop where
  ex : ∃ g, Bd J X.K vs g bind ∧ ∀ (s : Shared) (H : Hp) (C : Addr) (cl : List (Str × Addr)) (fp : List Addr), PG (X.blk s H scope (compEnvC scope cl C X.env) fp) tg g
theorem tg_name {scope : Scope} {vs : List Nat} {i : Nat} {x : Str} (F : Fx X J k) (hi : X.N[i]? = some x := by rfl) (hx : ∀ (s : Shared) (H : Hp) (C : Addr) (cl : List (Str × Addr)) (fp : List Addr), Loc (X.blk s H scope (compEnvC scope cl C X.env) fp).env.scope x := by intros; first | exact Or.inl rfl | exact Or.inr rfl) (hv : i ∈ vs := by decide)
    (hfn : ∀ (s : Shared) (H : Hp) (C : Addr) (cl : List (Str × Addr)) (fp : List Addr), (X.blk s H scope (compEnvC scope cl C X.env) fp).fn x = true ∨ (X.blk s H scope (compEnvC scope cl C X.env) fp).env.scope.names.lookup x = some .local := by intros; first | exact .inl rfl | exact .inr rfl) : TgB X J scope vs (.Name x p) (bName i) :=
  ⟨gName i, bd_name hv, fun s H C cl fp => pg_name F.nd hi (hx s H C cl fp) (hfn s H C cl fp)⟩
/-- a comprehension's names in a tuple -/
inductive TgN (X : Cx) (scope : Scope) : List Expr → List Nat → Prop where
  | nil : TgN X scope [] []
  | cons {i : Nat} {es : List Expr} {is : List Nat} {x : Str} {p : Pos} : (∀ (s : Shared) (H : Hp) (C : Addr) (cl : List (Str × Addr)) (fp : List Addr), PG (X.blk s H scope (compEnvC scope cl C X.env) fp) (.Name x p) (gName i) ∧
      (assignEach (.Name x p :: es) (X.blk s H scope (compEnvC scope cl C X.env) fp).env).map (·.2) = assign (.Name x p) (X.blk s H scope (compEnvC scope cl C X.env) fp).env :: (assignEach es (X.blk s H scope (compEnvC scope cl C X.env) fp).env).map (·.2)) → TgN X scope es is → TgN X scope (.Name x p :: es) (i :: is)
theorem tgn_cons {scope : Scope} {i : Nat} {is : List Nat} {x : Str} (F : Fx X J k) (t : TgN X scope es is) (hi : X.N[i]? = some x := by rfl) (hx : ∀ (s : Shared) (H : Hp) (C : Addr) (cl : List (Str × Addr)) (fp : List Addr), Loc (X.blk s H scope (compEnvC scope cl C X.env) fp).env.scope x := by intros; first | exact Or.inl rfl | exact Or.inr rfl)
    (hfn : ∀ (s : Shared) (H : Hp) (C : Addr) (cl : List (Str × Addr)) (fp : List Addr), (X.blk s H scope (compEnvC scope cl C X.env) fp).fn x = true ∨ (X.blk s H scope (compEnvC scope cl C X.env) fp).env.scope.names.lookup x = some .local := by intros; first | exact .inl rfl | exact .inr rfl)
    (hs : ∀ (s : Shared) (H : Hp) (C : Addr) (cl : List (Str × Addr)) (fp : List Addr), (assignEach (.Name x p :: es) (X.blk s H scope (compEnvC scope cl C X.env) fp).env).map (·.2) = assign (.Name x p) (X.blk s H scope (compEnvC scope cl C X.env) fp).env :: (assignEach es (X.blk s H scope (compEnvC scope cl C X.env) fp).env).map (·.2) := by intros; rfl) : TgN X scope (.Name x p :: es) (i :: is) :=
  .cons (fun s H C cl fp => ⟨pg_name F.nd hi (hx s H C cl fp) (hfn s H C cl fp), hs s H C cl fp⟩) t
theorem tgn_pgs {scope : Scope} {is : List Nat} (h : TgN X scope es is) (s : Shared) (H : Hp) (C : Addr) (cl : List (Str × Addr)) (fp : List Addr) : PGs (X.blk s H scope (compEnvC scope cl C X.env) fp) es (gns is) := by
  induction h with
  | nil => exact pgs_nil
  | cons h _ ih =>
    obtain ⟨h1, h2⟩ := h s H C cl fp
    exact pgs_cons h1 ih h2
theorem tg_tup {scope : Scope} {vs is : List Nat} {j : Nat} (F : Fx X J k) (t : TgN X scope es is) (hi : ∀ i ∈ is, i ∈ vs := by decide)
    (hn : ∀ (s : Shared) (H : Hp) (C : Addr) (cl : List (Str × Addr)) (fp : List Addr), (assignEach es (X.blk s H scope (compEnvC scope cl C X.env) fp).env).length = is.length := by intros; rfl)
    (hst : ∀ (s : Shared) (H : Hp) (C : Addr) (cl : List (Str × Addr)) (fp : List Addr), (assignEach es (X.blk s H scope (compEnvC scope cl C X.env) fp).env).findIdx? (·.1) = none := by intros; rfl) : TgB X J scope vs (.Tuple es j p) (bTup is) := by
  refine ⟨gTup X.K is.length (gns is), fun σ H vw vw1 x d Q r rx e q => ?_, fun s H C cl fp => pg_tup F.F.calm (tgn_pgs t s H C cl fp) (hn s H C cl fp) (hst s H C cl fp)⟩
  unfold bTup at e
  cases d with
  | tup ds =>
    cases rx with
    | tup sq rl => exact ⟨_, _, rfl, F.K ▸ sq, by rw [rl.length, putV_len e], bd_gns0 is hi r rl e q⟩
  | _ => cases e
theorem n_lc {elt tg iter : Expr} {ifs : List Expr} {scope : Scope} {mi : MA} {mt : MB} {me : ME} {bind : D → Vw → Option Vw} (own : List (Str × Nat)) (F : Fx X J k) (hi : VI X J tg iter mi) (bd : TgB X J scope (own.map (·.2)) tg bind)
    (ht : ∀ (s : Shared) (H : Hp) (C : Addr) (cl : List (Str × Addr)) (fp : List Addr), Fx (X.blk s H scope (compEnvC scope cl C X.env) fp) J.blk k → PTs (X.blk s H scope (compEnvC scope cl C X.env) fp) ifs (tB J.blk mt))
    (he : ∀ (s : Shared) (H : Hp) (C : Addr) (cl : List (Str × Addr)) (fp : List Addr), Fx (X.blk s H scope (compEnvC scope cl C X.env) fp) J.blk k → VE (X.blk s H scope (compEnvC scope cl C X.env) fp) J.blk elt me) (ok : blkC X.N X.env.scope scope own = true := by kernel_rfl) (hs : ∀ x, foldedSetIterable iter X.env x = pure x := by intro _; rfl) :
    VN X J (.ListComp elt [⟨tg, iter, ifs, 0⟩] scope pos) (mLc (own.map (·.2)) bind mi mt me) := by
  obtain ⟨g, b1, b2⟩ := bd.ex
  exact vn_lc F.F.calm F.nd hi (blkOk_by ok) b1 b2 (fun s H C cl fp => ht s H C cl fp F.blk) (fun s H C cl fp => he s H C cl fp F.blk) hs
theorem pts_none : PTs X [] (tB J bTrue) := pts_tB
end
end VL

namespace VL
open PySem PySem.Spec PyProof.Rows L2 LamX
section
variable {X : Cx} {J : Jc} {k : Nat} {e : Expr} {es : List Expr} {m : ME} {ms : MA} {pos p p2 : Pos}
/-- x = [comprehension], the slot first -/
theorem s_newLc {i : Nat} {y : Str} {py : Pos} {elt tg iter : Expr} {ifs : List Expr} {scope : Scope} {spos : Pos} {mi : MA} {mt : MB} {me : ME} {bind : D → Vw → Option Vw} (own : List (Str × Nat)) (F : Fx X J k) (hi : VI X J tg iter mi) (bd : TgB X J scope (own.map (·.2)) tg bind)
    (ht : ∀ (s : Shared) (H : Hp) (C : Addr) (cl : List (Str × Addr)) (fp : List Addr), Fx (X.blk s H scope (compEnvC scope cl C X.env) fp) J.blk k → PTs (X.blk s H scope (compEnvC scope cl C X.env) fp) ifs (tB J.blk mt))
    (he : ∀ (s : Shared) (H : Hp) (C : Addr) (cl : List (Str × Addr)) (fp : List Addr), Fx (X.blk s H scope (compEnvC scope cl C X.env) fp) J.blk k → VE (X.blk s H scope (compEnvC scope cl C X.env) fp) J.blk elt me) (ok : blkC X.N X.env.scope scope own = true := by kernel_rfl)
    (hsw : swapsWith (.ListComp elt [⟨tg, iter, ifs, 0⟩] scope pos) (some (.Name y py)) spos.line X.env = pure true := by exact L2.sw_true rfl rfl rfl rfl)
    (hy : X.N[i]? = some y := by rfl) (hyl : X.env.scope.names.lookup y = some .local := by rfl) (hs : ∀ x, foldedSetIterable iter X.env x = pure x := by intro _; rfl) :
    VS X J (.Assign [.Name y py] (.ListComp elt [⟨tg, iter, ifs, 0⟩] scope pos) spos) (sNew i (mLc (own.map (·.2)) bind mi mt me)) := by
  obtain ⟨g, b1, b2⟩ := bd.ex
  exact vs_newLc F.F.calm F.nd hi (blkOk_by ok) b1 b2 (fun s H C cl fp => ht s H C cl fp F.blk) (fun s H C cl fp => he s H C cl fp F.blk) hsw hy hyl hs
end
end VL

namespace VL
open PySem PySem.Spec PyProof.Rows L2 LamX
/-! ### lambdas without parameters -/
structure Lam where
  qual : Str
  params : Arguments
  body : Expr
  scope : Scope
  caps : List Str
/-- the function object of a lambda, known for good -/
def lamObj (L : Lam) (cl : List (Str × Addr)) (pm : Value) (c' : Addr) (ctv : Value) : Obj := PySem.W.kla_obj "<lambda>" L.qual L.params L.body L.scope cl pm c' ctv
def LamO (o : Obj) (f : Addr) : HO := .frz o (.ext fun h => h.get? f = some o)
theorem lamO_ok {P : Program} {w : World} {H : Hp} {h : Heap} {o : Obj} {f : Addr} (e : h.get? f = some o) : ObjOk P w H h f (LamO o f) :=
  ⟨e, e, ⟨o, e⟩, fun _ _ h1 k => k o h1⟩
/-- f is that lambda, with the cells cl -/
def LamAt (L : Lam) (H : Hp) (f : Addr) (cl : List (Str × Addr)) : Prop := ∃ (pm : Value) (c' : Addr) (ctv : Value), H f = some (LamO (lamObj L cl pm c' ctv) f) ∧ H c' = some (CodeO c' L.qual)
theorem LamAt.ext {L : Lam} {H H' : Hp} {f : Addr} {cl : List (Str × Addr)} (e : Ext1 H H') (h : LamAt L H f cl) : LamAt L H' f cl := by
  obtain ⟨pm, c', ctv, h1, h2⟩ := h
  exact ⟨pm, c', ctv, e _ _ h1 trivial, e _ _ h2 ⟨c', L.qual, rfl⟩⟩
abbrev Lams := Nat → Option Lam
/-- the cells hold ws where the heap is h -/
structure CloK (h : Heap) (H0 : Hp) (fs : List Addr) (cl : List (Str × Addr)) (L : Lam) (ws : List V) : Prop where
  at_ : NdefX.CellsAt cl L.caps (ws.map some) h H0
  nf : ∀ y c, cl.lookup y = some c → c ∉ fs
/-- the closures that a frame gets: entered at h, H0, from the frames fs -/
def coS (lams : Lams) (h : Heap) (H0 : Hp) (fs : List Addr) (H : Hp) : CO := ⟨fun f i ws => ∃ L cl, lams i = some L ∧ LamAt L H f cl ∧ CloK h H0 fs cl L ws, fun _ _ => False⟩
/-- .. and those of its own -/
def coM (lams : Lams) (X : Cx) (H : Hp) : CO := ⟨(coS lams X.s_0.heap X.H_0 X.fs H).co, fun f i => ∃ L, lams i = some L ∧ L.qual = X.env.qual ++ "<lambda>" ∧ LamAt L H f (cloFrom X.env.cells L.scope.names [])⟩
theorem coS_ext {lams : Lams} {h : Heap} {H0 : Hp} {fs : List Addr} {H H' : Hp} (e : Ext1 H H') : (coS lams h H0 fs H).le (coS lams h H0 fs H') :=
  ⟨fun f i ws ⟨L, cl, h1, h2, h3⟩ => ⟨L, cl, h1, h2.ext e, h3⟩, fun _ _ h => h⟩
theorem coM_ext {lams : Lams} {X : Cx} {H H' : Hp} (e : Ext1 H H') : (coM lams X H).le (coM lams X H') :=
  ⟨fun f i ws ⟨L, cl, h1, h2, h3⟩ => ⟨L, cl, h1, h2.ext e, h3⟩, fun f i ⟨L, h1, h2, h3⟩ => ⟨L, h1, h2, h3.ext e⟩⟩
/-- the judgement's part of a frame with closures -/
def jV (g : Gx) (lams : Lams) (X : Cx) (W : WX) : Jc := ⟨g, coM lams X, W, fun _ _ e => coM_ext e⟩
/-! the promise of a lambda's body -/
structure LamP (P : Program) (w : World) (base : Heap) (g : Gx) (k : Nat) (L : Lam) (m : List D → P3 → Res D) : Prop where
  run : ∀ (A : Around) (outer : List Env) (s : Shared) (H : Hp) (f : Addr) (cl : List (Str × Addr)) (ws : List V) (ds : List D) (p : P3) (Q : VK) (E : XK), Room k A → A.guards = some [] → Env0 P w g.K g.mg base A outer s H → HOk P w H s.heap → LamAt L H f cl → NdefX.CellsAt cl L.caps (ws.map some) s.heap H →
    RepL g coN H ws ds → StR g H p → PF g H Q E (m ds p) → codeAny (model P w) A (.call (.ref f) ⟨[], []⟩) (CR (L2.CX P w) outer P w H s Q E) s
def lamF (L : Lam) (cl : List (Str × Addr)) (c' : Addr) : NdefX.NF := ⟨"<lambda>", L.qual, L.params, [], L.scope, cl, c'⟩
abbrev lamX (P : Program) (w : World) (g : Gx) (base : Heap) (L : Lam) (cl : List (Str × Addr)) (c' f : Addr) (A : Around) (outer : List Env) (s : Shared) (H : Hp) (E : XK) : Cx := NdefX.ncx (L2.CX P w) P w g.K g.mg base L.caps (lamF L cl c') f A outer s H E
theorem lam_ok {P : Program} {w : World} {base : Heap} {g : Gx} {k : Nat} {L : Lam} {m : ME} (bt : Bt g.mg) (S : NdefX.NScope L.caps [] L.caps L.scope)
    (hbind : ∀ (q : Str) (cl : List (Str × Addr)) (pm cv ctv : Value), bindArgs (PySem.W.kla_fn "<lambda>" q L.params L.body L.scope cl pm cv ctv) ⟨[], []⟩ = pure [])
    (hbody : ∀ (f c' : Addr) (cl : List (Str × Addr)) (A : Around) (outer : List Env) (s : Shared) (H : Hp) (E : XK), Fx (lamX P w g base L cl c' f A outer s H E) (jP g fun cls d _ H' => E cls d H') k → VE (lamX P w g base L cl c' f A outer s H E) (jP g fun cls d _ H' => E cls d H') L.body m) :
    LamP P w base g (k + 1) L (fun ds p => m (ds.map some) p) := by
  refine ⟨fun A outer s H f cl ws ds p Q E hr gd e0 hok ⟨pm, c', ctv, hf, hc⟩ C rd stp q => ?_⟩
  obtain ⟨of1, _⟩ := hok f _ hf
  obtain ⟨⟨oc, vs, t, hoc, hdc, hvc⟩, _, _⟩ := hok c' _ hc
  refine PySem.W.kla_callFunE hr.depth of1 rfl S.co S.gen rfl ⟨c', oc, vs, t, rfl, hoc, hdc, hvc⟩ ?_
  have lim : s.heap.NoLimit := e0.mod.nolimit.keeps fun b o e => (e0.bs b o e).1
  rw [show bindArgs _ ⟨[], []⟩ = pure [] from hbind L.qual cl pm (.ref c') ctv]
  refine wpAny_pure (wpAny_newFunctionEnv (fun y hy => S.nocell y hy) (fun y hy => absurd hy (by simp)) (fun h₁ hns hsb => ⟨lim.fresh _ hsb, ?_⟩) S.kind)
  show codeAny _ _ (.expr L.body (lamX P w g base L cl c' f A outer s H E).env) _ _
  have kp : ∀ b o, s.heap.get? b = some o → h₁.get? b = some o := fun b o e => hsb.extBut b o (Nat.ne_of_lt (Heap.lt_size e)) (Heap.get?_push_of_some _ e)
  have I : Inv (lamX P w g base L cl c' f A outer s H E) [] (NdefX.startF L.caps [] (ws.map some)) H { s with heap := h₁, toks := s.toks + ([] : List (Str × Value)).length } :=
    NdefX.inv_startN (us := []) S hr.hd e0 rfl .nil C hns kp
  have F0 : Fr0 (lamX P w g base L cl c' f A outer s H E) (jP g fun cls d _ H' => E cls d H') base k := ⟨rfl, rfl, rfl, takes_of rfl rfl rfl rfl, hr.deeper _, gd, rfl⟩
  have hl : (ws.map some).length = L.caps.length := C.len
  have vr : VRep (jP g fun cls d _ H' => E cls d H') (NdefX.startF L.caps [] (ws.map some)) H (ds.map some) := by
    refine ⟨?_, fun i d h => ?_⟩
    · unfold NdefX.startF
      rw [List.length_map] at hl ⊢
      simp only [List.map_nil, List.nil_append, List.length_append, List.length_map, List.length_replicate]
      rw [← rd.length]; omega
    · rw [List.getElem?_map] at h
      cases e : ds[i]? with
      | none => rw [e] at h; cases h
      | some d' =>
        rw [e] at h
        cases h
        obtain ⟨v, h1, h2⟩ := rd.get e
        refine ⟨v, ?_, h2⟩
        unfold NdefX.startF
        have hi := (List.getElem?_eq_some_iff.mp h1).1
        rw [List.map_nil, List.nil_append, List.getElem?_append_left (by rw [List.length_map]; exact hi), List.getElem?_map, h1]
        rfl
  refine PySem.W.kla_codeExpr (wpAny_mono ((hbody f c' cl A outer s H E ⟨F0, bt, S.nd⟩).run [] _ _ H Q I ⟨_, p, vr, stp, ?_⟩) (fun v s' hq => ?_) fun e s' hq => hq)
  · cases e1 : m (ds.map some) p with
    | bad => rw [e1] at q; exact q
    | err y dv p1 => rw [e1] at q; exact fun H' C dd y' e s c z r => q H' C dd y' e s c z r
    | ok d p1 => rw [e1] at q; exact fun H' v e s r => q H' v e s r
  · obtain ⟨w', H', J', rv, q⟩ := hq
    exact ⟨w', H', J'.os, J'.bare, J'.base, J'.hok, rv, q⟩
end VL

namespace VL
open PySem PySem.Spec PyProof.Rows L2 LamX
section
variable {X : Cx}
def tMkLam (T : List (Addr × Str)) (q : Str) (params : Arguments) (body : Expr) (scope : Scope) (cl : List (Str × Addr)) : TE := fun σ H Q => Tabs T H ∧ ∀ (f c' : Addr) (pm ctv : Value) (H1 : Hp), ExtN H H1 → Tabs T H1 →
  H1 f = some (LamO (PySem.W.kla_obj "<lambda>" q params body scope cl pm c' ctv) f) → H1 c' = some (CodeO c' q) → Q (.ref f) H1
theorem tabs_new {T : List (Addr × Str)} {H : Hp} {f : Addr} {o : HO} (t : Tabs T H) (n : H f = none) : Tabs T (upd H f o) := t.ext fun b u e => by rw [upd_ne (ne_of_none e n)]; exact e
/-- a lambda comes to be: its object is tracked -/
theorem pe_mkLam {T : List (Addr × Str)} {c P : Addr} {params : Arguments} {body : Expr} {scope : Scope} {pos : Pos} (TB : TabB X.base X.mg c P) (hcode : X.env.code = .ref c) (hm : (P, X.env.qual ++ "<lambda>") ∈ T) (hu : ∀ p ∈ T, p.1 = P → p.2 = X.env.qual ++ "<lambda>")
    (hdef : defaultsOf params X.env = ([], [])) (hfree : ∀ y ∈ scope.names, y.2 = .free → X.env.scope.names.lookup y.1 = some .cell ∨ X.env.scope.names.lookup y.1 = some .free) :
    PE X (.Lambda params body scope pos) (tMkLam T (X.env.qual ++ "<lambda>") params body scope (cloFrom X.env.cells scope.names [])) := by
  refine ⟨fun pins s σ H Q I ⟨hT, q⟩ => ?_⟩
  obtain ⟨ps, hP, ht, ha⟩ := hT _ hm
  have hcl := closure_ok (env := X.env) (fun y hy e => (hfree y hy e).elim (fun z => I.ok.has _ (.inl z)) fun z => I.ok.has _ (.inr z))
  have bP : s.heap.BuiltinsAt X.mg P := TB.bm.keeps I.bk
  have hP' : s.heap.get? P = some { cls := .none, data := .fields ps } := I.hok P _ hP
  -- the function's object laid over what there is
  have lay : ∀ {H1 : Hp} {h' : Heap} {tk : Nat} {c' : Addr} {ctv : Value}, Inv X pins σ H1 { s with heap := h', toks := tk } → ExtN H H1 → Tabs T H1 → H1 c' = some (CodeO c' (X.env.qual ++ "<lambda>")) →
      EP X pins σ Q (.ref h'.objs.size) { s with heap := h'.push (PySem.W.kla_obj "<lambda>" (X.env.qual ++ "<lambda>") params body scope (cloFrom X.env.cells scope.names []) ((X.mg "__name__").getD .none) c' ctv), toks := tk } := fun {H1 h' tk c' ctv} I1 e T1 hc => by
    have nf : H1 h'.objs.size = none := I1.hok.fresh (Nat.le_refl _)
    refine ⟨.ref h'.objs.size, _, I1.laid (t' := tk) (fun b o e => Heap.get?_push_of_some _ e) (Nat.le_refl _) (lamO_ok (Heap.get?_push_size _ rfl)), rfl, q _ c' _ ctv _ (fun b o hb n => ?_) (tabs_new T1 nf) upd_same ?_⟩
    · have hb1 := e b o hb n
      rw [upd_ne (ne_of_none hb1 nf)]
      exact hb1
    · rw [upd_ne (ne_of_none hc nf)]
      exact hc
  refine PySem.W.kla_eval hdef ?_
  cases hc : codeAmong pos ps.toList with
  | some cv =>
    obtain ⟨c', e, hco⟩ := ha pos cv hc
    subst e
    refine PySem.W.kla_makeFunctionHit (mg := X.mg) (c := c) (P := P) (ps := ps) hcl I.ok.glob (I.mod.glob.keeps I.bk) hcode (TB.code.keeps I.bk) hP' ht hc bP fun ctv h' tk hx hsz => ?_
    exact lay (I.kept (h' := h') (t' := tk) hx) (ExtN.refl H) hT hco
  | none =>
    refine PySem.W.kla_makeFunction (mg := X.mg) (c := c) (P := P) (ps := ps) hcl I.ok.glob (I.mod.glob.keeps I.bk) hcode (TB.code.keeps I.bk) hP' ht hc TB.gP bP fun c' ctv h' tk hx hge hlt hrec htb => ?_
    obtain ⟨c2, oc, vs, t, e2, hoc, hd, hv⟩ := hrec
    cases e2
    have nC : H c' = none := I.hok.fresh hge
    have nPC : P ≠ c' := ne_of_none hP nC
    have I1 := inv_table (q := X.env.qual ++ "<lambda>") (t' := tk) (more := #[rawInt pos.line, rawInt pos.col, .ref c']) (h' := h') I hP hx htb hge ⟨oc, vs, t, hoc, hd, hv⟩
    have hE : ExtN H (upd (upd H P (.tbl (ps ++ #[rawInt pos.line, rawInt pos.col, .ref c']))) c' (CodeO c' (X.env.qual ++ "<lambda>"))) := fun b o e n => by
      have h1 : b ≠ P := fun z => by
        subst z
        rw [hP] at e
        exact n ps (Option.some.inj e).symm
      rw [upd_ne (ne_of_none e nC), upd_ne h1]
      exact e
    refine lay I1 hE (fun p hp => ?_) upd_same
    by_cases hb : p.1 = P
    · rw [hu p hp hb, hb]
      refine ⟨ps ++ #[rawInt pos.line, rawInt pos.col, .ref c'], by rw [upd_ne nPC, upd_same], by simpa using PySem.TriplesOk_snoc _ _ _ _ ht, fun p' cv hcv => ?_⟩
      rcases among_app _ ht (by simpa using hcv) with z | z
      · obtain ⟨c0, e1, e2⟩ := ha p' cv z
        exact ⟨c0, e1, hE _ _ e2 codeO_ne⟩
      · exact ⟨c', z, upd_same⟩
    · obtain ⟨ps', a1, a2, a3⟩ := hT p hp
      refine ⟨ps', by rw [upd_ne (ne_of_none a1 nC), upd_ne hb]; exact a1, a2, fun p' cv hcv => ?_⟩
      obtain ⟨c0, e1, e2⟩ := a3 p' cv hcv
      exact ⟨c0, e1, hE _ _ e2 codeO_ne⟩
end
end VL

namespace VL
open PySem PySem.Spec PyProof.Rows L2 LamX
/-! ### no closures in a tree -/
mutual
def D.pl : D → Bool
  | .clo _ _ | .own _ => false
  | .tup ds | .lst ds => D.pls ds
  | .exc _ v => v.pl
  | _ => true
def D.pls : List D → Bool
  | [] => true
  | d :: ds => d.pl && D.pls ds
end
mutual
theorem Rep.pl {g : Gx} {co co' : CO} {H : Hp} : ∀ {v : V} {d : D}, Rep g co H v d → d.pl = true → Rep g co' H v d
  | _, _, .non, _ => .non
  | _, _, .bl b, _ => .bl b
  | _, _, .int i, _ => .int i
  | _, _, .str x, _ => .str x
  | _, _, .tup s r, e => .tup s (RepL.pl r (by simpa [D.pl] using e))
  | _, _, .lst s r, e => .lst s (RepL.pl r (by simpa [D.pl] using e))
  | _, _, .glb k, _ => .glb k
  | _, _, .exc h1 h2 h3 r, e => .exc h1 h2 h3 (Rep.pl r (by simpa [D.pl] using e))
  | _, _, .clo _ _, e => by simp [D.pl] at e
  | _, _, .own _, e => by simp [D.pl] at e
  | _, _, .pot k, _ => .pot k
  | _, _, .scr z, _ => .scr z
  | _, _, .rng z, _ => .rng z
theorem RepL.pl {g : Gx} {co co' : CO} {H : Hp} : ∀ {v : List V} {d : List D}, RepL g co H v d → D.pls d = true → RepL g co' H v d
  | _, _, .nil, _ => .nil
  | _, _, .cons r t, e => by
    simp only [D.pls, Bool.and_eq_true] at e
    exact .cons (Rep.pl r e.1) (RepL.pl t e.2)
end
/-! ### a def that gets closures -/
structure FnV (P : Program) (w : World) (base : Heap) (g : Gx) (lams : Lams) (k : Nat) (f : Addr) (fd : FuncData) (ps : List Str) (mf : List D → P3 → Res D) : Prop where
  len : ∀ ds p, ds.length ≠ ps.length → mf ds p = .bad
  run : ∀ (A : Around) (outer : List Env) (s : Shared) (H : Hp) (args : Args) (us : List Value) (vs : List V) (ds : List D) (p : P3) (Q : VK) (E : XK), Room k A → A.guards = some [] → Env0 P w g.K g.mg base A outer s H → BindsTo s fd args (ps.zip us) → Vals vs us →
    RepL g (coS lams s.heap H (frs outer) H) H vs ds → StR g H p → PF g H Q E (mf ds p) → codeAny (model P w) A (.call (.ref f) args) (CR (L2.CX P w) outer P w H s Q E) s
structure CalV (P : Program) (w : World) (base : Heap) (g : Gx) (lams : Lams) (k : Nat) (x : Str) (ps : List Str) (mf : List D → P3 → Res D) : Prop where
  ex : ∃ (f : Addr) (fd : FuncData), g.mg x = some (.ref f) ∧ PySem.W.keepIn g.K (.ref f) = true ∧ Binds g.K fd ps [] ∧ FnV P w base g lams k f fd ps mf
theorem coS_le {lams : Lams} {X : Cx} {H : Hp} : (coS lams X.s_0.heap X.H_0 X.fs H).le (coM lams X H) := ⟨fun _ _ _ h => h, fun _ _ h => False.elim h⟩
def outV (r : Res (Fl × En)) : Res D := match r with
  | .ok (.ret d, _) p => .ok d p
  | .ok (.nx, _) p => .ok .non p
  | .ok _ _ => .bad
  | .err x v p => if v.pl then .err x v p else .bad
  | .bad => .bad
def callV (n np : Nat) (m : MS) : List D → P3 → Res D := fun ds p => if ds.length = np then outV (m (env0 n ds) p) else .bad
section
variable {P : Program} {w : World} {base : Heap} {g : Gx} {lams : Lams} {k : Nat} {x qual : Str} {st : Stmt} {f : Addr} {fd : FuncData} {N ps : List Str} {m : MS}
abbrev vX (P : Program) (w : World) (g : Gx) (base : Heap) (N : List Str) (x : Str) (st : Stmt) (f : Addr) (cdv : Value) (A : Around) (outer : List Env) (s : Shared) (H : Hp) (E : XK) : Cx := cxOf (L2.CX P w) P w g.K g.mg base N x (L2.defScope st) f cdv A outer s H E
theorem fnv_of (F : L2.Fun g.K x x st f fd) (S : FnScope N ps (L2.defScope st)) (bt : Bt g.mg)
    (hbody : ∀ (f : Addr) (cdv : Value) (A : Around) (outer : List Env) (s : Shared) (H : Hp) (E : XK), fd.code = cdv → Fs (vX P w g base N x st f cdv A outer s H E) (jV g lams (vX P w g base N x st f cdv A outer s H E) fun cls d _ H' => E cls d H') k →
      VSs (vX P w g base N x st f cdv A outer s H E) (jV g lams (vX P w g base N x st f cdv A outer s H E) fun cls d _ H' => E cls d H') (L2.defBody st) m) : FnV P w base g lams (k + 1) f fd ps (callV N.length ps.length m) := by
  refine ⟨fun ds p h => if_neg h, fun A outer s H args us vs ds p Q E hr gd e0 hb r rd stp q => ?_⟩
  obtain ⟨oc, od, kV, doc, pm, an, cdv, ct, osl, rfl, lk, hcd⟩ := F.ex
  unfold callV at q
  by_cases hl : ds.length = ps.length
  · rw [if_pos hl] at q
    have hpl : ps.length ≤ N.length := by have := congrArg List.length S.pre; rw [List.length_take] at this; omega
    have KX : g.K.In s.heap := e0.mod.kin.keeps fun b o e => (e0.bs b o e).1
    have lim : s.heap.NoLimit := e0.mod.nolimit.keeps fun b o e => (e0.bs b o e).1
    have hkind : ∀ y ∈ ps.zip us, (L2.defScope st).names.lookup y.1 = some .local ∨ ((L2.defScope st).names.lookup y.1 = some .cell ∧ ((cellsFrom (s.heap.objs.size + 1) (L2.defScope st).names []).lookup y.1).isSome = true) := fun ⟨n, v⟩ hy => by
      rcases S.par n (List.of_mem_zip hy).1 with z | z
      · exact .inl z
      · exact .inr ⟨z, PySem.W.cellsFrom_some _ _ _ (.inl z)⟩
    have hvl : vs.length = ps.length := by rw [rd.length, hl]
    refine codeAny_call_function hr.depth (KX _ _ lk) rfl S.co S.gen rfl (PySem.W.codeRec_of KX hcd) (hb _ _ _ _ ?_)
    refine wpAny_newFunctionEnv_cells S.kind hkind fun env he s1 xx => ?_
    subst he
    refine ⟨lim.keeps xx.toInCall.keep, codeAny_func ?_⟩
    have I : Inv (vX P w g base N x st f cdv A outer s H E) [] (L2.start N vs) H s1 := inv_start S hr.hd e0 hvl r xx
    have F0 : Fs (vX P w g base N x st f cdv A outer s H E) (jV g lams (vX P w g base N x st f cdv A outer s H E) fun cls d _ H' => E cls d H') k :=
      ⟨⟨⟨rfl, rfl, rfl, takes_of rfl rfl rfl rfl, hr.deeper _, gd, rfl⟩, bt, S.nd⟩, passes_of rfl⟩
    have er : ERep (vX P w g base N x st f cdv A outer s H E) (jV g lams (vX P w g base N x st f cdv A outer s H E) fun cls d _ H' => E cls d H') (L2.start N vs) H (env0 N.length ds) := by
      refine ⟨?_, fun i sl h => ?_, fun i j a _ ⟨ds', h⟩ => ?_, .refl⟩
      · unfold env0 L2.start
        rw [List.length_append, List.length_append, List.length_map, List.length_map, List.length_replicate, List.length_replicate, rd.length]
      · unfold env0 at h
        by_cases hi : i < ds.length
        · rw [List.getElem?_append_left (by rw [List.length_map]; exact hi), List.getElem?_map, List.getElem?_eq_getElem hi] at h
          cases h
          obtain ⟨v, h1, h2⟩ := rd.get (List.getElem?_eq_getElem hi)
          exact ⟨v, start_get (by omega) h1, h2.ext .refl coS_le⟩
        · rw [List.getElem?_append_right (by rw [List.length_map]; omega), List.getElem?_replicate] at h
          split at h <;> cases h
      · unfold env0 at h
        by_cases hi : i < ds.length
        · rw [List.getElem?_append_left (by rw [List.length_map]; exact hi), List.getElem?_map, List.getElem?_eq_getElem hi] at h
          cases h
        · rw [List.getElem?_append_right (by rw [List.length_map]; omega), List.getElem?_replicate] at h
          split at h <;> cases h
    have hrun := (hbody f cdv A outer s H E rfl F0).run [] s1 (L2.start N vs) H { nx := fun _ H' => Q .non H', rt := Q } I ⟨_, p, er, stp, ?_⟩
    · refine wpAny_mono hrun (fun fl s' hs => ?_) fun e s' hs => hs
      have fin : ∀ {σ' : St} {H' : Hp} {v : V} {u : Value}, Inv (vX P w g base N x st f cdv A outer s H E) [] σ' H' s' → RelV v u → Q v H' → CE outer P w H s Q u s' :=
        fun {σ' H' v u} J rv z => ⟨v, H', J.os, J.bare, J.base, J.hok, rv, z⟩
      cases fl with
      | ret u => obtain ⟨v, σ', H', J, rv, z⟩ := hs; exact fin J rv z
      | next => obtain ⟨σ', H', J, z⟩ := hs; exact fin (v := V.non) (u := Value.none) J rfl z
      | brk => obtain ⟨_, _, _, z⟩ := hs; exact False.elim z
      | cont => obtain ⟨_, _, _, z⟩ := hs; exact False.elim z
    · unfold outV at q
      cases e1 : m (env0 N.length ds) p with
      | bad => rw [e1] at q; exact q
      | err y dv p1 =>
        rw [e1] at q
        simp only at q
        by_cases hp : dv.pl = true
        · rw [if_pos hp] at q
          exact fun σ H' C dd y' e s c z r => q H' C dd y' e s c z (Rep.pl r hp)
        · rw [if_neg hp] at q
          exact q.elim
      | ok fe p1 =>
        obtain ⟨fl, env1⟩ := fe
        rw [e1] at q
        cases fl with
        | nx => exact fun σ H' r s _ => q H' .non r.ext s .non
        | ret d => exact fun H' v e s r => q H' v e s r
        | bk => exact q.elim
        | ct => exact q.elim
        | rtl d => exact q.elim
  · rw [if_neg hl] at q
    exact q.elim
end
section
variable {X : Cx} {J : Jc} {base : Heap} {k : Nat} {e : Expr} {es : List Expr} {sts : List Stmt} {m : ME} {ms : MA} {pos : Pos} {lams : Lams}
/-! ### in a frame with closures -/
def sRetV (me : ME) : MS := onV me fun d env p => if d.pl then .ok (.ret d, env) p else .bad
theorem vs_retV (h : VE X J e m) : VS X J (.Return (some e) pos) (sRetV m) :=
  ps_imp (ps_ret h) fun Dn σ H q => onV_logic q fun env d p1 H1 v r s rv q => by
    by_cases hp : d.pl = true
    · rw [if_pos hp] at q
      exact q H1 v r.ext s (Rep.pl rv hp)
    · rw [if_neg hp] at q
      exact q.elim
/-- the arguments hold no closures -/
def mPl (ms : MA) : MA := fun vw p => (ms vw p).bind fun ds p1 => if D.pls ds then .ok ds p1 else .bad
def Jc.plain (J : Jc) : Jc := { J with co := fun _ => coN, coE := fun _ _ _ => .refl }
/-- a call of a def without closures -/
theorem ve_callP {mf : List D → P3 → Res D} {x : Str} {ps : List Str} {p : Pos} {j : Nat} (C : Cal X.prog X.w X.base J.g j x ps mf) (F : Fr0 X J X.base k) (hj : j ≤ k) (ha : VA X J (e :: es) ms) (hg : Gl X x := by rfl) (hdb : (x == ("__debug__" : Str)) = false := by decide)
    (he : starEach (e :: es) X.env = (false, eval e X.env) :: starEach es X.env := by rfl) (hpl : (backTo pos (starEach es X.env)).any (·.1) = false := by rfl) : VE X J (.Call (.Name x p) (e :: es) [] pos) (mCall mf (mPl ms)) := by
  obtain ⟨f, fd, h1, h2, h3, h4⟩ := C.ex
  refine ⟨fun pins s σ H Q I ⟨vw, p, rr, st, q⟩ => ?_⟩
  refine wpAny_Call_Name_kw (ld_glob I hg (F.mg ▸ h1) ?_ hdb)
  have hk : PySem.W.keepIn X.K (.ref f) = true := F.K ▸ h2
  refine PySem.W.callWith_K (h₀ := X.base) I.ok.mod.kin hk (thn (ha.run pos pins s σ H (fun vs H1 => ∃ ds p1, RepL J.g coN H1 vs ds ∧ StR J.g H1 p1 ∧ PV J σ H1 Q (mf ds p1)) I ⟨vw, p, rr, st, ?_⟩) fun us s1 ⟨vs, H1, I1, r, ds, p1, r1, s1', q1⟩ => ⟨I1.kIn, ?_⟩) he hpl
  · unfold mCall mPl at q
    cases e1 : ms vw p with
    | bad => rw [e1] at q; exact q.elim
    | err x dv p1 => rw [e1] at q; exact q
    | ok ds p1 =>
      rw [e1] at q
      simp only [Res.bind] at q
      by_cases hp : D.pls ds = true
      · simp only [hp, if_true] at q
        intro H1 vs x1 s1 r1
        refine ⟨ds, p1, RepL.pl r1 hp, s1, ?_⟩
        cases e2 : mf ds p1 with
        | bad => rw [e2] at q; exact q.elim
        | err x dv p1 => rw [e2] at q; exact ErrP.ext q x1
        | ok d p2 => rw [e2] at q; exact fun H2 v x2 s2 r2 => q H2 v (x1.trans x2) s2 r2
      · simp only [hp, if_false, Bool.false_eq_true] at q
        exact q.elim
  · have hl : us.length = ps.length := by
      rw [← r.length, r1.length]
      refine Classical.byContradiction fun z => ?_
      rw [h4.len ds p1 z] at q1
      exact q1
    have hb' := h3 s1 us (F.K ▸ I1.kIn) (by rw [List.append_nil]; exact hl)
    rw [List.append_nil] at hb'
    have e0 : Env0 X.prog X.w J.g.K J.g.mg X.base X.A X.stack s1 H1 := by rw [F.K, F.mg]; exact I1.env0
    refine wpAny_call (codeAny_mono (h4.run X.A X.stack s1 H1 ⟨us, []⟩ us vs ds p1 Q (fun cls d H' => J.W cls d σ H') (F.room.mono hj) F.gd e0 hb' r r1 s1' ?_) fun r s' hq => ?_)
    · cases e1 : mf ds p1 with
      | bad => rw [e1] at q1; exact q1
      | err x dv p1 => rw [e1] at q1; exact fun H' C dd y e s c z r => q1 H' C dd y e s c z (Rep.up r)
      | ok d p1 => rw [e1] at q1; exact fun H' v e s r => q1 H' v e s (Rep.up r)
    · cases r with
      | error e => exact F.tk _ _ (XE.of_call (W := J.W) I1 (fun _ _ _ z => z) hq)
      | ok fl =>
        cases fl with
        | ret u => exact I1.after hq
        | next => exact False.elim hq
        | brk => exact False.elim hq
        | cont => exact False.elim hq
/-- a lambda made -/
theorem ve_lam {g : Gx} {W : WX} {c P : Addr} {i : Nat} {L : Lam} {params : Arguments} {body : Expr} {scope : Scope} (TB : TabB X.base X.mg c P) (hcode : X.env.code = .ref c) (hm : (P, X.env.qual ++ "<lambda>") ∈ g.T) (hu : ∀ p ∈ g.T, p.1 = P → p.2 = X.env.qual ++ "<lambda>")
    (hL : lams i = some L) (hq : L.qual = X.env.qual ++ "<lambda>") (h1 : L.params = params) (h2 : L.body = body) (h3 : L.scope = scope) (hdef : defaultsOf params X.env = ([], []) := by rfl)
    (hfree : ∀ y ∈ scope.names, y.2 = .free → X.env.scope.names.lookup y.1 = some .cell) : VE X (jV g lams X W) (.Lambda params body scope pos) (mC (.own i)) := by
  refine pe_imp (pe_mkLam (T := g.T) TB hcode hm hu hdef fun y hy e => .inl (hfree y hy e)) fun σ H Q ⟨vw, p, rr, st, q⟩ => ⟨st.tab, fun f c' pm ctv H1 eN T1 hf hc => ?_⟩
  have x1 : Ext g H H1 := fun b o hb _ n => eN b o hb n
  refine q H1 (.ref f) x1 ⟨?_, T1⟩ (.own ⟨L, hL, hq, pm, c', ctv, ?_, by rw [hq]; exact hc⟩)
  · have w := st.pot
    unfold PotR at w ⊢
    split at w
    · exact eN _ _ w (fun _ z => nomatch z)
    · trivial
    · exact w
  · subst h1 h2 h3
    unfold lamObj
    rw [hq]
    exact hf
end
end VL

namespace VL
open PySem PySem.Spec PyProof.Rows L2 LamX
section
variable {X : Cx} {pins : List (Addr × Obj)} {σ : St} {H : Hp} {s : Shared} {cl : List (Str × Addr)} {L : Lam} {ws : List V}
abbrev ExOk (X : Cx) : Prop := ∀ b ∈ X.ex, ∀ v, ¬ X.s_0.heap.IsCell b v
theorem CloK.later (C : CloK X.s_0.heap X.H_0 X.fs cl L ws) (hx : ExOk X) (I : Inv X pins σ H s) : CloK s.heap H (frs X.stack) cl L ws := by
  refine ⟨C.at_.later C.nf (fun y c e z => by
    obtain ⟨_, v, w⟩ := C.at_.all y c e
    exact hx c z v w) I, fun y c e hm => ?_⟩
  rcases List.mem_cons.mp (I.stkSub _ hm) with z | z
  · obtain ⟨_, v, o, ho, _⟩ := C.at_.all y c e
    have h1 := Heap.lt_size ho
    have h2 := I.ok.above
    subst z
    exact Nat.lt_irrefl _ (Nat.lt_of_lt_of_le h1 h2)
  · exact C.nf y c e z
/-- how the captured names lie in the making frame -/
structure CapOk (X : Cx) (L : Lam) (js : List Nat) : Prop where
  free : ∀ y ∈ L.scope.names, y.2 = .free → X.env.scope.names.lookup y.1 = some .cell
  has : ∀ y ∈ L.caps, (y, NameKind.free) ∈ L.scope.names
  at_ : js.map (fun j => X.N[j]?) = L.caps.map some
  fn : ∀ y, X.env.scope.names.lookup y = some .cell → X.fn y = true
theorem CloK.made {js : List Nat} (c : CapOk X L js) (I : Inv X pins σ H s) (hw : js.map (NdefX.slotAt σ) = ws.map some) : CloK s.heap H (frs X.stack) (cloFrom X.env.cells L.scope.names []) L ws := by
  have C := NdefX.cells_of I (NdefX.Caps.made (X := X) (scope := L.scope) (fr := L.caps) (js := js) I.ok (fun y hy e => .inl (c.free y hy e)) c.has c.at_)
  rw [hw] at C
  refine ⟨C, fun y a e hm => ?_⟩
  have hfree : ∀ y ∈ L.scope.names, y.2 = .free → ∃ c, X.env.cells.lookup y.1 = some c := fun y hy e => I.ok.has _ (.inl (c.free y hy e))
  have ec := NdefX.clo_cm hfree e
  have hfn : X.fn y = true := by
    rcases cloFrom_mem (PySem.mem_of_lookup e) with z | ⟨z, _⟩
    · cases z
    · exact c.fn y (c.free _ z rfl)
  have hge := I.ok.cab y a hfn ec
  rcases List.mem_cons.mp (I.stkSub _ hm) with z | z
  · obtain ⟨m, ⟨o, es, ep, e1, d1, _⟩, _⟩ := I.loc
    obtain ⟨v, o2, e2, d2⟩ := I.cell y a ec
    subst z
    rw [e1] at e2
    cases e2
    rw [d1] at d2
    cases d2
  · obtain ⟨_, o, e1, _⟩ := I.ok.funs.mem z
    exact Nat.lt_irrefl _ (Nat.lt_of_lt_of_le (Heap.lt_size e1) hge)
end
/-! own closures as they are handed on -/
def getAll (vw : Vw) : List Nat → Option (List D)
  | [] => some []
  | j :: js => match vw[j]?, getAll vw js with
    | some (some d), some ds => if d.pl then some (d :: ds) else none
    | _, _ => none
abbrev CapT := List (Nat × List Nat)
def capD (caps : CapT) (vw : Vw) : D → Option D
  | .own i => match caps.lookup i with
    | some js => (getAll vw js).map (D.clo i)
    | none => none
  | .clo i ds => if D.pls ds then some (.clo i ds) else none
  | d => if d.pl then some d else none
def capDs (caps : CapT) (vw : Vw) : List D → Option (List D)
  | [] => some []
  | d :: ds => match capD caps vw d, capDs caps vw ds with
    | some d', some ds' => some (d' :: ds')
    | _, _ => none
/-- the table of captured slots is right -/
def CapTOk (lams : Lams) (X : Cx) (caps : CapT) : Prop := ∀ i js L, caps.lookup i = some js → lams i = some L → CapOk X L js
section
variable {X : Cx} {pins : List (Addr × Obj)} {σ : St} {H : Hp} {s : Shared} {g : Gx} {lams : Lams} {J : Jc}
theorem getAll_rep {vw : Vw} (r : VRep J σ H vw) : ∀ {js : List Nat} {ds : List D}, getAll vw js = some ds → ∃ ws : List V, js.map (NdefX.slotAt σ) = ws.map some ∧ RepL J.g coN H ws ds
  | [], ds, h => by cases h; exact ⟨[], rfl, .nil⟩
  | j :: js, ds, h => by
    unfold getAll at h
    split at h
    · rename_i d ds' h1 h2
      split at h
      · rename_i hp
        cases h
        obtain ⟨v, e, rv⟩ := r.at_ j d h1
        obtain ⟨ws, e2, r2⟩ := getAll_rep r h2
        exact ⟨v :: ws, by rw [List.map_cons, List.map_cons, NdefX.slotAt_of e, e2], .cons (Rep.pl rv hp) r2⟩
      · cases h
    · cases h
theorem capD_rep {caps : CapT} {vw : Vw} (hco : J.co H = coM lams X H) (ct : CapTOk lams X caps) (hx : ExOk X) (I : Inv X pins σ H s) (r : VRep J σ H vw) {v : V} {d d' : D} (rv : J.R σ H v d) (e : capD caps vw d = some d') :
    Rep J.g (coS lams s.heap H (frs X.stack) H) H v d' := by
  have plain : (if d.pl then some d else none) = some d' → Rep J.g (coS lams s.heap H (frs X.stack) H) H v d' := fun h => by
    split at h
    · rename_i hp
      cases h
      exact Rep.pl rv hp
    · cases h
  cases d with
  | own i =>
    unfold capD at e
    simp only at e
    split at e
    · rename_i js hj
      cases e1 : getAll vw js with
      | none => rw [e1] at e; cases e
      | some ds =>
        rw [e1] at e
        cases e
        obtain ⟨ws, h1, h2⟩ := getAll_rep r e1
        cases rv with
        | own ho =>
          rw [hco] at ho
          obtain ⟨L, l1, l2, l3⟩ := ho
          exact .clo ⟨L, _, l1, l3, CloK.made (ct i js L hj l1) I h1⟩ (h2.ext .refl coN_le)
    · cases e
  | clo i ds =>
    unfold capD at e
    simp only at e
    split at e
    · rename_i hp
      cases e
      cases rv with
      | clo hc hr =>
        rw [hco] at hc
        obtain ⟨L, cl, l1, l2, l3⟩ := hc
        exact .clo ⟨L, cl, l1, l2, l3.later hx I⟩ (RepL.pl hr hp)
    · cases e
  | _ => exact plain e
theorem capDs_rep {caps : CapT} {vw : Vw} (hco : J.co H = coM lams X H) (ct : CapTOk lams X caps) (hx : ExOk X) (I : Inv X pins σ H s) (r : VRep J σ H vw) : ∀ {vs : List V} {ds ds' : List D}, J.RL σ H vs ds → capDs caps vw ds = some ds' →
    RepL J.g (coS lams s.heap H (frs X.stack) H) H vs ds'
  | _, _, _, .nil, h => by cases h; exact .nil
  | _, _, _, .cons rv t, h => by
    unfold capDs at h
    split at h
    · rename_i d' ds' h1 h2
      cases h
      exact .cons (capD_rep hco ct hx I r rv h1) (capDs_rep hco ct hx I r t h2)
    · cases h
/-- a call of a def that gets closures -/
def mCallV (caps : CapT) (mf : List D → P3 → Res D) (ms : MA) : ME := fun vw p => (ms vw p).bind fun ds p1 => match capDs caps vw ds with
  | some ds' => mf ds' p1
  | none => .bad
theorem ve_callV {e : Expr} {es : List Expr} {ms : MA} {pos : Pos} {mf : List D → P3 → Res D} {x : Str} {ps : List Str} {p : Pos} {j k : Nat} (caps : CapT) (C : CalV X.prog X.w X.base J.g lams j x ps mf) (F : Fr0 X J X.base k) (hj : j ≤ k) (ha : VA X J (e :: es) ms)
    (ct : CapTOk lams X caps) (hco : ∀ H, J.co H = coM lams X H := by intro _; rfl) (hx : ExOk X := by intro b hb; cases hb) (hg : Gl X x := by rfl) (hdb : (x == ("__debug__" : Str)) = false := by decide)
    (he : starEach (e :: es) X.env = (false, eval e X.env) :: starEach es X.env := by rfl) (hpl : (backTo pos (starEach es X.env)).any (·.1) = false := by rfl) : VE X J (.Call (.Name x p) (e :: es) [] pos) (mCallV caps mf ms) := by
  obtain ⟨f, fd, h1, h2, h3, h4⟩ := C.ex
  refine ⟨fun pins s σ H Q I ⟨vw, p, rr, st, q⟩ => ?_⟩
  refine wpAny_Call_Name_kw (ld_glob I hg (F.mg ▸ h1) ?_ hdb)
  have hk : PySem.W.keepIn X.K (.ref f) = true := F.K ▸ h2
  refine PySem.W.callWith_K (h₀ := X.base) I.ok.mod.kin hk (thn (ha.run pos pins s σ H (fun vs H1 => ∃ ds ds' p1, VRep J σ H1 vw ∧ J.RL σ H1 vs ds ∧ capDs caps vw ds = some ds' ∧ StR J.g H1 p1 ∧ PV J σ H1 Q (mf ds' p1)) I ⟨vw, p, rr, st, ?_⟩) fun us s1 ⟨vs, H1, I1, r, ds, ds', p1, rr1, r1, ecap, s1', q1⟩ => ⟨I1.kIn, ?_⟩) he hpl
  · unfold mCallV at q
    cases e1 : ms vw p with
    | bad => rw [e1] at q; exact q.elim
    | err x dv p1 => rw [e1] at q; exact q
    | ok ds p1 =>
      rw [e1] at q
      simp only [Res.bind] at q
      intro H1 vs x1 s1 r1
      cases e3 : capDs caps vw ds with
      | none => rw [e3] at q; exact q.elim
      | some ds' =>
        rw [e3] at q
        simp only at q
        refine ⟨ds, ds', p1, rr.ext x1, r1, e3, s1, ?_⟩
        cases e2 : mf ds' p1 with
        | bad => rw [e2] at q; exact q.elim
        | err x dv p1 => rw [e2] at q; exact ErrP.ext q x1
        | ok d p2 => rw [e2] at q; exact fun H2 v x2 s2 r2 => q H2 v (x1.trans x2) s2 r2
  · have rS := capDs_rep (hco H1) ct hx I1 rr1 r1 ecap
    have hl : us.length = ps.length := by
      rw [← r.length, rS.length]
      refine Classical.byContradiction fun z => ?_
      rw [h4.len ds' p1 z] at q1
      exact q1
    have hb' := h3 s1 us (F.K ▸ I1.kIn) (by rw [List.append_nil]; exact hl)
    rw [List.append_nil] at hb'
    have e0 : Env0 X.prog X.w J.g.K J.g.mg X.base X.A X.stack s1 H1 := by rw [F.K, F.mg]; exact I1.env0
    refine wpAny_call (codeAny_mono (h4.run X.A X.stack s1 H1 ⟨us, []⟩ us vs ds' p1 Q (fun cls d H' => J.W cls d σ H') (F.room.mono hj) F.gd e0 hb' r rS s1' ?_) fun r s' hq => ?_)
    · cases e1 : mf ds' p1 with
      | bad => rw [e1] at q1; exact q1
      | err x dv p1 => rw [e1] at q1; exact fun H' C dd y e s c z r => q1 H' C dd y e s c z (Rep.up r)
      | ok d p1 => rw [e1] at q1; exact fun H' v e s r => q1 H' v e s (Rep.up r)
    · cases r with
      | error e => exact F.tk _ _ (XE.of_call (W := J.W) I1 (fun _ _ _ z => z) hq)
      | ok fl =>
        cases fl with
        | ret u => exact I1.after hq
        | next => exact False.elim hq
        | brk => exact False.elim hq
        | cont => exact False.elim hq
/-- the closure in slot j called -/
def mCallC (j : Nat) (mls : Nat → List D → P3 → Res D) : ME := fun vw p => match vw[j]? with
  | some (some (.clo i ds)) => if D.pls ds then mls i ds p else .bad
  | _ => .bad
theorem ve_callC {j k : Nat} {x : Str} {p pos : Pos} {mls : Nat → List D → P3 → Res D} (F : Fr0 X J X.base k) (hL : ∀ i L, lams i = some L → LamP X.prog X.w X.base J.g k L (mls i)) (hco : ∀ H, J.co H = coM lams X H := by intro _; rfl) (hx : ExOk X := by intro b hb; cases hb) (hN : X.N[j]? = some x := by rfl)
    (hv : Vis X.env.scope x := by first | exact Or.inl rfl | exact Or.inr (Or.inl rfl) | exact Or.inr (Or.inr rfl)) (hd : (x == ("__debug__" : Str)) = false := by decide) (hcd : (x == ("__classdict__" : Str)) = false := by decide) : VE X J (.Call (.Name x p) [] [] pos) (mCallC j mls) := by
  refine ⟨fun pins s σ H Q I ⟨vw, p0, rr, st, q⟩ => ?_⟩
  unfold mCallC at q
  split at q
  · rename_i i ds hj
    split at q
    · rename_i hp
      obtain ⟨v, e1, rv⟩ := rr.at_ j _ hj
      cases rv with
      | @clo f _ ws _ hc hr =>
        rw [hco H] at hc
        obtain ⟨L, cl, l1, l2, l3⟩ := hc
        refine wpAny_Call_Name_kw (thn ((pe_var (pos := p) (i := j) hN hv hd hcd).run pins s σ H (fun v H1 => v = .ref f ∧ H1 = H) I ⟨.ref f, e1, rfl, rfl⟩) fun u s1 ⟨v, H1, I1, r1, q1⟩ => ?_)
        obtain ⟨ev, eH⟩ := q1
        subst ev
        rw [eH] at I1
        obtain rfl : u = Value.ref f := r1
        obtain ⟨pm, c', ctv, hf, hcc⟩ := id l2
        obtain ⟨of1, _⟩ := I1.hok f _ hf
        refine PySem.W.callWith_F0 ⟨_, _, _, _, of1⟩ ?_
        have e0 : Env0 X.prog X.w J.g.K J.g.mg X.base X.A X.stack s1 H := by rw [F.K, F.mg]; exact I1.env0
        refine wpAny_call (codeAny_mono ((hL i L l1).run X.A X.stack s1 H f cl ws ds p0 Q (fun cls d H' => J.W cls d σ H') F.room F.gd e0 I1.hok l2 (l3.later hx I1).at_ (RepL.pl hr hp) st ?_) fun r s' hq => ?_)
        · cases e1 : mls i ds p0 with
          | bad => rw [e1] at q; exact q
          | err x dv p1 => rw [e1] at q; exact fun H' C dd y e s c z r => q H' C dd y e s c z (Rep.up r)
          | ok d p1 => rw [e1] at q; exact fun H' v e s r => q H' v e s (Rep.up r)
        · cases r with
          | error e => exact F.tk _ _ (XE.of_call (W := J.W) I1 (fun _ _ _ z => z) hq)
          | ok fl =>
            cases fl with
            | ret u => exact I1.after hq
            | next => exact False.elim hq
            | brk => exact False.elim hq
            | cont => exact False.elim hq
    · exact q.elim
  · exact q.elim
end
end VL

namespace VL
open PySem PySem.Spec PyProof.Rows L2 LamX
/-! ### an exception that is caught and kept -/
def XOg (cls : Value) (d : Option Addr) (a : Addr) : HO := .ext fun h => ∃ oe : Obj, h.get? a = some oe ∧ Zc cls d oe ∧ ∃ vs, oe.data = .fields vs
theorem xog_ok {P : Program} {w : World} {H : Hp} {h : Heap} {cls : Value} {d : Option Addr} {a : Addr} {oe : Obj} (e : h.get? a = some oe) (z : Zc cls d oe) (f : ∃ vs, oe.data = .fields vs) : ObjOk P w H h a (.frz oe (XOg cls d a)) :=
  ⟨e, ⟨oe, e, z, f⟩, ⟨oe, e⟩, fun _ _ ⟨o, h1, h2, h3⟩ k => ⟨o, k o h1, h2, h3⟩⟩
section
variable {X : Cx} {pins : List (Addr × Obj)} {σ : St} {H : Hp} {s : Shared}
/-- ghost: a pinned object that is new since the entry is tracked from now on -/
theorem inv_track {a : Addr} {oe : Obj} {u : HO} (I : Inv X ((a, oe) :: pins) σ H s) (hp : ∀ p ∈ X.pn ++ pins, p.1 ≠ a) (hnew : X.s_0.heap.get? a = none) (new : ObjOk X.prog X.w (upd H a (.frz oe u)) s.heap a (.frz oe u)) : Inv X pins σ (upd H a (.frz oe u)) s := by
  obtain ⟨pe, pn, pl, pf, pc⟩ := I.pin (a, oe) (List.mem_append_right _ List.mem_cons_self)
  have pn : H a = none := pn
  have pl : a ≠ X.env.locals := pl
  have nz : ∀ b o, H b = some o → b ≠ a := fun b o e z => by rw [z, pn] at e; cases e
  refine ⟨I.ok, I.os, I.bare, ⟨I.base.keep, I.base.slot, fun b o q n' hx => ?_, I.base.there, fun b ys q => ?_, fun b o u q => ?_, fun b ps q => ?_⟩, I.loc, I.cell, ?_, fun x c q => ?_, fun p hm => ?_, fun b o q => ?_, I.len⟩
  · rw [upd_ne (fun z => by subst z; rw [hnew] at q; cases q)]
    exact I.base.free b o q n' hx
  · have w := I.base.tups b ys q
    rw [upd_ne (nz _ _ w)]; exact w
  · have w := I.base.frzs b o u q
    rw [upd_ne (nz _ _ w)]; exact w
  · obtain ⟨m, w⟩ := I.base.tbls b ps q
    exact ⟨m, by rw [upd_ne (nz _ _ w)]; exact w⟩
  · rw [upd_ne (Ne.symm pl)]; exact I.free
  · have w := I.freeC x c q
    have hne : c ≠ a := fun z => by
      subst z
      obtain ⟨v, o, ho, hd⟩ := I.cell x c q
      rw [pe] at ho
      cases ho
      exact pc v hd
    rw [upd_ne hne]; exact w
  · obtain ⟨w1, w2, w3⟩ := I.pin p (by
      rcases List.mem_append.mp hm with z | z
      · exact List.mem_append_left _ z
      · exact List.mem_append_right _ (List.mem_cons_of_mem _ z))
    exact ⟨w1, by rw [upd_ne (hp p hm)]; exact w2, w3⟩
  · by_cases hb : b = a
    · subst hb
      rw [upd_same] at q
      cases q
      exact new
    · rw [upd_ne hb] at q
      refine (I.hok b o q).stay (fun _ _ _ k => k) (fun c k => ?_) (fun c ys k => ?_)
      · rw [upd_ne (nz _ _ k)]; exact k
      · rw [upd_ne (nz _ _ k)]; exact k
end
/-- what the clause wishes: the exception is its class's, and stands tracked behind the suite -/
def wKept (K : PySem.W.Frag) (c : Value) (i : Nat) (ts : Addr → Value → Option Addr → TS) (D : Ends) : WX := fun cls d σ H =>
  PySem.W.exmOne K cls c = some true ∧ ∀ a, H a = none → ts a cls d { nx := fun σ' H' => H' a = none ∧ ∀ oe : Obj, D.nx (σ'.set i none) (upd H' a (.frz oe (XOg cls d a))), rt := fun _ _ => False, bk := fun _ _ => False, ct := fun _ _ => False } (σ.set i (some (.ref a))) H
section
variable {X : Cx} {x n : Str} {c : Value} {i : Nat} {body suite : List Stmt} {b₀ : Stmt} {np pos pos' : Pos} {tb : WX → TS} {ts : Addr → Value → Option Addr → TS}
theorem ps_kept (hs : X.stack = X.env :: X.outer) (hf : X.env.frame = some X.env.locals) (hex : X.ex = []) (hN : X.N.Nodup) (hi : X.N[i]? = some n) (hln : X.env.kindOf n = some .local) (hc : Names X x c)
    (hb : ∀ (W : WX) (pn : List (Addr × Obj)) (xe : Value → Shared → Prop), Takes (X.tr pn xe) W → PassesOwn (model X.prog X.w) X.A X.env xe → PSs (X.tr pn xe) body (tb W))
    (hsu : ∀ (a : Addr) (oe : Obj) (cls : Value) (d : Option Addr) (pn : List (Addr × Obj)), Zc cls d oe → (∃ vs, oe.data = .fields vs) → PSs (X.suite a ((a, oe) :: pn)) (b₀ :: suite) (ts a cls d)) :
    PS X (.Try body [.ExceptHandler (some (.Name x np)) (some n) (b₀ :: suite) pos'] [] [] pos) (fun D σ H => tb (wKept X.K c i ts D) D σ H) := by
  refine ⟨fun pins s σ H D I h => ?_⟩
  have ok := I.ok
  have hfr : X.A.frames = some (X.env :: X.outer) := by rw [ok.frames, hs]
  have hloc : Loc X.env.scope n := .inl hln
  refine wpAny_Try_except ?_
  have bodyRun := (hb (wKept X.K c i ts D) (X.pn ++ pins) (fun e s₁ => wpAny (model X.prog X.w) X.A (noteFrame e X.env) (fun _ s₂ => wpAny (model X.prog X.w) X.A (setFlight e none) (fun _ s₃ =>
    wpAny (model X.prog X.w) X.A (handleBy e X.env [.ExceptHandler (some (.Name x np)) (some n) (b₀ :: suite) pos']) (SP X pins D) X.xe s₃) X.xe s₂) X.xe s₁) (fun u s' xx => ?_) PassesOwn.looking).run [] s σ H D (I.toTry _) h
  · refine wpAny_mono bodyRun (fun f s1 hsp => ?_) (fun e s1 he => he)
    cases f with
    | next =>
      obtain ⟨σ', H', J', q⟩ := hsp
      exact wpAny_execs_nil ⟨σ', H', J'.ofTry ok, q⟩
    | brk => obtain ⟨σ', H', J', q⟩ := hsp; exact ⟨σ', H', J'.ofTry ok, q⟩
    | cont => obtain ⟨σ', H', J', q⟩ := hsp; exact ⟨σ', H', J'.ofTry ok, q⟩
    | ret u => obtain ⟨v, σ', H', J', r, q⟩ := hsp; exact ⟨v, σ', H', J'.ofTry ok, r, q⟩
  · obtain ⟨a, B, sI, pins', σ', H', cls, d, rfl, J', nb, up, sky, na, os, ag, hx1, hyes⟩ := xx
    have J : Inv X pins σ' H' sI := J'.ofTry ok
    have sky' : Sky B (X.env :: X.outer) a (Zc cls d) X.env.locals s'.heap := by rw [← hs]; exact sky
    show wpAny (model X.prog X.w) X.A (noteFrame (.ref a) X.env) _ _ _
    refine Sky.land Zc.steady hfr hf sky' fun h3 fl3 up3 => ?_
    have J3 : Inv X pins σ' H' { s' with heap := h3 } := J.landed nb fl3.1 (up.trans up3) os ag
    obtain ⟨oe3, vs3, he3, hz3, hd3⟩ := fl3.there
    have nfr : a ∉ frs (X.env :: X.outer) := fun hm => by
      obtain ⟨_, o', e', hnf⟩ := fl3.2.2.1.mem hm
      rw [he3] at e'
      cases e'
      exact hnf _ hd3
    have nL : a ≠ X.env.locals := fun z => nfr (List.mem_filterMap.mpr ⟨X.env, List.mem_cons_self, by rw [hf, z]⟩)
    have nF : a ∉ X.fs := fun hm => by
      obtain ⟨e, he, q⟩ := List.mem_filterMap.mp hm
      exact nfr (List.mem_filterMap.mpr ⟨e, List.mem_cons_of_mem _ he, q⟩)
    -- it is new since the entry
    have nI : sI.heap.get? a = none := by
      cases e : sI.heap.get? a with
      | none => rfl
      | some o =>
        have w := nb a o e (by rw [show (X.tr (X.pn ++ pins) _).stack = X.stack from rfl, hs]; exact nfr)
        rw [fl3.2.1] at w
        cases w
    have n0 : X.s_0.heap.get? a = none := by
      cases e : X.s_0.heap.get? a with
      | none => rfl
      | some o =>
        obtain ⟨o', w⟩ := J.base.there a o e (by rw [hex]; exact fun z => nomatch z)
        rw [nI] at w
        cases w
    have np' : ∀ p ∈ X.pn ++ pins, p.1 ≠ a := fun p hp z => by
      obtain ⟨w, _⟩ := J.pin p hp
      rw [z, nI] at w
      cases w
    have S3 := J3.suite he3 hd3 na nL nF
    refine wpAny_handleBy_cons (codeAny_handlers_test ?_) (by intro q; cases q)
    have LT : PySem.W.Looks (model X.prog X.w) h3 (typeOf (.ref a)) cls := fun A Q E s k q => wpAny_typeOf_ref (k _ _ he3) (by rw [hz3.1]; exact q)
    have LM := PySem.W.exm_one (M := model X.prog X.w) (J3.kIn) LT hx1
    have test : ∀ {Q : Value → Shared → Prop} {E : Value → Shared → Prop}, Q c { s' with heap := h3 } → wpAny (model X.prog X.w) (X.A.mark (some (.ref a))) (eval (.Name x np) X.env) Q E { s' with heap := h3 } := fun {Q E} q => by
      obtain ⟨hg, hdbg, hm | ⟨hm, hv, hnn⟩⟩ := hc
      · exact ld_glob (X := X.suite a ((a, oe3) :: (X.pn ++ pins))) S3 hg hm q hdbg
      · exact ld_blt (X := X.suite a ((a, oe3) :: (X.pn ++ pins))) S3 hg hm hv q hnn hdbg
    refine test (LM.here ?_)
    refine codeAny_handlers_suite_as ?_
    refine HandSPX.lands_againZ fl3 fun h4 fl4 up4 => ?_
    have J4 : Inv X pins σ' H' { s' with heap := h4 } := J.landed nb fl4.1 ((up.trans up3).trans up4) os ag
    obtain ⟨oe4, vs4, he4, hz4, hd4⟩ := fl4.there
    have S4 := J4.suite he4 hd4 na nL nF
    refine store_ok (X := X.suite a ((a, oe4) :: (X.pn ++ pins))) (v := .ref a) S4 hN hi hloc rfl (fun s5 S5 => ?_) (.inr hln)
    refine wpAny_mono ((hsu a oe4 cls d (X.pn ++ pins) hz4 ⟨_, hd4⟩).run [] s5 _ H' _ S5 (hyes a na)) (fun f s6 hsp => ?_) (fun _ _ z => False.elim z)
    cases f with
    | next =>
      obtain ⟨σ6, H6, S6, n6, q6⟩ := hsp
      -- out of the suite, the exception still pinned; then tracked
      have P6 : Inv X ((a, oe4) :: pins) σ6 H6 s6 := ⟨ok, S6.os, S6.bare, S6.base, S6.loc, S6.cell, S6.free, S6.freeC, fun p hp => S6.pin p (List.mem_append_left _ (by
        rcases List.mem_append.mp hp with z | z
        · exact List.mem_cons_of_mem _ (List.mem_append_left _ z)
        · rcases List.mem_cons.mp z with z | z
          · rw [z]; exact List.mem_cons_self
          · exact List.mem_cons_of_mem _ (List.mem_append_right _ z))), S6.hok, S6.len⟩
      refine gone_ok P6 hN hi hln fun s7 J7 => ?_
      have at7 : s7.heap.get? a = some oe4 := (J7.pin (a, oe4) (List.mem_append_right _ List.mem_cons_self)).1
      exact ⟨_, _, inv_track J7 np' n0 (xog_ok at7 hz4 ⟨_, hd4⟩), q6 oe4⟩
    | brk => obtain ⟨σ6, H6, S6, z⟩ := hsp; exact False.elim z
    | cont => obtain ⟨σ6, H6, S6, z⟩ := hsp; exact False.elim z
    | ret u => obtain ⟨v6, σ6, H6, S6, r6, z⟩ := hsp; exact False.elim z
end
end VL

namespace VL
open PySem PySem.Spec PyProof.Rows L2 LamX
section
variable {X : Cx} {J : Jc} {e : Expr} {m : ME} {pos : Pos}
theorem ERep.unset {σ : St} {H : Hp} {env : En} {i : Nat} {o : Option V} (r : ERep X J σ H env) : ERep X J (σ.set i o) H (env.set i none) := by
  refine r.re id (by rw [List.length_set, List.length_set, r.len]) (fun j sl h => ?_) fun a b h _ _ => h
  by_cases hj : i = j
  · subst hj
    by_cases hl : i < env.length
    · rw [List.getElem?_set_self hl] at h; cases h
    · rw [List.getElem?_eq_none (by rw [List.length_set]; exact Nat.le_of_not_lt hl)] at h; cases h
  · rw [List.getElem?_set_ne hj] at h
    exact ⟨h, by rw [List.getElem?_set_ne hj]; rfl⟩
/-- b = e, and an exception of the classes exs kept in c -/
def sHeard (jb jc je : Nat) (exs : List Str) (m : ME) : MS := fun env p => match m (vwOf env) p with
  | .ok d p1 => .ok (.nx, setE env jb (.p d)) p1
  | .err x v p1 => if exs.contains x && decide (je < env.length) then .ok (.nx, setE (env.set je none) jc (.p (.exc x v))) p1 else .bad
  | .bad => .bad
theorem vs_heard {jb jc je : Nat} {xb xc xe x : Str} {CL : Addr} {exs : List Str} {p1 p2 p3 p4 p5 p6 p7 p8 : Pos} (hN : X.N.Nodup) (hm : ∀ (W : WX) (pn : List (Addr × Obj)) (xe : Value → Shared → Prop), Takes (X.tr pn xe) W → VE (X.tr pn xe) { J with W := W } e m)
    (hcl : Names X x (.ref CL)) (hexs : ∀ y C, exs.contains y = true → J.g.mg y = some (.ref C) → PySem.W.exmOne X.K (.ref C) (.ref CL) = some true) (hij : je ≠ jc)
    (hs : X.stack = X.env :: X.outer := by rfl) (hf : X.env.frame = some X.env.locals := by rfl) (hex : X.ex = [] := by rfl)
    (hib : X.N[jb]? = some xb := by rfl) (hic : X.N[jc]? = some xc := by rfl) (hie : X.N[je]? = some xe := by rfl) (hlb : X.env.scope.names.lookup xb = some .local := by rfl) (hlc : X.env.scope.names.lookup xc = some .local := by rfl) (hle : X.env.kindOf xe = some .local := by rfl)
    (hde : (xe == ("__debug__" : Str)) = false := by decide) (hcde : (xe == ("__classdict__" : Str)) = false := by decide)
    (hsw : swapsWith e (some (.Name xb p1)) p2.line X.env = pure false := by rfl) (hsw2 : swapsWith (.Name xe p5) (some (.Name xc p4)) p6.line X.env = pure false := by rfl) :
    VS X J (.Try [.Assign [.Name xb p1] e p2] [.ExceptHandler (some (.Name x p3)) (some xe) [.Assign [.Name xc p4] (.Name xe p5) p6] p7] [] [] p8) (sHeard jb jc je exs m) := by
  refine ps_imp (ps_kept (i := je) (c := .ref CL) (tb := fun W => tAsg (tV { J with W := W } m) (gName jb)) (ts := fun _ _ _ => tAsg (tVar je) (gName jc)) hs hf hex hN hie hle hcl
    (fun W pn xe tk po => pss_one (ps_set hN hib (.inl hlb) (hm W pn xe tk) hsw (.inr hlb)))
    (fun a oe cls d pn _ _ => pss_one (ps_set hN hic (.inl hlc) (pe_var hie (.inl hle) hde hcde) hsw2 (.inr hlc)))) fun Dn σ H ⟨env, p, r, s, q⟩ => ?_
  refine ⟨vwOf env, p, ⟨r.vrep.len, r.vrep.at_⟩, s, ?_⟩
  unfold sHeard at q
  cases e1 : m (vwOf env) p with
  | bad => rw [e1] at q; exact q.elim
  | ok d p1 =>
    rw [e1] at q
    exact fun H1 v x1 s1 r1 => q _ _ ((r.ext1 x1).set r1) s1 x1.hard
  | err y dv p1 =>
    rw [e1] at q
    simp only at q
    split at q
    · rename_i hc
      simp only [Bool.and_eq_true, decide_eq_true_eq] at hc
      obtain ⟨hc, hle'⟩ := hc
      intro H1 C dd w x1 s1 hmg hd rw1
      refine ⟨hexs y C hc hmg, fun a ha => ?_⟩
      have hl : je < σ.length := by
        rw [← r.len]
        exact hle'
      refine ⟨.ref a, List.getElem?_set_self hl, ha, fun oe => ?_⟩
      have gr : Grow H1 (upd H1 a (.frz oe (XOg (.ref C) (some dd) a))) := Grow.upd ha
      have x2 : Ext J.g H (upd H1 a (.frz oe (XOg (.ref C) (some dd) a))) := x1.trans gr.ext
      have rr : ERep X J ((σ.set je none).set jc (some (.ref a))) (upd H1 a (.frz oe (XOg (.ref C) (some dd) a))) (setE (env.set je none) jc (.p (.exc y dv))) :=
        ((r.ext1 x2).unset (i := je) (o := none)).set (v := .ref a) (d := .exc y dv) (.exc (o := oe) (d := dd) upd_same hmg (gr _ _ hd) (J.ext (σ := σ) gr.ext rw1))
      have e2 : (((σ.set je (some (V.ref a))).set jc (some (V.ref a))).set je none) = (σ.set je none).set jc (some (V.ref a)) := by
        rw [List.set_comm _ _ (Ne.symm hij), List.set_set]
      show Dn.nx (((σ.set je (some (V.ref a))).set jc (some (V.ref a))).set je none) _
      rw [e2]
      exact q _ _ rr (s1.grow gr) x2.hard
    · exact q.elim
end
end VL

namespace VL
open PySem PySem.Spec PySem.Calls PyProof.Rows L2 LamX PySem.W
section
variable {prog : Program} {w : World} {A : Around} {E : Value → Shared → Prop} {s : Shared} {K : Frag} {x D : Addr} {ox : Obj} {odo : Option Obj}
/-- an exception's class by name, its dict given -/
theorem exc_cls {Q : Option Value → Shared → Prop} (C : ExcC K D) (hf : findObj K D odo "__class__" = some (.bind (.builtin "getset_descriptor.__get__") (.builtin "object.__class__"))) (X : K.In s.heap) (I : InstAt s.heap x ox D odo)
    (h : Q (some (.ref D)) { s with toks := s.toks + 1 }) : wpAny (model prog w) A (getAttr? (.ref x) "__class__") Q E s := by
  obtain ⟨hp, g, d, t, os⟩ := s
  have ty := I.type (M := model prog w)
  have isB : Looks (model prog w) hp (isInstance (.ref x) (.type "BaseException")) true := ty.andThen (looks_subIn X C.hs)
  have ne : (Value.builtin "BaseException.__getattribute__" == Value.builtin "object.__getattribute__") = false := by decide +kernel
  unfold getAttr? getAttrBy? getAttrBy
  refine wpAny_bind (wpAny_mkText (wpAny_bind (wpAny_attempt (wpAny_holding (wpAny_bind (ty.at (wpAny_bind ((looks_findIn (M := model prog w) X C.hg).at ?_))))))))
  show wpAny _ _ (if (onTheHeap (Value.ref D) && Value.builtin "BaseException.__getattribute__" == Value.builtin "object.__getattribute__") = true then _ else _) _ _ _
  rw [show (onTheHeap (Value.ref D) && Value.builtin "BaseException.__getattribute__" == Value.builtin "object.__getattribute__") = false by rw [ne]; rfl, if_neg Bool.false_ne_true]
  unfold getAttrByItsOwn hookBefore
  refine wpAny_bind ?_
  rw [if_pos (show onTheHeap (Value.ref D) = true from rfl)]
  refine (looks_findIn (M := model prog w) X C.hk).at ?_
  refine wpAny_bind (wpAny_attempt (wpAny_holding ?_))
  unfold callGetattribute
  rw [show (false && onTheHeap (Value.builtin "BaseException.__getattribute__")) = false from rfl, if_neg Bool.false_ne_true]
  unfold boundAndCalled
  rw [PySem.F.excAttr_ValueError.ga.bind (.ref x)]
  refine wpAny_bind (wpAny_pure ?_)
  show wpAny _ _ (call (.builtin "BaseException.__getattribute__") [.ref x, .str "__class__" t]) _ _ _
  refine wpAny_call (codeAny_call_builtin PySem.F.excAttr_ValueError.ga.plain PySem.F.entry_bexc_ga ?_)
  refine @check_slot (model prog w) _ _ ⟨hp, g, d, t + 1, os⟩ "BaseException.__getattribute__" "BaseException" "__getattribute__" (.ref x) [.str "__class__" t] [] _ (by decide +kernel) (by decide +kernel) isB (PySem.F.args_bexc_ga (.ref x) (.str "__class__" t)) ?_
  unfold Builtin.«object.__getattribute__»
  refine wpAny_bind (wpAny_of_eq (a := ((Value.ref x : Value), [Value.str "__class__" t])) (by first | rfl | (simp only [slotArgs]; rfl)) ?_)
  refine wpAny_bind (wpAny_pure (wpAny_bind (ty.at (wpAny_bind ((looks_find (M := model prog w) X I hf).at ?_)))))
  show wpAny _ _ (holding [Value.builtin "object.__class__"] (call (.builtin "getset_descriptor.__get__") [.builtin "object.__class__", .ref x, .ref D]) >>= ret) _ _ _
  refine wpAny_bind (wpAny_holding (wpAny_call (class_get (s := ⟨hp, g, d, t + 1, os⟩) (ox := ox) (od := odo) X I C.hm ?_)))
  refine wpAny_pure ?_
  show wpAny _ _ (handedOut (.ref D)) _ _ _
  rw [handedOut_of (v := .ref D) rfl]
  first
    | exact wpAny_pure (wpAny_pure h)
    | exact wpAny_pure h
    | exact wpAny_pure (wpAny_bind (wpAny_pure (wpAny_pure h)))
theorem kitx_excD (C : ExcC K D) : KitX K (.ref x) (.ref D) (fun h => ∃ od, InstAt h x ox D (some od)) where
  ty := fun _ _ _ ⟨_, I⟩ => I.type
  it := fun _ _ X _ => by
    obtain ⟨cdD, hcD, _⟩ := any_some C.hd
    unfold clsIn at hcD
    split at hcD
    · rename_i c' d' cd' sl' ho
      intro A' Q' E' s' k q
      unfold isType loadHead
      exact wpAny_bind (wpAny_loadPart (k _ _ (X _ _ ho)) (wpAny_pure q))
    · cases hcD
  ne := fun h tp dd its n sl X htp => by
    obtain ⟨cdD, hcD, _⟩ := any_some C.hd
    refine Bool.eq_false_iff.mpr fun q => ?_
    have e : D = tp := Value.ref.inj (beq_iff_eq.mp q)
    subst e
    unfold clsIn at hcD
    split at hcD
    · rename_i c' d' cd' sl' ho
      have z := (X _ _ ho).symm.trans htp
      cases z
    · cases hcD
  ca := fun X ⟨od, I⟩ k => exc_cls C (findObj_data (by obtain ⟨cd, hc, _⟩ := any_some C.hd; rw [hc]; rfl) C.ha C.hn C.ht) X I k
end
section
variable {X : Cx} {J : Jc} {k : Nat} {e : Expr} {m : ME} {pos p p2 : Pos}
/-- what an exception's object is, where it is held -/
theorem exc_inst {pins : List (Addr × Obj)} {σ : St} {H : Hp} {s : Shared} {a C d : Addr} {o : Obj} {fs : List (Str × V)} (I : Inv X pins σ H s) (h1 : H a = some (.frz o (XO C d a))) (h2 : H d = some (.xd fs)) :
    ∃ od mA, InstAt s.heap a o C (some od) ∧ s.heap.Ns1 d mA ∧ (∀ f, RelO (fs.lookup f) (mA f)) ∧ ∀ n, lookIn n od = some (mA n) := by
  obtain ⟨g1, ⟨oe, g2, hz, vs, hd⟩, _⟩ := I.hok a _ h1
  rw [g1] at g2
  cases g2
  obtain ⟨mA, hns, hr⟩ := I.hok d _ h2
  obtain ⟨od, ho, hl⟩ := lookIn_ns hns
  exact ⟨od, mA, ⟨g1, hz.1, by unfold notCls; rw [hd] <;> rfl, by rw [hz.2]; exact ho⟩, hns, hr, hl⟩
/-- what is known of the exceptions' classes, and of the class c that is asked for -/
structure IsC (g : Gx) (exs : List Str) (c : Str) (sub : Str → Bool) : Prop where
  ex : ∃ CL : Addr, g.mg c = some (.ref CL) ∧ kitOne g.K (.type "NoneType") (.ref CL) = some false ∧ ∀ x D, exs.contains x = true → g.mg x = some (.ref D) → ExcC g.K D ∧ kitOne g.K (.ref D) (.ref CL) = some (sub x)
def dIsE (exs : List Str) (sub : Str → Bool) : D → Option D
  | .non => some (.bl false)
  | .exc x _ => if exs.contains x then some (.bl (sub x)) else none
  | _ => none
def rIsE2 (K : PySem.W.Frag) (CL : Addr) : List V → Hp → VK → Prop := fun xs H Q => ∃ (a D d : Addr) (o : Obj) (fs : List (Str × V)) (b : Bool), xs = [.ref a, .ref CL] ∧ H a = some (.frz o (XO D d a)) ∧ H d = some (.xd fs) ∧ ExcC K D ∧ kitOne K (.ref D) (.ref CL) = some b ∧ Q (.bl b) H
theorem call_isE2 {CL : Addr} : CallR X (.builtin "isinstance") (rIsE2 X.K CL) := by
  intro pins s σ H xs us Q I r h
  obtain ⟨a, D, d, o, fs, b, rfl, h1, h2, C, e, q⟩ := h
  obtain ⟨u1, u2, rfl, r1, r2⟩ := vals2 r
  cases r1
  cases r2
  obtain ⟨od, mA, J, _⟩ := exc_inst I h1 h2
  exact kia_one (kitx_excD C) I.kIn ⟨od, J⟩ e (fun z => nomatch z) fun tk => ⟨.bl b, H, I.kept (t' := tk) fun _ _ z => z, rfl, q⟩
theorem x_isE {g : Gx} {x : Str} {exs : List Str} {sub : Str → Bool} (F : Fx X J k) (C : IsC g exs x sub) (h : VE X J e m) (eg : J.g = g := by rfl) (hg : Gl X "isinstance" := by rfl) (hgT : Gl X x := by rfl) (hdb : (x == ("__debug__" : Str)) = false := by decide)
    (he : starEach [e, .Name x p2] X.env = (false, eval e X.env) :: starEach [.Name x p2] X.env := by rfl) (he2 : starEach [.Name x p2] X.env = (false, eval (.Name x p2) X.env) :: starEach [] X.env := by rfl) (hpl : (backTo pos (starEach [.Name x p2] X.env)).any (·.1) = false := by rfl) :
    VE X J (.Call (.Name "isinstance" p) [e, .Name x p2] [] pos) (m1 (dIsE exs sub) m) := by
  subst eg
  obtain ⟨CL, hc, hn, hx⟩ := C.ex
  rw [F.F.mg] at hc
  rw [F.K] at hn
  refine pe_imp (pe_callB (call_isi.or (call_isE2 (CL := CL))) hg F.bt.isi (by decide +kernel) (pa_cons h (pa_cons (pe_glob (v := .ref CL) hgT hc rfl hdb) pa_nil he2) he) (by decide) (by decide) he hpl) fun σ H Q ⟨vw, p0, rr, s, q⟩ => ⟨vw, p0, rr, s, ?_⟩
  unfold m1 at q
  cases e1 : m vw p0 with
  | bad => rw [e1] at q; exact q.elim
  | err y dv p1 => rw [e1] at q; exact q
  | ok d p1 =>
    rw [e1] at q
    intro H1 v x1 s1 rv
    cases e2 : dIsE exs sub d with
    | none => simp only [Res.bind, e2, ofO] at q; exact q.elim
    | some z =>
      simp only [Res.bind, e2, ofO] at q
      unfold dIsE at e2
      split at e2
      · cases e2
        cases rv
        exact .inl ⟨.non, .ref CL, .type "NoneType", .ref CL, false, rfl, .own CL, .base .non, hn, q H1 _ x1 s1 (.bl false)⟩
      · split at e2
        · rename_i y dv hy
          cases e2
          cases rv with
          | @exc a D d _ w _ o g1 g2 g3 g4 =>
            obtain ⟨hE, hk⟩ := hx _ _ hy g2
            rw [F.K] at hE hk
            exact .inr ⟨a, D, d, o, _, _, rfl, g1, g3, hE, hk, q H1 _ x1 s1 (.bl _)⟩
        · cases e2
      · cases e2
/-- what an exception holds -/
def dVal (exs : List Str) : D → Option D
  | .exc x v => if exs.contains x then some v else none
  | _ => none
structure ValC (g : Gx) (exs : List Str) : Prop where
  ex : ∀ x D, exs.contains x = true → g.mg x = some (.ref D) → XfC g.K D ∧ findIn g.K (.ref D) "value" = some none
theorem x_val {g : Gx} {exs : List Str} (F : Fx X J k) (C : ValC g exs) (h : VE X J e m) (eg : J.g = g := by rfl) (hb : attributeBase e "value" X.env (eval e X.env) = eval e X.env := by rfl) : VE X J (.Attribute e "value" pos) (m1 (dVal exs) m) := by
  subst eg
  refine ⟨fun pins s σ H Q I ⟨vw, p0, rr, st, q⟩ => ?_⟩
  refine attr_of hb (thn (h.run pins s σ H (fun v H1 => ∃ d z, J.R σ H1 v d ∧ dVal exs d = some z ∧ (J.R σ H1 v d → ∀ v', J.R σ H1 v' z → Q v' H1)) I ⟨vw, p0, rr, st, ?_⟩) fun u s1 ⟨v, H1, I1, r1, d, z, rv, ez, q1⟩ => ?_)
  · unfold m1 at q
    cases e1 : m vw p0 with
    | bad => rw [e1] at q; exact q.elim
    | err y dv p1 => rw [e1] at q; exact q
    | ok d p1 =>
      rw [e1] at q
      intro H1 v x1 s1 rv
      cases e2 : dVal exs d with
      | none => simp only [Res.bind, e2, ofO] at q; exact q.elim
      | some z =>
        simp only [Res.bind, e2, ofO] at q
        exact ⟨d, z, rv, e2, fun _ v' r' => q H1 v' x1 s1 r'⟩
  · have q2 := q1 rv
    unfold dVal at ez
    split at ez
    · split at ez
      · rename_i y dv hy
        cases ez
        cases rv with
        | @exc a D d _ w _ o g1 g2 g3 g4 =>
          obtain rfl : u = Value.ref a := r1
          obtain ⟨T, hno⟩ := C.ex _ _ hy g2
          rw [F.K] at T hno
          obtain ⟨od, mA, J1, hns, hr, hl⟩ := exc_inst I1 g1 g3
          obtain ⟨u', hu, ru⟩ := RelO.some_of (v := w) (o := mA "value") (hr "value")
          exact HandSPX.exc_get I1.kIn J1 T.ga T.gg T.exC (findObj_own T.hdC hno rfl (by rw [hl, hu])) (handed_of ru) ⟨w, H1, I1.tok _, ru, q2 w g4⟩
      · cases ez
    · cases ez
end
end VL

namespace VL
open PySem PySem.Spec PyProof.Rows L2 LamX
/-! ### a comprehension over closures: its block is judged at the very state that it starts from -/
section
variable {X : Cx}
/-- the block at s3, H3: D the new list, W by the turn -/
def LcAt (X : Cx) (tg elt : Expr) (scope : Scope) (vs : List Nat) (σ : St) (Q : VK) (I : It) (DD : Addr) (s3 : Shared) (H3 : Hp) (ce : Env) (fp : List Addr) : Prop :=
  ∃ (g : TG) (te : TE) (W : Nat → Nat → Hp → Prop), PG (X.blk s3 H3 scope ce fp) tg g ∧ PE (X.blk s3 H3 scope ce fp) elt te ∧ (∃ m, W 0 m H3) ∧ ∀ i m H, W i m H →
    (I.stop i H ∧ Q (.ref DD) H) ∨ (I.go i H ∧ ∃ Nx : Hp → Prop, (∀ H', Nx H' → ∃ m', m' < m ∧ W (i + 1) m' H') ∧ ∀ x H', I.yld i H x H' → g x (wipe σ vs) H' fun σ2 H2 => wipe σ2 vs = wipe σ vs ∧ te σ2 H2 fun y H4 => ∃ acc, H4 DD = some (.lst acc) ∧ acc.length < sizeLine ∧ Nx (upd H4 DD (.lst (acc ++ [y]))))
theorem lc_at {pins : List (Addr × Obj)} {s : Shared} {σ : St} {H : Hp} {Q : VK} {elt tg iter : Expr} {scope : Scope} {own : List (Str × Nat)} {pos pos' : Pos} {wi : TI} {use : Option (Value → Sem Unit)} {Qf : Value → Shared → Prop}
    (hc : X.calm = true) (hN : X.N.Nodup) (I : Inv X pins σ H s) (hi : PI X tg iter wi) (ok : BlkOk X.N X.env.scope scope own) (hs : ∀ x, foldedSetIterable iter X.env x = pure x)
    (h : wi σ H fun It H1 => ∀ DD, H1 DD = none → ∀ (s3 : Shared) (C : Addr) (cl : List (Str × Addr)) (fp : List Addr), Inv X pins σ (upd H1 DD (.lst [])) s3 → (∀ b ∈ fp, ∀ v, ¬ s3.heap.IsCell b v) →
      LcAt X tg elt scope (own.map (·.2)) σ Q It DD s3 (upd H1 DD (.lst [])) (compEnvC scope cl C X.env) fp)
    (hRR : ∀ DD C s' m H', Inv X pins σ H' s' → Q (.ref DD) H' → s'.heap.Ns C m → FpOk X pins H' C → compPost (model X.prog X.w) X.A X.xe use Qf (.ref DD) C (.ok .next) s') :
    wpAny (model X.prog X.w) X.A (comprehension (.ListComp elt [⟨tg, iter, [], 0⟩] scope pos) scope X.env pos' (newList []) false (eval iter X.env) use) Qf X.xe s := by
  have hfree : ∀ y ∈ scope.names, y.2 = .free → ∃ c, X.env.cells.lookup y.1 = some c := fun y hy e => by
    rcases ok.free y hy e with k | k
    · exact I.ok.has _ (.inl k)
    · exact I.ok.has _ (.inr k)
  refine wpAny_comprehension_free (use := use) rfl hs (closure_ok hfree) ok.kind (fun y hy e => by rw [ok.uniq y hy, e])
    (thn (hi.run pins s σ H _ I h) fun xv s1 hx => thn hx fun itv s2 h2 => ?_)
  obtain ⟨it, fp, tn, J, H2, e, I2, T, st2, f2, q⟩ := h2
  subst e
  refine wpAny_newObj_type (newEnv_comp ?_) (by show 0 ≤ sizeLine; decide)
  -- the new list, then the block
  have hDn : H2 s2.heap.objs.size = none := I2.hok.fresh (Nat.le_refl _)
  generalize hs3 : ({ s2 with heap := s2.heap.push { cls := .type "list", data := .seq ([] : List Value).toArray } } : Shared) = s3
  have I3 : Inv X pins σ (upd H2 s2.heap.objs.size (.lst [])) s3 := by
    rw [← hs3]
    exact I2.laid (t' := s2.toks) (fun b o e => Heap.get?_push_of_some _ e) (Nat.le_refl _) ⟨Nat.zero_le _, [], 0, .nil, Heap.get?_push_size _ rfl⟩
  have h3 : s3.heap = s2.heap.push { cls := .type "list", data := .seq ([] : List Value).toArray } := by rw [← hs3]
  have k3 : ∀ b o, s2.heap.get? b = some o → s3.heap.get? b = some o := fun b o e => by rw [h3]; exact Heap.get?_push_of_some _ e
  have lt2 : ∀ b ∈ fp, b < s2.heap.objs.size := fun b hb => by
    obtain ⟨o, e, _⟩ := T.obj _ _ st2 b hb
    exact Heap.lt_size e
  have f3 : ∀ b ∈ fp, FpOk X pins (upd H2 s2.heap.objs.size (.lst [])) b ∧ b < s3.heap.objs.size := fun b hb => by
    have hlt := lt2 b hb
    refine ⟨⟨?_, (f2 b hb).2⟩, by rw [h3, Heap.size_push]; exact Nat.lt_succ_of_lt hlt⟩
    rw [upd_ne (Nat.ne_of_lt hlt)]
    exact (f2 b hb).1
  have st3 : tn 0 s3.heap := T.keep _ _ _ st2 fun b _ o e => k3 b o e
  have ncell : ∀ b ∈ fp, ∀ v, ¬ s3.heap.IsCell b v := fun b hb v ⟨o, ho, hd⟩ => by
    obtain ⟨o', e', n⟩ := T.obj _ _ st3 b hb
    rw [ho] at e'
    cases e'
    exact n v hd
  have I4 := block_start I3 ok hN f3
  obtain ⟨g, te, W, pg, pe, ⟨m0, w0⟩, turn⟩ := q s2.heap.objs.size hDn s3 s3.heap.objs.size (cellsFrom (s3.heap.objs.size + 1) scope.names (cloFrom X.env.cells scope.names [])) fp I3 ncell
  show codeAny _ _ (.compStart (.ListComp elt [⟨tg, iter, [], 0⟩] scope pos) 0 (.ref it) (.ref s2.heap.objs.size) (compEnvC scope (cellsFrom (s3.heap.objs.size + 1) scope.names (cloFrom X.env.cells scope.names [])) s3.heap.objs.size X.env)) (compPost (model X.prog X.w) X.A X.xe use Qf (.ref s2.heap.objs.size) s3.heap.objs.size) { s3 with heap := pushCells (s3.heap.push { cls := .type "dict", data := .dict #[] }) scope.names }
  generalize s2.heap.objs.size = DD at *
  generalize hce : compEnvC scope (cellsFrom (s3.heap.objs.size + 1) scope.names (cloFrom X.env.cells scope.names [])) s3.heap.objs.size X.env = ce at I4 pg pe ⊢
  have cL : ce.locals = s3.heap.objs.size := by subst hce; rfl
  generalize hH3 : upd H2 DD (.lst []) = H3 at I3 I4 pg pe w0 f3
  generalize hs4 : ({ s3 with heap := pushCells (s3.heap.push { cls := .type "dict", data := .dict #[] }) scope.names } : Shared) = s4 at I4 ⊢
  have st4 : tn 0 s4.heap := T.keep _ _ _ st3 fun b _ o e => by rw [← hs4]; exact pushCells_keeps _ _ _ _ (Heap.get?_push_of_some _ e)
  have fpB : ∀ {σ' : St} {H' : Hp} {s' : Shared}, Inv (X.blk s3 H3 scope ce fp) [] σ' H' s' → (∀ b ∈ fp, H' b = none) → ∀ b ∈ fp, FpOk (X.blk s3 H3 scope ce fp) [] H' b := fun {σ' H' s'} I' hn b hb =>
    ⟨hn b hb, (I'.ok.exf b hb).1, I'.ok.exfs b hb, .inl hb, fun x c e => (I'.ok.exf b hb).2 x c e, fun p hp => absurd (show p ∈ ([] : List (Addr × Obj)) ++ [] from hp) (by simp)⟩
  have loop : codeAny (model X.prog X.w) X.A (.compLoop (.ListComp elt [⟨tg, iter, [], 0⟩] scope pos) 0 (.ref it) (.ref DD) ce) (compPost (model X.prog X.w) X.A X.xe use Qf (.ref DD) s3.heap.objs.size) s4 := by
    refine compLoop_any (fun n s' => ∃ i H', Inv (X.blk s3 H3 scope ce fp) [] (wipe σ (own.map (·.2))) H' s' ∧ tn i s'.heap ∧ (∀ b ∈ fp, H' b = none) ∧ W i n H') ?_ m0 ⟨0, H3, I4, st4, fun b hb => (f3 b hb).1.1, w0⟩
    rintro n s5 ⟨i, H5, I5, st5, n5, w5⟩
    rcases turn i n H5 w5 with ⟨stop, qq⟩ | ⟨go, Nx, hNx, step⟩
    · -- the end: back in the def's frame
      refine thnF (T.done (X.blk s3 H3 scope ce fp) rfl rfl rfl hc i [] s5 _ H5 (fun _ _ => False) I5 (fpB I5 n5) st5 stop) fun r s6 ⟨hr, I6⟩ => ?_
      subst hr
      have I7 : Inv X pins σ H5 s6 := I3.call' (ch := fp) I6.os I6.base I6.hok I6.bare fun b hb => ⟨(f3 b hb).1.2.2.2.1, (f3 b hb).1.2.1, (f3 b hb).1.2.2.2.2.1, (f3 b hb).1.2.2.2.2.2⟩
      have nC : H5 s3.heap.objs.size = none := by
        have z : H5 ce.locals = none := I6.free
        rw [cL] at z
        exact z
      obtain ⟨m, hn, _⟩ := I6.loc
      have hn : s6.heap.Ns ce.locals m := hn
      rw [cL] at hn
      exact hRR DD s3.heap.objs.size s6 m H5 I7 qq hn (I3.fpOk (Nat.le_refl _) nC)
    · -- a turn
      refine thnF (T.item (X.blk s3 H3 scope ce fp) rfl rfl rfl hc i [] s5 _ H5 (fun _ _ => False) I5 (fpB I5 n5) st5 go) fun r s6 ⟨u, hr, h6⟩ => ?_
      subst hr
      refine thnF h6 fun _ s7 ⟨x, H7, I7, r7, y7, st7, n7⟩ => ?_
      refine thnF (pg.run _ s7 _ H7 x u _ (I7.pinned (fpB I7 n7) (T.obj _ _ st7)) r7 (step x H7 y7)) fun _ s8 ⟨σ8, H8, I8, hw8, q8⟩ => ?_
      refine thnF ((pts_nil (X := X.blk s3 H3 scope ce fp)).run _ s8 σ8 H8 (fun b H9 => b = true ∧ H9 = H8) I8 ⟨rfl, rfl⟩) fun b s9 ⟨H9, I9, eb, eH⟩ => ?_
      subst eb eH
      have fin : ∀ {s' : Shared} {H' : Hp}, Inv (X.blk s3 H3 scope ce fp) ([] ++ pinsAt fp s7.heap) σ8 H' s' → Nx H' → ∃ m, m < n ∧ ∃ i H', Inv (X.blk s3 H3 scope ce fp) [] (wipe σ (own.map (·.2))) H' s' ∧ tn i s'.heap ∧ (∀ b ∈ fp, H' b = none) ∧ W i m H' := fun {s' H'} I' nx => by
        obtain ⟨m', hm, w'⟩ := hNx H' nx
        have pin' : ∀ b ∈ fp, ∀ o, s7.heap.get? b = some o → s'.heap.get? b = some o ∧ H' b = none := fun b hb o e =>
          let z := I'.pin (b, o) (List.mem_append_right _ (List.mem_append_right _ (mem_pinsAt hb e)))
          ⟨z.1, z.2.1⟩
        refine ⟨m', hm, i + 1, H', (I'.unpinned (pins := [])).weak (by rw [← hw8, wipe_length]) (fun j v e => ?_), T.keep _ _ _ st7 fun b hb o e => (pin' b hb o e).1, fun b hb => ?_, w'⟩
        · rw [← hw8] at e
          exact (wipe_some e).1
        · obtain ⟨o, e, _⟩ := T.obj _ _ st7 b hb
          exact (pin' b hb o e).2
      simp only [if_true]
      refine thnF (pe.run _ s9 σ8 H9 _ I9 q8) fun z s10 ⟨yv, H10, I10, r10, acc, hD10, hz10, nx⟩ => ?_
      exact app_ok (X := X.blk s3 H3 scope ce fp) I10 hD10 hz10 r10 fun s11 I11 => fin I11 nx
  exact codeAny_compStart_list loop (T.self X.A 0 _ _ _ st4 loop)
end
end VL

namespace VL
open PySem PySem.Spec PyProof.Rows L2 LamX
section
variable {X : Cx} {pins : List (Addr × Obj)} {σ : St} {H H' : Hp} {s : Shared} {g : Gx} {lams : Lams} {J : Jc}
/-- as capD_rep, the value told of a later heap -/
theorem capD_at {caps : CapT} {vw : Vw} (hco : J.co H' = coM lams X H') (ct : CapTOk lams X caps) (hx : ExOk X) (I : Inv X pins σ H s) (r : VRep J σ H vw) (e1 : Ext1 H H') {v : V} {d d' : D} (rv : J.R σ H' v d) (e : capD caps vw d = some d') :
    Rep J.g (coS lams s.heap H (frs X.stack) H') H' v d' := by
  have plain : (if d.pl then some d else none) = some d' → Rep J.g (coS lams s.heap H (frs X.stack) H') H' v d' := fun h => by
    split at h
    · rename_i hp
      cases h
      exact Rep.pl rv hp
    · cases h
  cases d with
  | own i =>
    unfold capD at e
    simp only at e
    split at e
    · rename_i js hj
      cases e2 : getAll vw js with
      | none => rw [e2] at e; cases e
      | some ds =>
        rw [e2] at e
        cases e
        obtain ⟨ws, h1, h2⟩ := getAll_rep r e2
        cases rv with
        | own ho =>
          rw [hco] at ho
          obtain ⟨L, l1, l2, l3⟩ := ho
          exact .clo ⟨L, _, l1, l3, CloK.made (ct i js L hj l1) I h1⟩ (h2.ext e1 coN_le)
    · cases e
  | clo i ds =>
    unfold capD at e
    simp only at e
    split at e
    · rename_i hp
      cases e
      cases rv with
      | clo hc hr =>
        rw [hco] at hc
        obtain ⟨L, cl, l1, l2, l3⟩ := hc
        exact .clo ⟨L, cl, l1, l2, l3.later hx I⟩ (RepL.pl hr hp)
    · cases e
  | _ => exact plain e
theorem capDs_get {caps : CapT} {vw : Vw} : ∀ {ds ds' : List D}, capDs caps vw ds = some ds' → ds'.length = ds.length ∧ ∀ (i : Nat) (d : D), ds[i]? = some d → ∃ d' : D, ds'[i]? = some d' ∧ capD caps vw d = some d'
  | [], ds', h => by cases h; exact ⟨rfl, fun i d h => by simp at h⟩
  | d :: ds, ds', h => by
    unfold capDs at h
    split at h
    · rename_i d' ds'' h1 h2
      cases h
      obtain ⟨hl, hg⟩ := capDs_get h2
      refine ⟨congrArg (· + 1) hl, fun i x hx => ?_⟩
      cases i with
      | zero => simp at hx; subst hx; exact ⟨d', rfl, h1⟩
      | succ i => simp at hx; simpa using hg i x hx
    · cases h
end
/-- the view without closures -/
def plV (vw : Vw) : Vw := vw.map fun o => match o with
  | some d => if d.pl then some d else none
  | none => none
def lcGoV (i : Nat) (me : ME) (vw : Vw) : List D → P3 → Res (List D)
  | [], p => .ok [] p
  | x :: xs, p => (strict (me (vw.set i (some x)) p)).bind fun y p2 => if y.pl then (lcGoV i me vw xs p2).bind fun ys p3 => .ok (y :: ys) p3 else .bad
def mLcV (caps : CapT) (vs : List Nat) (i : Nat) (mi : MA) (me : ME) : MA := fun vw p => (mi vw p).bind fun ds p1 => match capDs caps vw ds with
  | some ds' => lcGoV i me (wipeV (plV vw) vs) ds' p1
  | none => .bad
section
variable {X : Cx} {g : Gx} {lams : Lams} {W : WX} {k : Nat}
theorem Fx.blkV (F : Fx X (jV g lams X W) k) {s : Shared} {H : Hp} {scope : Scope} {ce : Env} {fp : List Addr} : Fx (X.blk s H scope ce fp) (jV g lams (X.blk s H scope ce fp) fun _ _ _ _ => False) k :=
  ⟨⟨F.F.K, F.F.mg, F.F.bs, fun u s' ⟨_, _, _, _, _, _, _, _, _, _, _, _, _, _, _, _, z⟩ => z.elim, F.F.room, F.F.gd, F.F.calm⟩, F.bt, F.nd⟩
theorem plV_rep {J J' : Jc} (hg : J'.g = J.g) {σ : St} {H : Hp} {vw : Vw} (r : VRep J σ H vw) : VRep J' σ H (plV vw) := by
  refine ⟨by unfold plV; rw [List.length_map]; exact r.len, fun i d h => ?_⟩
  unfold plV at h
  rw [List.getElem?_map] at h
  cases e : vw[i]? with
  | none => rw [e] at h; cases h
  | some o =>
    rw [e] at h
    cases o with
    | none => cases h
    | some d0 =>
      have h' : (if d0.pl then some d0 else none) = some d := by simpa using h
      split at h'
      · rename_i hp
        cases h'
        obtain ⟨v, e1, rv⟩ := r.at_ i d e
        refine ⟨v, e1, ?_⟩
        show Rep J'.g (J'.co H) H v d
        rw [hg]
        exact Rep.pl rv hp
      · cases h'
theorem vn_lcV {elt iter : Expr} {scope : Scope} {mi : MA} {me : ME} {i : Nat} {x : Str} {p pos : Pos} (own : List (Str × Nat)) (caps : CapT) (F : Fx X (jV g lams X W) k) (hi : VI X (jV g lams X W) (.Name x p) iter mi)
    (he : ∀ (s : Shared) (H : Hp) (C : Addr) (cl : List (Str × Addr)) (fp : List Addr), ExOk (X.blk s H scope (compEnvC scope cl C X.env) fp) → Fx (X.blk s H scope (compEnvC scope cl C X.env) fp) (jV g lams (X.blk s H scope (compEnvC scope cl C X.env) fp) fun _ _ _ _ => False) k →
      VE (X.blk s H scope (compEnvC scope cl C X.env) fp) (jV g lams (X.blk s H scope (compEnvC scope cl C X.env) fp) fun _ _ _ _ => False) elt me)
    (ct : CapTOk lams X caps) (hx : ExOk X := by intro b hb; cases hb) (hv : i ∈ own.map (·.2) := by decide) (hni : X.N[i]? = some x := by rfl) (ok : blkC X.N X.env.scope scope own = true := by kernel_rfl)
    (hl : ∀ (s : Shared) (H : Hp) (C : Addr) (cl : List (Str × Addr)) (fp : List Addr), Loc (X.blk s H scope (compEnvC scope cl C X.env) fp).env.scope x := by intros; first | exact Or.inl rfl | exact Or.inr rfl)
    (hfn : ∀ (s : Shared) (H : Hp) (C : Addr) (cl : List (Str × Addr)) (fp : List Addr), (X.blk s H scope (compEnvC scope cl C X.env) fp).fn x = true ∨ (X.blk s H scope (compEnvC scope cl C X.env) fp).env.scope.names.lookup x = some .local := by intros; first | exact .inl rfl | exact .inr rfl)
    (hs : ∀ x, foldedSetIterable iter X.env x = pure x := by intro _; rfl) :
    VN X (jV g lams X W) (.ListComp elt [⟨.Name x p, iter, [], 0⟩] scope pos) (mLcV caps (own.map (·.2)) i mi me) := by
  refine ⟨fun pins s σ H Q I ⟨vw, p0, rr, st, q⟩ => ?_⟩
  rw [eval_ListComp]
  refine lc_at (Q := Q) F.F.calm F.nd I hi (blkOk_by ok) hs ⟨vw, p0, rr, st, ?_⟩ fun DD C s' m H' I' q hn f => ⟨m, hn, fun h'' sb => ?_⟩
  · unfold mLcV at q
    cases e1 : mi vw p0 with
    | bad => rw [e1] at q; exact q.elim
    | err y dv p1 => rw [e1] at q; exact q
    | ok ds p1 =>
      rw [e1] at q
      simp only [Res.bind] at q
      cases e2 : capDs caps vw ds with
      | none => rw [e2] at q; exact q.elim
      | some ds' =>
        rw [e2] at q
        simp only at q
        obtain ⟨hlen, hget⟩ := capDs_get e2
        intro H1 It x1 s1 Fd hz DD hD s3 C cl fp I3 ncell
        have nP := pot_ne s1 hD
        have gD : Grow H1 (upd H1 DD (.lst [])) := Grow.upd hD
        refine ⟨gName i, tV (jV g lams (X.blk s3 (upd H1 DD (.lst [])) scope (compEnvC scope cl C X.env) fp) fun _ _ _ _ => False) me,
          fun n mm H' => mm = ds.length - n ∧ n ≤ ds.length ∧ ∃ p' acc ys, StR g H' p' ∧ Ext g H1 H' ∧ Ext1 (upd H1 DD (.lst [])) H' ∧ H' DD = some (.lst acc) ∧ RepL g coN H' acc ys ∧ acc.length ≤ n ∧
            PN (jV g lams X W) σ H Q ((lcGoV i me (wipeV (plV vw) (own.map (·.2))) (ds'.drop n) p').bind fun zs p2 => .ok (ys ++ zs) p2),
          pg_name F.nd hni (hl _ _ _ _ _) (hfn _ _ _ _ _), he _ _ _ _ _ ncell F.blkV, ⟨ds.length, by simp, Nat.zero_le _, p1, [], [], s1.grow gD, gD.ext, .refl, upd_same, .nil, Nat.le_refl _, ?_⟩, fun n mm H' ⟨hm, hn, p', acc, ys, s2, x2, x2', hacc, racc, hlacc, q2⟩ => ?_⟩
        · rw [List.drop_zero]
          cases e3 : lcGoV i me (wipeV (plV vw) (own.map (·.2))) ds' p1 with
          | bad => rw [e3] at q; exact q
          | err y dv p2 => rw [e3] at q; exact q
          | ok zs p2 => rw [e3] at q; exact q
        · by_cases hlt : n < ds.length
          · refine .inr ⟨Fd.go n H' x2.hard hlt, fun H'' => ∃ p' acc ys, StR g H'' p' ∧ Ext g H1 H'' ∧ Ext1 (upd H1 DD (.lst [])) H'' ∧ H'' DD = some (.lst acc) ∧ RepL g coN H'' acc ys ∧ acc.length ≤ n + 1 ∧
              PN (jV g lams X W) σ H Q ((lcGoV i me (wipeV (plV vw) (own.map (·.2))) (ds'.drop (n + 1)) p').bind fun zs p2 => .ok (ys ++ zs) p2), fun H'' hN => ⟨ds.length - (n + 1), by omega, rfl, hlt, hN⟩, fun y H3 hy => ?_⟩
            have hd : ds[n]? = some ds[n] := List.getElem?_eq_getElem hlt
            obtain ⟨g3, ry⟩ := Fd.yld n H' y H3 _ x2.hard hd hy
            obtain ⟨d', hd', hcap⟩ := hget n _ hd
            have x3 : Ext g H1 H3 := x2.trans g3.ext
            have x3' : Ext1 (upd H1 DD (.lst [])) H3 := x2'.trans (Grow.ext (g := g) g3).hard
            have s3' := s2.grow g3
            have hlt' : n < ds'.length := by rw [hlen]; exact hlt
            have edr : ds'.drop n = d' :: ds'.drop (n + 1) := by
              rw [List.drop_eq_getElem_cons hlt']
              rw [List.getElem?_eq_getElem hlt'] at hd'
              cases hd'
              rfl
            rw [edr] at q2
            unfold lcGoV at q2
            have rI : VRep (jV g lams X W) σ (upd H1 DD (.lst [])) vw := (rr.ext x1).ext gD.ext
            have ry' : (jV g lams (X.blk s3 (upd H1 DD (.lst [])) scope (compEnvC scope cl C X.env) fp) fun _ _ _ _ => False).R (wipe σ (own.map (·.2))) H3 y d' :=
              Rep.ext .refl coS_le (capD_at (J := jV g lams X W) rfl ct hx I3 rI x3' ry hcap)
            have rv3 : VRep (jV g lams (X.blk s3 (upd H1 DD (.lst [])) scope (compEnvC scope cl C X.env) fp) fun _ _ _ _ => False) (wipe σ (own.map (·.2))) H3 (wipeV (plV vw) (own.map (·.2))) := VRep.wipe (plV_rep (J := jV g lams X W) (J' := jV g lams (X.blk s3 (upd H1 DD (.lst [])) scope (compEnvC scope cl C X.env) fp) fun _ _ _ _ => False) rfl (rr.ext (x1.trans x3)))
            refine bd_name (J := jV g lams (X.blk s3 (upd H1 DD (.lst [])) scope (compEnvC scope cl C X.env) fp) fun _ _ _ _ => False) (K := X.K) hv (wipe σ (own.map (·.2))) H3 _ _ y d' _ rv3 ry' rfl fun σ2 hw r2 => ?_
            rw [wipe_wipe] at hw
            refine ⟨hw, _, p', r2, s3', ?_⟩
            cases e5 : me ((wipeV (plV vw) (own.map (·.2))).set i (some d')) p' with
            | bad => rw [e5] at q2; exact q2.elim
            | err z dv p3 => rw [e5] at q2; exact q2.elim
            | ok z p3 =>
              rw [e5] at q2
              simp only [strict, Res.bind] at q2
              intro H5 v5 x5 s5 r5
              by_cases hp : z.pl = true
              · simp only [hp, if_true] at q2
                have x15 := x3.trans x5
                have hacc5 : H5 DD = some (.lst acc) := x5.keepL (g3 _ _ hacc) nP
                refine ⟨acc, hacc5, ?_, p3, acc ++ [v5], ys ++ [z], s5.updL hacc5 nP, ext_updL x15 hD, (x3'.trans x5.hard).trans (ext1_lst hacc5), upd_same, ?_, ?_, ?_⟩
                · have : acc.length < ds.length := Nat.lt_of_le_of_lt hlacc hlt
                  exact Nat.lt_of_lt_of_le this hz
                · exact RepL.ext (ext1_lst hacc5) .refl ((RepL.ext (g3.ext.trans x5).hard .refl racc).append (.cons (Rep.pl r5 hp) .nil))
                · rw [List.length_append]
                  exact Nat.add_le_add_right hlacc 1
                · cases e6 : lcGoV i me (wipeV (plV vw) (own.map (·.2))) (ds'.drop (n + 1)) p3 with
                  | bad => rw [e6] at q2; exact q2
                  | err z dv p4 => rw [e6] at q2; exact q2
                  | ok zs p4 =>
                    rw [e6] at q2
                    simp only at q2
                    show PN (jV g lams X W) σ H Q (.ok ((ys ++ [z]) ++ zs) p4)
                    rw [show (ys ++ [z]) ++ zs = ys ++ (z :: zs) by simp]
                    exact q2
              · simp only [hp, if_false, Bool.false_eq_true] at q2
                exact q2.elim
          · have hie : n = ds.length := by omega
            subst hie
            refine .inl ⟨Fd.stop H' x2.hard, ?_⟩
            rw [← hlen, List.drop_length] at q2
            simp only [lcGoV, Res.bind, List.append_nil] at q2
            have w := q2 (hdel H' DD) DD acc (x1.trans fun b o e k n => ?_) (s2.del hacc nP) (if_pos rfl) ((RepL.ext (ext1_del hacc) .refl racc).ext .refl coN_le)
            · rw [hdel_upd hacc] at w
              exact w
            · unfold hdel
              rw [if_neg (ne_of_none e hD)]
              exact x2 b o e k n
  · obtain ⟨f0, f1, f2, f3, f4, f5⟩ := f
    exact ⟨.ref DD, H', I'.turned (t' := s'.toks) (fun b o hb e => (sb.2 b hb).trans e) f0 f1 f3 f4 f5, rfl, q⟩
end
end VL

namespace VL
open PySem PySem.Spec PyProof.Rows L2 LamX
/-! ### the lambdas of a statement, in the order of the text -/
def lamsE : Nat → Expr → List Expr
  | 0, _ => []
  | n + 1, e => match e with
    | .Lambda .. => [e]
    | .Call f as _ _ => lamsE n f ++ as.flatMap (lamsE n)
    | .List es _ => es.flatMap (lamsE n)
    | .Tuple es _ _ => es.flatMap (lamsE n)
    | .UnaryOp _ a _ => lamsE n a
    | .BoolOp _ vs _ => vs.flatMap (lamsE n)
    | .Compare l _ cs _ => lamsE n l ++ cs.flatMap (lamsE n)
    | .Subscript v s _ => lamsE n v ++ lamsE n s
    | .BinOp a _ b _ => lamsE n a ++ lamsE n b
    | .ListComp elt gs _ _ => lamsE n elt ++ gs.flatMap fun g => lamsE n g.iter
    | .IfExp c a b _ => lamsE n c ++ (lamsE n a ++ lamsE n b)
    | .Attribute v _ _ => lamsE n v
    | .Starred v _ => lamsE n v
    | _ => []
def lamsS : Nat → Stmt → List Expr
  | 0, _ => []
  | n + 1, st => match st with
    | .FunctionDef _ _ b _ _ _ _ _ _ _ => b.flatMap (lamsS n)
    | .Return (some e) _ => lamsE 40 e
    | .Assign _ e _ => lamsE 40 e
    | .Expr e _ => lamsE 40 e
    | .If c a b _ => lamsE 40 c ++ (a.flatMap (lamsS n) ++ b.flatMap (lamsS n))
    | .For _ it b _ _ => lamsE 40 it ++ b.flatMap (lamsS n)
    | .While c b _ _ => lamsE 40 c ++ b.flatMap (lamsS n)
    | _ => []
def lamOf (q : Str) (caps : List Str) : Expr → Lam
  | .Lambda params body scope _ => ⟨q, params, body, scope, caps⟩
  | e => ⟨q, ⟨[], [], none, [], [], none, []⟩, e, ⟨.function, [], false, false, []⟩, caps⟩
/-- the j-th lambda of the def x, st -/
def lamAt (x : Str) (st : Stmt) (j : Nat) (caps : List Str) : Lam := lamOf ((x ++ ".<locals>.") ++ "<lambda>") caps ((lamsS 40 st).getD j (.Constant .none 0 ⟨0, 0, 0, 0⟩))
/-- a def that makes lambdas: its code object's table -/
structure MakerAt (base : Heap) (g : Gx) (x : Str) (st : Stmt) : Prop where
  ex : ∃ (f : Addr) (fd : FuncData) (c Pt : Addr), g.mg x = some (.ref f) ∧ L2.Fun g.K x x st f fd ∧ fd.code = .ref c ∧ TabB base g.mg c Pt ∧ (Pt, (x ++ ".<locals>.") ++ "<lambda>") ∈ g.T ∧ ∀ p ∈ g.T, p.1 = Pt → p.2 = (x ++ ".<locals>.") ++ "<lambda>"
section
variable {P : Program} {w : World} {base : Heap} {g : Gx} {lams : Lams} {k : Nat} {x : Str} {st : Stmt} {N ps : List Str} {m : MS} {f : Addr} {fd : FuncData} {mf : List D → P3 → Res D}
theorem FnV.toP (F : FnV P w base g lams k f fd ps mf) : FnP P w base g k f fd ps mf :=
  ⟨F.len, fun A outer s H args us vs ds p Q E hr gd e0 hb rv rd st q => F.run A outer s H args us vs ds p Q E hr gd e0 hb rv (rd.ext .refl coN_le) st q⟩
theorem CalV.toP (C : CalV P w base g lams k x ps mf) : Cal P w base g k x ps mf := by
  obtain ⟨f, fd, h1, h2, h3, h4⟩ := C.ex
  exact ⟨f, fd, h1, h2, h3, h4.toP⟩
theorem calv_of (D : DefAt g x st) (S : FnScope N ps (L2.defScope st)) (hb : HB x st ps) (bt : Bt g.mg)
    (hbody : ∀ (f : Addr) (cdv : Value) (A : Around) (outer : List Env) (s : Shared) (H : Hp) (E : XK), Fs (vX P w g base N x st f cdv A outer s H E) (jV g lams (vX P w g base N x st f cdv A outer s H E) fun cls d _ H' => E cls d H') k →
      VSs (vX P w g base N x st f cdv A outer s H E) (jV g lams (vX P w g base N x st f cdv A outer s H E) fun cls d _ H' => E cls d H') (L2.defBody st) m) : CalV P w base g lams (k + 1) x ps (callV N.length ps.length m) := by
  obtain ⟨f, fd, hm, F⟩ := D.ex
  exact ⟨f, fd, hm, F.kp, F.binds hb, fnv_of F S bt fun f cdv A outer s H E _ F0 => hbody f cdv A outer s H E F0⟩
theorem calm_of (D : MakerAt base g x st) (S : FnScope N ps (L2.defScope st)) (hb : HB x st ps) (bt : Bt g.mg)
    (hbody : ∀ (f c Pt : Addr) (A : Around) (outer : List Env) (s : Shared) (H : Hp) (E : XK), TabB base g.mg c Pt → (Pt, (x ++ ".<locals>.") ++ "<lambda>") ∈ g.T → (∀ p ∈ g.T, p.1 = Pt → p.2 = (x ++ ".<locals>.") ++ "<lambda>") →
      Fs (vX P w g base N x st f (.ref c) A outer s H E) (jV g lams (vX P w g base N x st f (.ref c) A outer s H E) fun cls d _ H' => E cls d H') k →
      VSs (vX P w g base N x st f (.ref c) A outer s H E) (jV g lams (vX P w g base N x st f (.ref c) A outer s H E) fun cls d _ H' => E cls d H') (L2.defBody st) m) : CalV P w base g lams (k + 1) x ps (callV N.length ps.length m) := by
  obtain ⟨f, fd, c, Pt, hm, F, hcd, tb, h1, h2⟩ := D.ex
  refine ⟨f, fd, hm, F.kp, F.binds hb, fnv_of F S bt fun f cdv A outer s H E e F0 => ?_⟩
  rw [hcd] at e
  subst e
  exact hbody f c Pt A outer s H E tb h1 h2 F0
end
section
variable {X : Cx} {J : Jc} {k : Nat} {lams : Lams} {L : Lam} {js : List Nat}
def capB (sc : Scope) (N : List Str) (L : Lam) (js : List Nat) : Bool :=
  L.scope.names.all (fun y => !decide (y.2 = .free) || decide (sc.names.lookup y.1 = some .cell)) && L.caps.all (fun y => L.scope.names.contains (y, NameKind.free)) && decide (js.map (fun j => N[j]?) = L.caps.map some)
theorem cap_by (h : capB X.env.scope X.N L js = true) (hfn : ∀ y, X.fn y = true := by intro _; rfl) : CapOk X L js := by
  unfold capB at h
  simp only [Bool.and_eq_true, List.all_eq_true, Bool.or_eq_true, Bool.not_eq_true', decide_eq_true_eq, decide_eq_false_iff_not] at h
  obtain ⟨⟨h1, h2⟩, h3⟩ := h
  refine ⟨fun y hy e => (h1 y hy).elim (fun z => absurd e z) id, fun y hy => ?_, h3, fun y _ => hfn y⟩
  have := h2 y hy
  simpa using this
theorem ct_nil : CapTOk lams X [] := fun i js L h => by cases h
theorem ct_cons {i : Nat} {caps : CapT} (hL : lams i = some L) (h : CapOk X L js) (t : CapTOk lams X caps) : CapTOk lams X ((i, js) :: caps) := fun i' js' L' h1 h2 => by
  by_cases hi : i' = i
  · subst hi
    rw [List.lookup_cons_self] at h1
    cases h1
    rw [hL] at h2
    cases h2
    exact h
  · have : (i' == i) = false := by simpa using hi
    rw [List.lookup_cons, this] at h1
    exact t i' js' L' h1 h2
end
end VL

namespace VL
open PySem PySem.Spec PyProof.Rows L2 LamX
theorem lamfree_by {sc scope : Scope} (h : (scope.names.all fun y => !decide (y.2 = .free) || decide (sc.names.lookup y.1 = some .cell)) = true) : ∀ y ∈ scope.names, y.2 = .free → sc.names.lookup y.1 = some .cell := fun y hy e => by
  have := List.all_eq_true.mp h y hy
  simp only [Bool.or_eq_true, Bool.not_eq_true', decide_eq_true_eq, decide_eq_false_iff_not] at this
  exact this.elim (fun z => absurd e z) id
theorem nm_by {X : Cx} {x : Str} {CL : Addr} (h : X.mg x = some (.ref CL)) (hg : Gl X x := by rfl) (hd : (x == ("__debug__" : Str)) = false := by decide) : Names X x (.ref CL) := ⟨hg, hd, .inl h⟩
theorem Fx.tr {X : Cx} {J : Jc} {k : Nat} {pn : List (Addr × Obj)} {xe : Value → Shared → Prop} {W : WX} (F : Fx X J k) (tk : Takes (X.tr pn xe) W) : Fx (X.tr pn xe) { J with W := W } k :=
  ⟨⟨F.F.K, F.F.mg, F.F.bs, tk, F.F.room, F.F.gd, F.F.calm⟩, F.bt, F.nd⟩
/-- the class of an except clause: every known exception is its -/
structure CatC (g : Gx) (exs : List Str) (c : Str) : Prop where
  ex : ∃ CL : Addr, g.mg c = some (.ref CL) ∧ ∀ y C, exs.contains y = true → g.mg y = some (.ref C) → PySem.W.exmOne g.K (.ref C) (.ref CL) = some true
section
variable {X : Cx} {J : Jc}
theorem f_tup {es : List Expr} {is : List Nat} {u : TGs} {j : Nat} {p : Pos} (hc : X.calm = true) (hK : J.g.K = X.K) (ht : TNames X es is u) (hn : (assignEach es X.env).length = is.length := by rfl) (hst : (assignEach es X.env).findIdx? (·.1) = none := by rfl) :
    PG X (.Tuple es j p) (gTup X.K is.length u) ∧ BdE X J (gTup X.K is.length u) (eTup is) := ⟨pg_tup hc (tn_pgs ht) hn hst, be_tup ht hK⟩
theorem vs_for2 {tg iter : Expr} {body : List Stmt} {mi : MA} {mb : MS} {g : TG} {bind : D → En → Option En} {pos : Pos} (hp : PassesOwn (model X.prog X.w) X.A X.env X.xe) (hc : X.calm = true) (hi : VI X J tg iter mi) (hg : PG X tg g ∧ BdE X J g bind) (hb : VSs X J body mb)
    (hs : ∀ x, foldedSetIterable iter X.env x = pure x := by intro _; rfl) : VS X J (.For tg iter body [] pos) (sFor bind mi mb) := vs_for hp hc hi hg.1 hg.2 hb hs
end
end VL

namespace VL
open PySem PySem.Spec PyProof.Rows L2 LamX
/-! ### reckoning with mirrors: every piece at its arguments -/
section
variable {α β : Type} {vw : Vw} {env : En} {p : P3}
@[simp] theorem bind_ok (a : α) (p : P3) (f : α → P3 → Res β) : (Res.ok a p).bind f = f a p := rfl
@[simp] theorem bind_err (x : Str) (v : D) (p : P3) (f : α → P3 → Res β) : (Res.err x v p : Res α).bind f = .err x v p := rfl
@[simp] theorem bind_bad (f : α → P3 → Res β) : (Res.bad : Res α).bind f = .bad := rfl
@[simp] theorem bind_bind {γ : Type} (r : Res α) (f : α → P3 → Res β) (g : β → P3 → Res γ) : (r.bind f).bind g = r.bind fun a p => (f a p).bind g := by cases r <;> rfl
@[simp] theorem bind_ite (c : Prop) [Decidable c] (a b : Res α) (f : α → P3 → Res β) : (if c then a else b).bind f = if c then a.bind f else b.bind f := by split <;> rfl
@[simp] theorem ofO_some (a : α) (p : P3) : ofO (some a) p = .ok a p := rfl
@[simp] theorem ofO_none (p : P3) : ofO (none : Option α) p = .bad := rfl
@[simp] theorem ofO_ite (c : Prop) [Decidable c] (a b : Option α) (p : P3) : ofO (if c then a else b) p = if c then ofO a p else ofO b p := by split <;> rfl
@[simp] theorem ev_var0 (d : D) (vs : Vw) : mVar 0 (some d :: vs) p = .ok d p := rfl
@[simp] theorem ev_varS (i : Nat) (o : Option D) (vs : Vw) : mVar (i + 1) (o :: vs) p = mVar i vs p := by simp [mVar]
@[simp] theorem ev_c (d : D) : mC d vw p = .ok d p := rfl
@[simp] theorem ev_nil : mNil vw p = .ok [] p := rfl
@[simp] theorem ev_cons (m : ME) (ms : MA) : mCons m ms vw p = (m vw p).bind fun d p1 => (ms vw p1).bind fun ds p2 => .ok (d :: ds) p2 := rfl
def starOn (k : P3 → Res (List D)) : D → P3 → Res (List D) := fun d p1 => match d with
  | .tup xs => (k p1).bind fun ds p2 => .ok (xs ++ ds) p2
  | .lst xs => (k p1).bind fun ds p2 => .ok (xs ++ ds) p2
  | _ => .bad
@[simp] theorem ev_star (m : ME) (ms : MA) : mStar m ms vw p = (m vw p).bind (starOn (ms vw)) := rfl
@[simp] theorem starOn_tup (k : P3 → Res (List D)) (xs : List D) : starOn k (.tup xs) p = (k p).bind fun ds p2 => .ok (xs ++ ds) p2 := rfl
@[simp] theorem starOn_lst (k : P3 → Res (List D)) (xs : List D) : starOn k (.lst xs) p = (k p).bind fun ds p2 => .ok (xs ++ ds) p2 := rfl
@[simp] theorem ev_m1 (f : D → Option D) (m : ME) : m1 f m vw p = (m vw p).bind fun d p1 => ofO (f d) p1 := rfl
@[simp] theorem ev_m2 (f : D → D → Option D) (a b : ME) : m2 f a b vw p = (a vw p).bind fun x p1 => (b vw p1).bind fun y p2 => ofO (f x y) p2 := rfl
@[simp] theorem ev_mN (f : List D → Option D) (ms : MA) : mN f ms vw p = (ms vw p).bind fun ds p1 => ofO (f ds) p1 := rfl
@[simp] theorem ev_mNL (f : List D → Option (List D)) (ms : MA) : mNL f ms vw p = (ms vw p).bind fun ds p1 => ofO (f ds) p1 := rfl
@[simp] theorem ev_lst (m : MA) : mLst m vw p = (m vw p).bind fun ds p1 => .ok (.lst ds) p1 := rfl
@[simp] theorem ev_lenOk (m : MA) : lenOk m vw p = (m vw p).bind fun ds p1 => if ds.length ≤ sizeLine then .ok ds p1 else .bad := rfl
@[simp] theorem ev_tup (m : MA) : mTup m vw p = (m vw p).bind fun ds p1 => if ds.length ≤ sizeLine then .ok (.tup ds) p1 else .bad := rfl
def asB : D → P3 → Res Bool := fun d p1 => match d with
  | .bl b => .ok b p1
  | _ => .bad
@[simp] theorem asB_bl (b : Bool) (p : P3) : asB (.bl b) p = .ok b p := rfl
@[simp] theorem ev_toB (m : ME) : toB m vw p = (m vw p).bind asB := rfl
@[simp] theorem ev_bAnd (m n : MB) : bAnd m n vw p = (m vw p).bind fun k p1 => if k = true then n vw p1 else .ok false p1 := rfl
@[simp] theorem ev_bOr (m n : MB) : bOr m n vw p = (m vw p).bind fun k p1 => if k = true then .ok true p1 else n vw p1 := rfl
@[simp] theorem ev_bNot (m : MB) : bNot m vw p = (m vw p).bind fun k p1 => .ok (!k) p1 := rfl
@[simp] theorem ev_mAnd (m n : ME) : mAnd m n vw p = (m vw p).bind fun d p0 => (asB d p0).bind fun k p1 => if k = true then n vw p1 else .ok (.bl false) p1 := by
  show (Res.bind ((m vw p).bind asB) _) = _; rw [bind_bind]
@[simp] theorem ev_mOr (m n : ME) : mOr m n vw p = (m vw p).bind fun d p0 => (asB d p0).bind fun k p1 => if k = true then .ok (.bl true) p1 else n vw p1 := by
  show (Res.bind ((m vw p).bind asB) _) = _; rw [bind_bind]
@[simp] theorem ev_mNot (m : ME) : mNot m vw p = (m vw p).bind fun d p0 => (asB d p0).bind fun k p1 => .ok (.bl (!k)) p1 := by
  show (Res.bind ((m vw p).bind asB) _) = _; rw [bind_bind]
@[simp] theorem ev_mIf (t : MB) (m n : ME) : mIf t m n vw p = (t vw p).bind fun k p1 => if k = true then m vw p1 else n vw p1 := rfl
@[simp] theorem ite_okD_and (c : Prop) [Decidable c] (b : Bool) (p : P3) : (if c then Res.ok (D.bl b) p else Res.ok (D.bl false) p) = Res.ok (D.bl (decide c && b)) p := by split <;> simp [*]
@[simp] theorem ite_okD_or (c : Prop) [Decidable c] (b : Bool) (p : P3) : (if c then Res.ok (D.bl true) p else Res.ok (D.bl b) p) = Res.ok (D.bl (decide c || b)) p := by split <;> simp [*]
@[simp] theorem ite_okB_and (c : Prop) [Decidable c] (b : Bool) (p : P3) : (if c then Res.ok b p else Res.ok false p) = Res.ok (decide c && b) p := by split <;> simp [*]
@[simp] theorem ite_okB_or (c : Prop) [Decidable c] (b : Bool) (p : P3) : (if c then Res.ok true p else Res.ok b p) = Res.ok (decide c || b) p := by split <;> simp [*]
def chainOn (g : D → D → Option D) (k : P3 → Res D) (y : D) : Option D → P3 → Res D := fun o p2 => match o with
  | some (.bl true) => (k p2).bind fun z p3 => ofO (g y z) p3
  | some (.bl false) => .ok (.bl false) p2
  | _ => .bad
@[simp] theorem ev_chain (f g : D → D → Option D) (a b c : ME) : mChain f g a b c vw p = (a vw p).bind fun x p1 => (b vw p1).bind fun y p2 => chainOn g (c vw) y (f x y) p2 := rfl
@[simp] theorem chainOn_bl (g : D → D → Option D) (k : P3 → Res D) (y : D) (b : Bool) : chainOn g k y (some (.bl b)) p = if b = true then (k p).bind fun z p3 => ofO (g y z) p3 else .ok (.bl false) p := by cases b <;> rfl
@[simp] theorem ev_call (mf : List D → P3 → Res D) (ms : MA) : mCall mf ms vw p = (ms vw p).bind mf := rfl
@[simp] theorem ev_callN (mf : List D → P3 → Res (List D)) (ms : MA) : mCallN mf ms vw p = (ms vw p).bind mf := rfl
def isiOn (T : String) : D → P3 → Res D := fun d p1 => match d.ty with
  | some t => ofO ((kitB t T).map D.bl) p1
  | none => .bad
@[simp] theorem ev_isi (T : String) (m : ME) : mIsi T m vw p = (m vw p).bind (isiOn T) := rfl
def slOnO : D → P3 → Res (Option Int) := fun d p1 => match d with
  | .int i => .ok (some i) p1
  | _ => .bad
@[simp] theorem slOnO_int (i : Int) : slOnO (.int i) p = .ok (some i) p := rfl
@[simp] theorem ev_oNo : oNo vw p = .ok none p := rfl
@[simp] theorem ev_oSome (m : ME) : oSome m vw p = (m vw p).bind slOnO := rfl
@[simp] theorem ev_sl (m : ME) (l h : MO) : mSl m l h vw p = (m vw p).bind fun d p1 => (l vw p1).bind fun lo p2 => (h vw p2).bind fun hi p3 => ofO (d.slice lo hi) p3 := rfl
def iterOn : D → P3 → Res (List D) := fun d p1 => match d with
  | .lst ds => .ok ds p1
  | .tup ds => .ok ds p1
  | .scr ns => .ok (ns.map D.int) p1
  | .rng lo hi => if rgOk lo hi then .ok (irange lo hi) p1 else .bad
  | _ => .bad
@[simp] theorem ev_iter (m : ME) : mIter m vw p = (m vw p).bind iterOn := rfl
@[simp] theorem iterOn_lst (ds : List D) : iterOn (.lst ds) p = .ok ds p := rfl
@[simp] theorem iterOn_tup (ds : List D) : iterOn (.tup ds) p = .ok ds p := rfl
@[simp] theorem iterOn_rng (lo hi : Int) : iterOn (.rng lo hi) p = if rgOk lo hi then .ok (irange lo hi) p else .bad := rfl
def range1On : List D → P3 → Res (List D) := fun ds p1 => match ds with
  | [.int hi] => if rgOk 0 hi then .ok (irange 0 hi) p1 else .bad
  | _ => .bad
def range2On : List D → P3 → Res (List D) := fun ds p1 => match ds with
  | [.int lo, .int hi] => if rgOk lo hi then .ok (irange lo hi) p1 else .bad
  | _ => .bad
@[simp] theorem ev_range1 (ms : MA) : mRange1 ms vw p = (ms vw p).bind range1On := rfl
@[simp] theorem ev_range2 (ms : MA) : mRange2 ms vw p = (ms vw p).bind range2On := rfl
@[simp] theorem range1On_int (hi : Int) : range1On [.int hi] p = if rgOk 0 hi then .ok (irange 0 hi) p else .bad := rfl
@[simp] theorem range2On_int (lo hi : Int) : range2On [.int lo, .int hi] p = if rgOk lo hi then .ok (irange lo hi) p else .bad := rfl
def zip2On : List D → P3 → Res (List D) := fun ds p1 => match ds with
  | [a, b] => match a.items, b.items with
    | some xs, some ys => szOk (zip2 xs ys) p1
    | _, _ => .bad
  | _ => .bad
def zip3On : List D → P3 → Res (List D) := fun ds p1 => match ds with
  | [a, b, c] => match a.items, b.items, c.items with
    | some xs, some ys, some zs => szOk (zip3 xs ys zs) p1
    | _, _, _ => .bad
  | _ => .bad
@[simp] theorem ev_zip2 (ms : MA) : mZip2 ms vw p = (ms vw p).bind zip2On := rfl
@[simp] theorem ev_zip3 (ms : MA) : mZip3 ms vw p = (ms vw p).bind zip3On := rfl
theorem zip2On_ok {a b : D} {xs ys : List D} (ha : a.items = some xs) (hb : b.items = some ys) (hl : (zip2 xs ys).length ≤ sizeLine) : zip2On [a, b] p = .ok (zip2 xs ys) p := by
  simp [zip2On, ha, hb, szOk, hl]
theorem zip3On_ok {a b c : D} {xs ys zs : List D} (ha : a.items = some xs) (hb : b.items = some ys) (hc : c.items = some zs) (hl : (zip3 xs ys zs).length ≤ sizeLine) : zip3On [a, b, c] p = .ok (zip3 xs ys zs) p := by
  simp [zip3On, ha, hb, hc, szOk, hl]
@[simp] theorem ev_lc (vs : List Nat) (bind : D → Vw → Option Vw) (mi : MA) (mt : MB) (me : ME) : mLc vs bind mi mt me vw p = (mi vw p).bind fun ds p1 => lcGo bind mt me (wipeV vw vs) ds p1 := rfl
@[simp] theorem ev_bTrue : bTrue vw p = .ok true p := rfl
/-! statements -/
@[simp] theorem bindS_nx (env : En) (p : P3) (f : MS) : (Res.ok (Fl.nx, env) p).bindS f = f env p := rfl
@[simp] theorem bindS_ret (d : D) (env : En) (p : P3) (f : MS) : (Res.ok (Fl.ret d, env) p).bindS f = .ok (.ret d, env) p := rfl
@[simp] theorem bindS_bk (env : En) (p : P3) (f : MS) : (Res.ok (Fl.bk, env) p).bindS f = .ok (.bk, env) p := rfl
@[simp] theorem bindS_ct (env : En) (p : P3) (f : MS) : (Res.ok (Fl.ct, env) p).bindS f = .ok (.ct, env) p := rfl
@[simp] theorem bindS_err (x : Str) (v : D) (p : P3) (f : MS) : (Res.err x v p).bindS f = .err x v p := rfl
@[simp] theorem bindS_bad (f : MS) : Res.bindS .bad f = .bad := rfl
@[simp] theorem bindS_ite (c : Prop) [Decidable c] (a b : Res (Fl × En)) (f : MS) : (if c then a else b).bindS f = if c then a.bindS f else b.bindS f := by split <;> rfl
@[simp] theorem bindS_bind (r : Res α) (g : α → P3 → Res (Fl × En)) (f : MS) : (r.bind g).bindS f = r.bind fun a p => (g a p).bindS f := by cases r <;> rfl
@[simp] theorem ev_seq (m n : MS) : sSeq m n env p = (m env p).bindS n := rfl
@[simp] theorem ev_sNil : sNil env p = .ok (.nx, env) p := rfl
@[simp] theorem ev_sPass : sPass env p = .ok (.nx, env) p := rfl
@[simp] theorem vwOf_nil : vwOf [] = [] := rfl
def seeO : Option Sl → Option D := fun o => match o with
  | some (.p d) => some d
  | _ => none
@[simp] theorem vwOf_cons (o : Option Sl) (env : En) : vwOf (o :: env) = seeO o :: vwOf env := rfl
@[simp] theorem seeO_p (d : D) : seeO (some (.p d)) = some d := rfl
@[simp] theorem seeO_l (ds : List D) : seeO (some (.l ds)) = none := rfl
@[simp] theorem seeO_n : seeO none = none := rfl
theorem vwOf_p (d : D) (env : En) : vwOf (some (.p d) :: env) = some d :: vwOf env := rfl
theorem vwOf_l (ds : List D) (env : En) : vwOf (some (.l ds) :: env) = none :: vwOf env := rfl
theorem vwOf_n (env : En) : vwOf (none :: env) = none :: vwOf env := rfl
@[simp] theorem setE_0 (o : Option Sl) (env : En) (s : Sl) : setE (o :: env) 0 s = some s :: env := rfl
@[simp] theorem setE_S (o : Option Sl) (env : En) (i : Nat) (s : Sl) : setE (o :: env) (i + 1) s = o :: setE env i s := rfl
@[simp] theorem wipeV_nil (vw : Vw) : wipeV vw [] = vw := rfl
@[simp] theorem wipeV_cons (vw : Vw) (v : Nat) (vs : List Nat) : wipeV vw (v :: vs) = (wipeV vw vs).set v none := rfl
@[simp] theorem frzE_nil (env : En) : frzE [] env = some env := rfl
def frzOn (i : Nat) (is : List Nat) (env : En) : Option (Option Sl) → Option En := fun o => match o with
  | some (some (.l ds)) => frzE is (setE env i (.p (.lst ds)))
  | _ => none
@[simp] theorem frzE_cons (i : Nat) (is : List Nat) (env : En) : frzE (i :: is) env = frzOn i is env env[i]? := rfl
@[simp] theorem frzOn_l (i : Nat) (is : List Nat) (env : En) (ds : List D) : frzOn i is env (some (some (.l ds))) = frzE is (setE env i (.p (.lst ds))) := rfl
theorem onV_bind (m : ME) (k : D → En → P3 → Res (Fl × En)) : onV m k env p = (m (vwOf env) p).bind fun d p1 => k d env p1 := by
  unfold onV; cases m (vwOf env) p <;> rfl
theorem onN_bind (m : MA) (k : List D → En → P3 → Res (Fl × En)) : onN m k env p = (m (vwOf env) p).bind fun d p1 => k d env p1 := by
  unfold onN; cases m (vwOf env) p <;> rfl
def onEnv (o : Option En) (k : En → Res (Fl × En)) : Res (Fl × En) := match o with
  | none => .bad
  | some e => k e
@[simp] theorem onEnv_some (e : En) (k : En → Res (Fl × En)) : onEnv (some e) k = k e := rfl
@[simp] theorem onX_nil (m : ME) (k : D → En → P3 → Res (Fl × En)) : onX [] m k env p = (m (vwOf env) p).bind fun d p1 => k d env p1 := onV_bind m k
@[simp] theorem onX_cons (i : Nat) (is : List Nat) (m : ME) (k : D → En → P3 → Res (Fl × En)) : onX (i :: is) m k env p = onEnv (frzE (i :: is) env) fun envf => (m (vwOf envf) p).bind fun d p1 => if d.noL = true then k d env p1 else .bad := by
  show onB (i :: is) m k env p = _
  unfold onB onEnv
  cases frzE (i :: is) env with
  | none => rfl
  | some e => dsimp only; cases m (vwOf e) p <;> rfl
@[simp] theorem onXN_nil (m : MA) (k : List D → En → P3 → Res (Fl × En)) : onXN [] m k env p = (m (vwOf env) p).bind fun d p1 => k d env p1 := onN_bind m k
@[simp] theorem onXN_cons (i : Nat) (is : List Nat) (m : MA) (k : List D → En → P3 → Res (Fl × En)) : onXN (i :: is) m k env p = onEnv (frzE (i :: is) env) fun envf => (m (vwOf envf) p).bind fun d p1 => if D.noLs d = true then k d env p1 else .bad := by
  show (match frzE (i :: is) env with | none => _ | some envf => _) = _
  unfold onEnv
  cases frzE (i :: is) env with
  | none => rfl
  | some e => dsimp only; cases m (vwOf e) p <;> rfl
@[simp] theorem ev_xIf (is : List Nat) (c : MB) (m n : MS) : xIf is c m n env p = onEnv (frzE is env) fun envf => (c (vwOf envf) p).bind fun k p1 => if k = true then m env p1 else n env p1 := by
  unfold xIf onEnv
  cases frzE is env with
  | none => rfl
  | some e =>
    dsimp only
    cases c (vwOf e) p with
    | ok k p1 => cases k <;> rfl
    | err x v p1 => rfl
    | bad => rfl
@[simp] theorem ev_sRet (m : ME) : sRet m env p = (m (vwOf env) p).bind fun d p1 => .ok (.ret d, env) p1 := onV_bind m _
@[simp] theorem ev_sRetN : sRetN env p = .ok (.ret .non, env) p := rfl
@[simp] theorem ev_xRet (is : List Nat) (m : ME) : xRet is m env p = onX is m (fun d env p => .ok (.ret d, env) p) env p := rfl
@[simp] theorem ev_xExpr (is : List Nat) (m : ME) : xExpr is m env p = onX is m (fun _ env p => .ok (.nx, env) p) env p := rfl
@[simp] theorem ev_xSet (is : List Nat) (i : Nat) (m : ME) : xSet is i m env p = onX is m (fun d env p => .ok (.nx, setE env i (.p d)) p) env p := rfl
@[simp] theorem ev_xNew (is : List Nat) (i : Nat) (m : MA) : xNew is i m env p = onXN is m (fun d env p => .ok (.nx, setE env i (.l d)) p) env p := rfl
@[simp] theorem ev_sNew (i : Nat) (m : MA) : sNew i m env p = (m (vwOf env) p).bind fun ds p1 => .ok (.nx, setE env i (.l ds)) p1 := onN_bind m _
@[simp] theorem ev_xRaise (is : List Nat) (x : Str) (m : ME) : xRaise is x m env p = onX is m (fun d _ p => .err x d p) env p := rfl
def putOn (js : List Nat) : D → En → P3 → Res (Fl × En) := fun d env p => match d with
  | .tup ds => match putAll js ds env with
    | some env' => .ok (.nx, env') p
    | none => .bad
  | _ => .bad
@[simp] theorem ev_xTup (is js : List Nat) (m : ME) : xTup is js m env p = onX is m (putOn js) env p := rfl
def putR (o : Option En) (p : P3) : Res (Fl × En) := match o with
  | some env' => .ok (.nx, env') p
  | none => .bad
@[simp] theorem putR_some (e : En) : putR (some e) p = .ok (.nx, e) p := rfl
@[simp] theorem putOn_tup (js : List Nat) (ds : List D) : putOn js (.tup ds) env p = putR (putAll js ds env) p := rfl
@[simp] theorem putAll_nil : putAll [] [] env = some env := rfl
@[simp] theorem putAll_cons (i : Nat) (is : List Nat) (d : D) (ds : List D) : putAll (i :: is) (d :: ds) env = putAll is ds (setE env i (.p d)) := rfl
def frzS (i : Nat) (m : MS) (env : En) (p : P3) : Option (Option Sl) → Res (Fl × En) := fun o => match o with
  | some (some (.l ds)) => m (setE env i (.p (.lst ds))) p
  | _ => .bad
@[simp] theorem ev_freeze (i : Nat) (m : MS) : sFreeze i m env p = frzS i m env p env[i]? := rfl
@[simp] theorem frzS_l (i : Nat) (m : MS) (ds : List D) : frzS i m env p (some (some (.l ds))) = m (setE env i (.p (.lst ds))) p := rfl
def appOn (i : Nat) (f : List D → D → Option (List D)) (d : D) (env : En) (p : P3) : Option (Option Sl) → Res (Fl × En) := fun o => match o with
  | some (some (.l ds)) => match f ds d with
    | some ds' => .ok (.nx, setE env i (.l ds')) p
    | none => .bad
  | _ => .bad
def withOn (k : List D → Res (Fl × En)) : Option (Option Sl) → Res (Fl × En) := fun o => match o with
  | some (some (.l ds)) => k ds
  | _ => .bad
@[simp] theorem withOn_l (k : List D → Res (Fl × En)) (ds : List D) : withOn k (some (some (.l ds))) = k ds := rfl
def stOn (i : Nat) (env : En) (p : P3) : Option (List D) → Res (Fl × En) := fun o => match o with
  | some ds' => .ok (.nx, setE env i (.l ds')) p
  | none => .bad
@[simp] theorem stOn_some (i : Nat) (ds : List D) : stOn i env p (some ds) = .ok (.nx, setE env i (.l ds)) p := rfl
@[simp] theorem appOn_l (i : Nat) (f : List D → D → Option (List D)) (d : D) (ds : List D) : appOn i f d env p (some (some (.l ds))) = stOn i env p (f ds d) := rfl
@[simp] theorem ev_xOwn (is : List Nat) (i : Nat) (f : List D → D → Option (List D)) (m : ME) : xOwn is i f m env p = withOn (fun _ => onX is m (fun d env p => appOn i f d env p env[i]?) env p) env[i]? := rfl
@[simp] theorem ev_xApp (is : List Nat) (i : Nat) (m : ME) : xApp is i m env p = xOwn is i fApp m env p := rfl
@[simp] theorem ev_xExt (is : List Nat) (i : Nat) (m : ME) : xExt is i m env p = xOwn is i fExt m env p := rfl
theorem fApp_ok {ds : List D} {d : D} (h : ds.length < sizeLine) : fApp ds d = some (ds ++ [d]) := if_pos h
theorem fExt_ok {ds zs : List D} (h : ds.length + zs.length ≤ sizeLine) : fExt ds (.lst zs) = some (ds ++ zs) := if_pos h
@[simp] theorem ev_for (bind : D → En → Option En) (mi : MA) (mb : MS) : sFor bind mi mb env p = (mi (vwOf env) p).bind fun ds p1 => forL bind mb ds env p1 := by
  unfold sFor; cases mi (vwOf env) p <;> rfl
@[simp] theorem outF_ret (d : D) (env : En) (p : P3) : outF (.ok (.ret d, env) p) = .ok d p := rfl
@[simp] theorem outF_nx (env : En) (p : P3) : outF (.ok (.nx, env) p) = .ok .non p := rfl
@[simp] theorem outF_err (x : Str) (v : D) (p : P3) : outF (.err x v p) = .err x v p := rfl
@[simp] theorem outF_bad : outF .bad = .bad := rfl
@[simp] theorem outF_ite (c : Prop) [Decidable c] (a b : Res (Fl × En)) : outF (if c then a else b) = if c then outF a else outF b := by split <;> rfl
@[simp] theorem outF_bind (r : Res α) (f : α → P3 → Res (Fl × En)) : outF (r.bind f) = r.bind fun a p => outF (f a p) := by cases r <;> rfl
@[simp] theorem ev_callF (n np : Nat) (m : MS) (ds : List D) : callF n np m ds p = if ds.length = np then outF (m (env0 n ds) p) else .bad := rfl
theorem callF_ok {n np : Nat} {m : MS} {ds : List D} (h : ds.length = np) : callF n np m ds p = outF (m (env0 n ds) p) := if_pos h
@[simp] theorem par_nil : evs [] env p = .ok [] p := rfl
@[simp] theorem par_inl (is : List Nat) (m : ME) (es : List El) : evs (.inl (is, m) :: es) env p = (evV is m env p).bind fun d p1 => (evs es env p1).bind fun sl p2 => .ok (.p d :: sl) p2 := rfl
@[simp] theorem par_inr (m : MA) (es : List El) : evs (.inr m :: es) env p = (m (vwOf env) p).bind fun ds p1 => (evs es env p1).bind fun sl p2 => .ok (.l ds :: sl) p2 := rfl
@[simp] theorem evV_nil (m : ME) : evV [] m env p = m (vwOf env) p := rfl
@[simp] theorem ev_par (is : List Nat) (ls : List El) : sPar is ls env p = (evs ls env p).bind fun sls p' => .ok (.nx, setAll is sls env) p' := by
  unfold sPar; cases evs ls env p <;> rfl
@[simp] theorem setAll_cons (i : Nat) (is : List Nat) (s : Sl) (ss : List Sl) : setAll (i :: is) (s :: ss) env = setAll is ss (setE env i s) := rfl
@[simp] theorem setAll_nil (ss : List Sl) : setAll [] ss env = env := rfl
@[simp] theorem eName_ev (i : Nat) (d : D) : eName i d env = some (setE env i (.p d)) := rfl
@[simp] theorem eTup_ev (is : List Nat) (ds : List D) : eTup is (.tup ds) env = putAll is ds env := rfl
@[simp] theorem bName_ev (i : Nat) (d : D) : bName i d vw = some (vw.set i (some d)) := rfl
@[simp] theorem bTup_ev (is : List Nat) (ds : List D) : bTup is (.tup ds) vw = putV is ds vw := rfl
@[simp] theorem putV_nil : putV [] [] vw = some vw := rfl
@[simp] theorem putV_cons (i : Nat) (is : List Nat) (d : D) (ds : List D) : putV (i :: is) (d :: ds) vw = putV is ds (vw.set i (some d)) := rfl
end
/-! ### operations on data -/
@[simp] theorem add_int (a b : Int) : D.add (.int a) (.int b) = some (.int (a + b)) := rfl
@[simp] theorem sub_int (a b : Int) : D.sub (.int a) (.int b) = some (.int (a - b)) := rfl
@[simp] theorem usub_int (a : Int) : D.usub (.int a) = some (.int (-a)) := rfl
@[simp] theorem cmp_int (f : Int → Int → Bool) (a b : Int) : D.cmp f (.int a) (.int b) = some (.bl (f a b)) := rfl
@[simp] theorem isNone_ev (d : D) : D.isNone d = some (.bl d.isN) := rfl
@[simp] theorem notNone_ev (d : D) : D.notNone d = some (.bl (!d.isN)) := rfl
@[simp] theorem eq_str (a b : Str) : D.eq (.str a) (.str b) = some (.bl (a == b)) := rfl
@[simp] theorem ne_str (a b : Str) : D.ne (.str a) (.str b) = some (.bl (!(a == b))) := rfl
@[simp] theorem dLen_lst (ds : List D) : dLen [.lst ds] = some (.int (ds.length : Nat)) := rfl
@[simp] theorem dLen_tup (ds : List D) : dLen [.tup ds] = some (.int (ds.length : Nat)) := rfl
@[simp] theorem dLen_scr (ds : List Int) : dLen [.scr ds] = some (.int (ds.length : Nat)) := rfl
@[simp] theorem dAbs_int (i : Int) : dAbs [.int i] = some (.int (if i < 0 then -i else i)) := rfl
@[simp] theorem dInt_int (i : Int) : dInt [.int i] = some (.int i) := rfl
@[simp] theorem dInt_bl (b : Bool) : dInt [.bl b] = some (.int (if b then 1 else 0)) := rfl
@[simp] theorem dMax2_int (i j : Int) : dMax2 [.int i, .int j] = some (.int (if j > i then j else i)) := rfl
@[simp] theorem dMin2_int (i j : Int) : dMin2 [.int i, .int j] = some (.int (if j < i then j else i)) := rfl
@[simp] theorem dRange1_int (j : Int) : dRange [.int j] = some (.rng 0 j) := rfl
@[simp] theorem dRange2_int (i j : Int) : dRange [.int i, .int j] = some (.rng i j) := rfl
@[simp] theorem dTuple2_lst (ds : List D) : dTuple2 [.lst ds] = some (.tup ds) := rfl
@[simp] theorem dTuple2_tup (ds : List D) : dTuple2 [.tup ds] = some (.tup ds) := rfl
@[simp] theorem dTuple2_rng (lo hi : Int) : dTuple2 [.rng lo hi] = if rgOk lo hi then some (.tup (irange lo hi)) else none := rfl
@[simp] theorem dList2_lst (ds : List D) : dList2 [.lst ds] = some ds := rfl
@[simp] theorem dList2_tup (ds : List D) : dList2 [.tup ds] = some ds := rfl
@[simp] theorem dList2_rng (lo hi : Int) : dList2 [.rng lo hi] = if rgOk lo hi then some (irange lo hi) else none := rfl
@[simp] theorem dRepr_ev (d : D) : dRepr [d] = d.repr := rfl
@[simp] theorem slice_tup (ds : List D) (lo hi : Option Int) : D.slice (.tup ds) lo hi = some (.tup (cutL ds lo hi)) := rfl
@[simp] theorem slice_lst (ds : List D) (lo hi : Option Int) : D.slice (.lst ds) lo hi = some (.lst (cutL ds lo hi)) := rfl
@[simp] theorem rev_tup (ds : List D) : D.rev (.tup ds) = some (.tup ds.reverse) := rfl
@[simp] theorem rev_lst (ds : List D) : D.rev (.lst ds) = some (.lst ds.reverse) := rfl
@[simp] theorem items_lst (ds : List D) : D.items (.lst ds) = some ds := rfl
@[simp] theorem items_tup (ds : List D) : D.items (.tup ds) = some ds := rfl
@[simp] theorem ix_tup0 (d : D) (ds : List D) : D.ix (.tup (d :: ds)) (.int 0) = some d := by simp [D.ix, atI, ixN]
@[simp] theorem ix_lst0 (d : D) (ds : List D) : D.ix (.lst (d :: ds)) (.int 0) = some d := by simp [D.ix, atI, ixN]
theorem ix_tup (ds : List D) (i : Int) : D.ix (.tup ds) (.int i) = atI ds i := rfl
theorem ix_lst (ds : List D) (i : Int) : D.ix (.lst ds) (.int i) = atI ds i := rfl
theorem atI_nat {ds : List D} {i : Int} {j : Nat} {d : D} (h : i = j) (e : ds[j]? = some d) : atI ds i = some d := by
  obtain ⟨hj, e'⟩ := List.getElem?_eq_some_iff.mp e
  subst h
  simp [atI, ixN, hj, e']
@[simp] theorem ix_tup1 (a b : D) (ds : List D) : D.ix (.tup (a :: b :: ds)) (.int 1) = some b := atI_nat (j := 1) rfl rfl
@[simp] theorem ix_tup2 (a b c : D) (ds : List D) : D.ix (.tup (a :: b :: c :: ds)) (.int 2) = some c := atI_nat (j := 2) rfl rfl
@[simp] theorem ix_tup3 (a b c d : D) (ds : List D) : D.ix (.tup (a :: b :: c :: d :: ds)) (.int 3) = some d := atI_nat (j := 3) rfl rfl
@[simp] theorem ix_tup4 (a b c d e : D) (ds : List D) : D.ix (.tup (a :: b :: c :: d :: e :: ds)) (.int 4) = some e := atI_nat (j := 4) rfl rfl
@[simp] theorem ix_tup5 (a b c d e f : D) (ds : List D) : D.ix (.tup (a :: b :: c :: d :: e :: f :: ds)) (.int 5) = some f := atI_nat (j := 5) rfl rfl
@[simp] theorem ix_tup6 (a b c d e f g : D) (ds : List D) : D.ix (.tup (a :: b :: c :: d :: e :: f :: g :: ds)) (.int 6) = some g := atI_nat (j := 6) rfl rfl
@[simp] theorem ix_lst1 (a b : D) (ds : List D) : D.ix (.lst (a :: b :: ds)) (.int 1) = some b := atI_nat (j := 1) rfl rfl
theorem okMul_l {a b : Int} (h : -(2 ^ 64) < a) (h2 : a < 2 ^ 64) : okMul a b = true := by
  unfold okMul
  rw [decide_eq_true h, decide_eq_true h2]
  rfl
theorem okMul_r {a b : Int} (h : -(2 ^ 64) < b) (h2 : b < 2 ^ 64) : okMul a b = true := by
  unfold okMul
  rw [decide_eq_true h, decide_eq_true h2]
  simp
theorem mul_int {a b : Int} (h : okMul a b = true) : D.mul (.int a) (.int b) = some (.int (a * b)) := if_pos h
theorem okDiv_i {b : Int} (h : 0 < b) (h2 : b < 2 ^ 64) : okDiv b = true := by
  unfold okDiv
  have : b.natAbs.log2 < 9000 := by
    have h3 : b.natAbs < 2 ^ 64 := by omega
    by_cases h0 : b.natAbs = 0
    · rw [h0]; decide
    · exact Nat.lt_trans ((Nat.log2_lt h0).mpr h3) (by decide)
  simp [h, this]
theorem fdiv_int {a b : Int} (h : okDiv b = true) : D.fdiv (.int a) (.int b) = some (.int (a.fdiv b)) := if_pos h
theorem fmod_int {a b : Int} (h : b ≠ 0) : D.fmod (.int a) (.int b) = some (.int (a.fmod b)) := if_pos h
theorem rgOk_i {lo hi : Int} (h1 : -(2 ^ 62) ≤ lo) (h2 : hi < 2 ^ 62) (h3 : hi - lo ≤ 16777216) (h4 : lo ≤ hi) : rgOk lo hi = true := by
  unfold rgOk
  simp only [Bool.and_eq_true, decide_eq_true_eq]
  omega
end VL

namespace VL
open PySem PySem.Spec PyProof.Rows L2 LamX
/-! ### what can be shown: repr of own data -/
mutual
/-- a bound of the text's length -/
def D.sz : D → Nat
  | .non => 4
  | .bl _ => 5
  | .int i => i.natAbs.log2 + 3
  | .str x => 10 * x.length + 2
  | .tup ds => 3 + D.szs ds
  | .lst ds => 2 + D.szs ds
  | _ => 0
def D.szs : List D → Nat
  | [] => 0
  | d :: ds => d.sz + 2 + D.szs ds
end
/-- data that can be shown, of nesting at most n -/
def D.sh : Nat → D → Bool
  | _, .non | _, .bl _ => true
  | _, .int i => decide (i.natAbs.log2 < 1920)
  | _, .str x => PyData.strOk x
  | n + 1, .tup ds => ds.all (D.sh n)
  | n + 1, .lst ds => ds.all (D.sh n)
  | _, _ => false
@[simp] theorem sh_non (n : Nat) : D.sh n .non = true := by cases n <;> rfl
@[simp] theorem sh_bl (n : Nat) (b : Bool) : D.sh n (.bl b) = true := by cases n <;> rfl
@[simp] theorem sh_int (n : Nat) (i : Int) : D.sh n (.int i) = decide (i.natAbs.log2 < 1920) := by cases n <;> rfl
@[simp] theorem sh_str (n : Nat) (x : Str) : D.sh n (.str x) = PyData.strOk x := by cases n <;> rfl
@[simp] theorem sh_tup (n : Nat) (ds : List D) : D.sh (n + 1) (.tup ds) = ds.all (D.sh n) := rfl
@[simp] theorem sh_lst (n : Nat) (ds : List D) : D.sh (n + 1) (.lst ds) = ds.all (D.sh n) := rfl
theorem sh_mono : ∀ (n : Nat) (d : D), d.sh n = true → d.sh (n + 1) = true
  | 0, d, h => by cases d <;> simp_all [D.sh]
  | n + 1, d, h => by
    cases d with
    | tup ds =>
      simp only [sh_tup, List.all_eq_true] at h ⊢
      exact fun x hx => sh_mono n x (h x hx)
    | lst ds =>
      simp only [sh_lst, List.all_eq_true] at h ⊢
      exact fun x hx => sh_mono n x (h x hx)
    | _ => simpa [D.sh] using h
theorem sh_le {n m : Nat} {d : D} (h : d.sh n = true) (l : n ≤ m) : d.sh m = true := by
  induction m with
  | zero => rw [Nat.le_zero.mp l] at h; exact h
  | succ m ih =>
    by_cases e : n = m + 1
    · subst e; exact h
    · exact sh_mono m d (ih (by omega))
theorem sh_plain : ∀ (n : Nat) (d : D), d.sh n = true → d.plain n = true
  | n, .non, _ => by cases n <;> rfl
  | n, .bl _, _ => by cases n <;> rfl
  | n, .int _, _ => by cases n <;> rfl
  | n, .str x, h => by cases n <;> simpa [D.plain, D.sh] using h
  | n + 1, .tup ds, h => by
    simp only [D.plain, sh_tup, List.all_eq_true] at h ⊢
    exact fun x hx => sh_plain n x (h x hx)
  | n + 1, .lst ds, h => by
    simp only [D.plain, sh_lst, List.all_eq_true] at h ⊢
    exact fun x hx => sh_plain n x (h x hx)
  | 0, .tup _, h => by simp [D.sh] at h
  | 0, .lst _, h => by simp [D.sh] at h
  | n, .dct _, h => by cases n <;> simp [D.sh] at h
  | n, .glb _, h => by cases n <;> simp [D.sh] at h
  | n, .exc _ _, h => by cases n <;> simp [D.sh] at h
  | n, .clo _ _, h => by cases n <;> simp [D.sh] at h
  | n, .pot, h => by cases n <;> simp [D.sh] at h
  | n, .own _, h => by cases n <;> simp [D.sh] at h
  | n, .scr _, h => by cases n <;> simp [D.sh] at h
  | n, .rng _ _, h => by cases n <;> simp [D.sh] at h
theorem sha_of {l : List D} (h : ∀ d ∈ l, d.py.showable = true) : PyData.showableAll (D.pys l) = true := by
  induction l with
  | nil => rfl
  | cons d l ih =>
    simp only [D.pys, PyData.showableAll, Bool.and_eq_true]
    exact ⟨h d List.mem_cons_self, ih fun x hx => h x (List.mem_cons_of_mem _ hx)⟩
theorem sh_show : ∀ (n : Nat) (d : D), d.sh n = true → d.py.showable = true
  | n, .non, _ => rfl
  | n, .bl _, _ => rfl
  | n, .int _, h => by simpa [D.py, PyData.showable] using h
  | n, .str x, h => rfl
  | n + 1, .tup ds, h => by
    simp only [sh_tup, List.all_eq_true] at h
    exact sha_of fun d hd => sh_show n d (h d hd)
  | n + 1, .lst ds, h => by
    simp only [sh_lst, List.all_eq_true] at h
    exact sha_of fun d hd => sh_show n d (h d hd)
  | 0, .tup _, h => by simp [D.sh] at h
  | 0, .lst _, h => by simp [D.sh] at h
  | n, .dct _, h => by cases n <;> simp [D.sh] at h
  | n, .glb _, h => by cases n <;> simp [D.sh] at h
  | n, .exc _ _, h => by cases n <;> simp [D.sh] at h
  | n, .clo _ _, h => by cases n <;> simp [D.sh] at h
  | n, .pot, h => by cases n <;> simp [D.sh] at h
  | n, .own _, h => by cases n <;> simp [D.sh] at h
  | n, .scr _, h => by cases n <;> simp [D.sh] at h
  | n, .rng _ _, h => by cases n <;> simp [D.sh] at h
theorem piled_le {l : List D} (h : ∀ d ∈ l, d.py.shown.length ≤ d.sz) : piled (PyData.shownAll (D.pys l)) ≤ D.szs l := by
  induction l with
  | nil => exact Nat.le_refl _
  | cons d l ih =>
    simp only [D.pys, PyData.shownAll, piled_cons, D.szs]
    have h1 := h d List.mem_cons_self
    have h2 := ih fun x hx => h x (List.mem_cons_of_mem _ hx)
    omega
theorem listText_le (ts : List Str) : (listText ts).length ≤ 2 + piled ts := by
  unfold listText
  rw [strLen_append]
  have e : ((("]" : String) : Str)).length = 1 := by decide
  rw [e]
  cases ts with
  | nil => decide
  | cons t r =>
    show (textFrom 1 ((("[" : String) : Str) ++ ((if 0 > 0 then ", " else "" : String) : Str) ++ t) r).length + 1 ≤ _
    rw [textFrom_length_pos r 1 _ (by decide), strLen_append, strLen_append, piled_cons]
    have e1 : ((("[" : String) : Str)).length = 1 := by decide
    have e2 : (((if 0 > 0 then ", " else "" : String) : Str)).length = 0 := by decide
    omega
theorem tupleText_le (ts : List Str) : (tupleText ts).length ≤ 3 + piled ts := by
  unfold tupleText
  rw [strLen_append, strLen_append]
  have e1 : ((("(" : String) : Str)).length = 1 := by decide
  have e3 : (((if ts.length == 1 then ",)" else ")" : String) : Str)).length ≤ 2 := by split <;> decide
  by_cases h : ts = []
  · subst h
    have : (Str.join ", " []).length = 0 := rfl
    omega
  · have := join_length_add ts h
    omega
theorem shown_le : ∀ (n : Nat) (d : D), d.sh n = true → d.py.shown.length ≤ d.sz
  | n, .non, _ => by decide
  | n, .bl b, _ => by cases b <;> decide
  | n, .int i, h => by
    have := int_text_length_le (a := i) (k := i.natAbs.log2 + 1) (Nat.succ_pos _) (Nat.lt_succ_self _)
    show (Str.ofString (toString i)).length ≤ i.natAbs.log2 + 3
    rw [PySem.ofString_length]
    omega
  | n, .str x, h => by
    refine StrLaws.reprText_len x fun c hc => ?_
    have h' : PyData.strOk x = true := by simpa using h
    unfold PyData.strOk at h'
    rw [Array.all_eq_true'] at h'
    have := h' c (by simpa using hc)
    have h2 : c < 0x110000 := by simpa using this
    exact Nat.lt_trans h2 (by decide)
  | n + 1, .tup ds, h => by
    simp only [sh_tup, List.all_eq_true] at h
    have := piled_le fun d hd => shown_le n d (h d hd)
    show (tupleText (PyData.shownAll (D.pys ds))).length ≤ 3 + D.szs ds
    have := tupleText_le (PyData.shownAll (D.pys ds))
    omega
  | n + 1, .lst ds, h => by
    simp only [sh_lst, List.all_eq_true] at h
    have := piled_le fun d hd => shown_le n d (h d hd)
    show (listText (PyData.shownAll (D.pys ds))).length ≤ 2 + D.szs ds
    have := listText_le (PyData.shownAll (D.pys ds))
    omega
  | 0, .tup _, h => by simp [D.sh] at h
  | 0, .lst _, h => by simp [D.sh] at h
  | n, .dct _, h => by cases n <;> simp [D.sh] at h
  | n, .glb _, h => by cases n <;> simp [D.sh] at h
  | n, .exc _ _, h => by cases n <;> simp [D.sh] at h
  | n, .clo _ _, h => by cases n <;> simp [D.sh] at h
  | n, .pot, h => by cases n <;> simp [D.sh] at h
  | n, .own _, h => by cases n <;> simp [D.sh] at h
  | n, .scr _, h => by cases n <;> simp [D.sh] at h
  | n, .rng _ _, h => by cases n <;> simp [D.sh] at h
theorem repr_ok {d : D} (h : d.sh 60 = true) (hs : d.sz ≤ 16777216) : d.repr = some (.str d.py.shown) := by
  unfold D.repr
  have h1 := sh_plain 60 d h
  have h2 := sh_show 60 d h
  have h3 : d.py.shown.length ≤ sizeLine := Nat.le_trans (shown_le 60 d h) hs
  simp [h1, h2, h3]
/-- sizes of rows -/
theorem szs_le {l : List D} {m : Nat} (h : ∀ d ∈ l, d.sz ≤ m) : D.szs l ≤ l.length * (m + 2) := by
  induction l with
  | nil => simp [D.szs]
  | cons d l ih =>
    have h1 := h d List.mem_cons_self
    have h2 := ih fun x hx => h x (List.mem_cons_of_mem _ hx)
    simp only [D.szs, List.length_cons, Nat.succ_mul]
    omega
theorem log2_lt_of {n k : Nat} (hk : 0 < k) (h : n < 2 ^ k) : n.log2 < k := by
  by_cases h0 : n = 0
  · subst h0; simpa using hk
  · exact (Nat.log2_lt h0).mpr h
/-- a number that is not great -/
def Sm (i : Int) : Prop := -(2 ^ 62) < i ∧ i < 2 ^ 62
theorem Sm.log {i : Int} (h : Sm i) : i.natAbs.log2 < 62 := log2_lt_of (by decide) (by unfold Sm at h; omega)
theorem Sm.sh {i : Int} (h : Sm i) (n : Nat) : D.sh n (.int i) = true := by
  rw [sh_int]; exact decide_eq_true (Nat.lt_trans h.log (by decide))
theorem Sm.sz {i : Int} (h : Sm i) : D.sz (.int i) ≤ 64 := by have := h.log; simp only [D.sz]; omega
theorem Sm.mul {a b : Int} (h : Sm a) : D.mul (.int a) (.int b) = some (.int (a * b)) := mul_int (okMul_l (by unfold Sm at h; omega) (by unfold Sm at h; omega))
theorem Sm.mul' {a b : Int} (h : Sm b) : D.mul (.int a) (.int b) = some (.int (a * b)) := mul_int (okMul_r (by unfold Sm at h; omega) (by unfold Sm at h; omega))

/-! ### a mirror answers well -/
def Res.wp {α : Type} (r : Res α) (Q : α → P3 → Prop) : Prop := match r with
  | .ok a p => Q a p
  | _ => False
section
variable {α β : Type} {Q : α → P3 → Prop}
@[simp] theorem wp_ok (a : α) (p : P3) (Q : α → P3 → Prop) : (Res.ok a p).wp Q = Q a p := rfl
@[simp] theorem wp_bad (Q : α → P3 → Prop) : (Res.bad : Res α).wp Q = False := rfl
@[simp] theorem wp_err (x : Str) (v : D) (p : P3) (Q : α → P3 → Prop) : (Res.err x v p : Res α).wp Q = False := rfl
@[simp] theorem wp_bind (r : Res α) (f : α → P3 → Res β) (Q : β → P3 → Prop) : (r.bind f).wp Q = r.wp fun a p => (f a p).wp Q := by cases r <;> rfl
@[simp] theorem wp_ite (c : Prop) [Decidable c] (a b : Res α) (Q : α → P3 → Prop) : (if c then a else b).wp Q = if c then a.wp Q else b.wp Q := by split <;> rfl
def wpS (Q : Fl × En → P3 → Prop) (f : MS) : Fl × En → P3 → Prop
  | (.nx, env), p => (f env p).wp Q
  | fe, p => Q fe p
@[simp] theorem wp_bindS (r : Res (Fl × En)) (f : MS) (Q : Fl × En → P3 → Prop) : (r.bindS f).wp Q = r.wp (wpS Q f) := by
  cases r with
  | ok fe p =>
    obtain ⟨fl, env⟩ := fe
    cases fl <;> rfl
  | err x v p => rfl
  | bad => rfl
@[simp] theorem wpS_nx (Q : Fl × En → P3 → Prop) (f : MS) (env : En) (p : P3) : wpS Q f (.nx, env) p = (f env p).wp Q := rfl
@[simp] theorem wpS_ret (Q : Fl × En → P3 → Prop) (f : MS) (d : D) (env : En) (p : P3) : wpS Q f (.ret d, env) p = Q (.ret d, env) p := rfl
@[simp] theorem wpS_bk (Q : Fl × En → P3 → Prop) (f : MS) (env : En) (p : P3) : wpS Q f (.bk, env) p = Q (.bk, env) p := rfl
@[simp] theorem wpS_ct (Q : Fl × En → P3 → Prop) (f : MS) (env : En) (p : P3) : wpS Q f (.ct, env) p = Q (.ct, env) p := rfl
def wpF (Q : D → P3 → Prop) : Fl × En → P3 → Prop
  | (.ret d, _), p => Q d p
  | (.nx, _), p => Q .non p
  | _, _ => False
@[simp] theorem wp_outF (r : Res (Fl × En)) (Q : D → P3 → Prop) : (outF r).wp Q = r.wp (wpF Q) := by
  cases r with
  | ok fe p =>
    obtain ⟨fl, env⟩ := fe
    cases fl <;> rfl
  | err x v p => rfl
  | bad => rfl
@[simp] theorem wpF_ret (Q : D → P3 → Prop) (d : D) (env : En) (p : P3) : wpF Q (.ret d, env) p = Q d p := rfl
@[simp] theorem wpF_nx (Q : D → P3 → Prop) (env : En) (p : P3) : wpF Q (.nx, env) p = Q .non p := rfl
theorem Res.wp.mono {r : Res α} {Q R : α → P3 → Prop} (h : r.wp Q) (i : ∀ a p, Q a p → R a p) : r.wp R := by
  cases r with
  | ok a p => exact i a p h
  | err x v p => exact h
  | bad => exact h
theorem Res.wp.eq {r : Res α} {a : α} {p : P3} (h : r.wp fun b p1 => b = a ∧ p1 = p) : r = .ok a p := by
  cases r with
  | ok b p1 => obtain ⟨rfl, rfl⟩ := h; rfl
  | err x v p => exact h.elim
  | bad => exact h.elim
theorem wp_of_eq {r : Res α} {a : α} {p : P3} (e : r = .ok a p) (q : Q a p) : r.wp Q := by rw [e]; exact q
end
/-! loops -/
def wpL (Q : Fl × En → P3 → Prop) (I : En → P3 → Prop) : Fl × En → P3 → Prop
  | (.nx, env), p => I env p
  | (.ct, env), p => I env p
  | (.bk, env), p => Q (.nx, env) p
  | (.ret d, env), p => Q (.ret d, env) p
  | (.rtl _, _), _ => False
@[simp] theorem wpL_nx (Q : Fl × En → P3 → Prop) (I : En → P3 → Prop) (env : En) (p : P3) : wpL Q I (.nx, env) p = I env p := rfl
@[simp] theorem wpL_ct (Q : Fl × En → P3 → Prop) (I : En → P3 → Prop) (env : En) (p : P3) : wpL Q I (.ct, env) p = I env p := rfl
@[simp] theorem wpL_bk (Q : Fl × En → P3 → Prop) (I : En → P3 → Prop) (env : En) (p : P3) : wpL Q I (.bk, env) p = Q (.nx, env) p := rfl
@[simp] theorem wpL_ret (Q : Fl × En → P3 → Prop) (I : En → P3 → Prop) (d : D) (env : En) (p : P3) : wpL Q I (.ret d, env) p = Q (.ret d, env) p := rfl
theorem forL_wp {bind : D → En → Option En} {mb : MS} {Q : Fl × En → P3 → Prop} (I : List D → En → P3 → Prop)
    (step : ∀ x xs env p, I (x :: xs) env p → ∃ env1, bind x env = some env1 ∧ (mb env1 p).wp (wpL Q (I xs))) (fin : ∀ env p, I [] env p → Q (.nx, env) p) :
    ∀ (ds : List D) (env : En) (p : P3), I ds env p → (forL bind mb ds env p).wp Q
  | [], env, p, h => fin env p h
  | x :: xs, env, p, h => by
    obtain ⟨env1, e, q⟩ := step x xs env p h
    unfold forL
    rw [e]
    dsimp only
    cases r : mb env1 p with
    | bad => rw [r] at q; exact q
    | err x v p1 => rw [r] at q; exact q
    | ok fe p1 =>
      obtain ⟨fl, e1⟩ := fe
      rw [r] at q
      cases fl with
      | nx => exact forL_wp I step fin xs e1 p1 q
      | ct => exact forL_wp I step fin xs e1 p1 q
      | bk => exact q
      | ret d => exact q
      | rtl d => exact q.elim
theorem whileL_wp {c : MB} {mb : MS} {Q : Fl × En → P3 → Prop} (I : Nat → En → P3 → Prop)
    (step : ∀ n env p, I n env p → (c (vwOf env) p).wp fun k p1 => if k = true then ∃ m, n = m + 1 ∧ (mb env p1).wp (wpL Q (I m)) else Q (.nx, env) p1) :
    ∀ (n : Nat) (env : En) (p : P3), I n env p → ∀ f, n < f → (whileL c mb f env p).wp Q
  | n, env, p, h, 0, hf => absurd hf (Nat.not_lt_zero _)
  | n, env, p, h, f + 1, hf => by
    have q := step n env p h
    unfold whileL
    cases r : c (vwOf env) p with
    | bad => rw [r] at q; exact q
    | err x v p1 => rw [r] at q; exact q
    | ok k p1 =>
      rw [r] at q
      cases k with
      | false => exact q
      | true =>
        obtain ⟨m, rfl, q⟩ := q
        dsimp only
        cases r2 : mb env p1 with
        | bad => rw [r2] at q; exact q
        | err x v p1 => rw [r2] at q; exact q
        | ok fe p2 =>
          obtain ⟨fl, e1⟩ := fe
          rw [r2] at q
          cases fl with
          | nx => exact whileL_wp I step m e1 p2 q f (by omega)
          | ct => exact whileL_wp I step m e1 p2 q f (by omega)
          | bk => exact q
          | ret d => exact q
          | rtl d => exact q.elim
theorem lcGo_wp {bind : D → Vw → Option Vw} {mt : MB} {me : ME} {vw : Vw} {Q : List D → P3 → Prop} (I : List D → List D → P3 → Prop)
    (step : ∀ x xs ys p, I (x :: xs) ys p → ∃ vw1, bind x vw = some vw1 ∧ (mt vw1 p).wp fun k p1 => if k = true then (me vw1 p1).wp fun y p2 => I xs (ys ++ [y]) p2 else I xs ys p1) :
    ∀ (ds acc : List D) (p : P3), I ds acc p → (∀ ys p, I [] (acc ++ ys) p → Q ys p) → (lcGo bind mt me vw ds p).wp Q
  | [], acc, p, h, fin => fin [] p (by rw [List.append_nil]; exact h)
  | x :: xs, acc, p, h, fin => by
    obtain ⟨vw1, e, q⟩ := step x xs acc p h
    unfold lcGo
    rw [e]
    dsimp only
    cases r : mt vw1 p with
    | bad => rw [r] at q; exact q
    | err x v p1 => rw [r] at q; exact q.elim
    | ok k p1 =>
      rw [r] at q
      cases k with
      | false => exact lcGo_wp I step xs acc p1 q fin
      | true =>
        simp only [wp_ok, if_pos rfl] at q
        simp only [strict, bind_ok, if_pos rfl]
        cases r2 : me vw1 p1 with
        | bad => rw [r2] at q; exact q.elim
        | err x v p1 => rw [r2] at q; exact q.elim
        | ok y p2 =>
          rw [r2] at q
          simp only [strict, bind_ok, if_true, wp_bind, wp_ok]
          exact lcGo_wp I step xs (acc ++ [y]) p2 q fun ys p h => fin (y :: ys) p (by rw [List.append_assoc] at h; exact h)
/-- a comprehension that draws nothing -/
theorem lcGo_pure {bind : D → Vw → Option Vw} {mt : MB} {me : ME} {vw : Vw} {p : P3} (t : D → Bool) (f : D → D) :
    ∀ (ds : List D), (∀ x ∈ ds, ∃ vw1, bind x vw = some vw1 ∧ mt vw1 p = .ok (t x) p ∧ (t x = true → me vw1 p = .ok (f x) p)) → lcGo bind mt me vw ds p = .ok ((ds.filter t).map f) p
  | [], h => rfl
  | x :: xs, h => by
    obtain ⟨vw1, e, h1, h2⟩ := h x List.mem_cons_self
    have ih := lcGo_pure t f xs fun y hy => h y (List.mem_cons_of_mem _ hy)
    unfold lcGo
    rw [e]
    dsimp only
    rw [h1]
    cases ht : t x with
    | false => simp [strict, ht, ih]
    | true => simp [strict, ht, ih, h2 ht]
theorem lcGo_map {bind : D → Vw → Option Vw} {me : ME} {vw : Vw} {p : P3} (f : D → D) (ds : List D) (h : ∀ x ∈ ds, ∃ vw1, bind x vw = some vw1 ∧ me vw1 p = .ok (f x) p) : lcGo bind bTrue me vw ds p = .ok (ds.map f) p := by
  have := lcGo_pure (mt := bTrue) (p := p) (me := me) (fun _ => true) f ds fun x hx => let ⟨v, h1, h2⟩ := h x hx; ⟨v, h1, rfl, fun _ => h2⟩
  rwa [List.filter_eq_self.mpr fun _ _ => rfl] at this
theorem bools_map {α : Type} (t : α → Bool) (l : List α) : D.bools (l.map fun x => .bl (t x)) = some (l.map t) := by
  induction l with
  | nil => rfl
  | cons x l ih => simp [D.bools, ih]
theorem dAll_map {α : Type} (t : α → Bool) (l : List α) : dAll [.lst (l.map fun x => .bl (t x))] = some (.bl (l.all t)) := by
  simp [dAll, bools_map, Function.comp_def]
theorem dAny_map {α : Type} (t : α → Bool) (l : List α) : dAny [.lst (l.map fun x => .bl (t x))] = some (.bl (l.any t)) := by
  simp [dAny, bools_map, Function.comp_def]
theorem ints_map {α : Type} (t : α → Int) (l : List α) : D.ints (l.map fun x => .int (t x)) = some (l.map t) := by
  induction l with
  | nil => rfl
  | cons x l ih => simp [D.ints, ih]
end VL

namespace VL
open PySem PySem.Spec PyProof.Rows L2 LamX
/-! ### isinstance, at every kind of value -/
section
variable {p : P3}
@[simp] theorem isi_non_tuple : isiOn "tuple" .non p = .ok (.bl false) p := by show ofO ((kitB "NoneType" "tuple").map D.bl) p = _; rw [show kitB "NoneType" "tuple" = some false from by decide +kernel]; rfl
@[simp] theorem isi_non_int : isiOn "int" .non p = .ok (.bl false) p := by show ofO ((kitB "NoneType" "int").map D.bl) p = _; rw [show kitB "NoneType" "int" = some false from by decide +kernel]; rfl
@[simp] theorem isi_non_bool : isiOn "bool" .non p = .ok (.bl false) p := by show ofO ((kitB "NoneType" "bool").map D.bl) p = _; rw [show kitB "NoneType" "bool" = some false from by decide +kernel]; rfl
@[simp] theorem isi_non_str : isiOn "str" .non p = .ok (.bl false) p := by show ofO ((kitB "NoneType" "str").map D.bl) p = _; rw [show kitB "NoneType" "str" = some false from by decide +kernel]; rfl
@[simp] theorem isi_non_list : isiOn "list" .non p = .ok (.bl false) p := by show ofO ((kitB "NoneType" "list").map D.bl) p = _; rw [show kitB "NoneType" "list" = some false from by decide +kernel]; rfl
@[simp] theorem isi_non_dict : isiOn "dict" .non p = .ok (.bl false) p := by show ofO ((kitB "NoneType" "dict").map D.bl) p = _; rw [show kitB "NoneType" "dict" = some false from by decide +kernel]; rfl
@[simp] theorem isi_bl_tuple (b : Bool) : isiOn "tuple" (.bl b) p = .ok (.bl false) p := by show ofO ((kitB "bool" "tuple").map D.bl) p = _; rw [show kitB "bool" "tuple" = some false from by decide +kernel]; rfl
@[simp] theorem isi_bl_int (b : Bool) : isiOn "int" (.bl b) p = .ok (.bl true) p := by show ofO ((kitB "bool" "int").map D.bl) p = _; rw [show kitB "bool" "int" = some true from by decide +kernel]; rfl
@[simp] theorem isi_bl_bool (b : Bool) : isiOn "bool" (.bl b) p = .ok (.bl true) p := by show ofO ((kitB "bool" "bool").map D.bl) p = _; rw [show kitB "bool" "bool" = some true from by decide +kernel]; rfl
@[simp] theorem isi_bl_str (b : Bool) : isiOn "str" (.bl b) p = .ok (.bl false) p := by show ofO ((kitB "bool" "str").map D.bl) p = _; rw [show kitB "bool" "str" = some false from by decide +kernel]; rfl
@[simp] theorem isi_bl_list (b : Bool) : isiOn "list" (.bl b) p = .ok (.bl false) p := by show ofO ((kitB "bool" "list").map D.bl) p = _; rw [show kitB "bool" "list" = some false from by decide +kernel]; rfl
@[simp] theorem isi_bl_dict (b : Bool) : isiOn "dict" (.bl b) p = .ok (.bl false) p := by show ofO ((kitB "bool" "dict").map D.bl) p = _; rw [show kitB "bool" "dict" = some false from by decide +kernel]; rfl
@[simp] theorem isi_int_tuple (i : Int) : isiOn "tuple" (.int i) p = .ok (.bl false) p := by show ofO ((kitB "int" "tuple").map D.bl) p = _; rw [show kitB "int" "tuple" = some false from by decide +kernel]; rfl
@[simp] theorem isi_int_int (i : Int) : isiOn "int" (.int i) p = .ok (.bl true) p := by show ofO ((kitB "int" "int").map D.bl) p = _; rw [show kitB "int" "int" = some true from by decide +kernel]; rfl
@[simp] theorem isi_int_bool (i : Int) : isiOn "bool" (.int i) p = .ok (.bl false) p := by show ofO ((kitB "int" "bool").map D.bl) p = _; rw [show kitB "int" "bool" = some false from by decide +kernel]; rfl
@[simp] theorem isi_int_str (i : Int) : isiOn "str" (.int i) p = .ok (.bl false) p := by show ofO ((kitB "int" "str").map D.bl) p = _; rw [show kitB "int" "str" = some false from by decide +kernel]; rfl
@[simp] theorem isi_int_list (i : Int) : isiOn "list" (.int i) p = .ok (.bl false) p := by show ofO ((kitB "int" "list").map D.bl) p = _; rw [show kitB "int" "list" = some false from by decide +kernel]; rfl
@[simp] theorem isi_int_dict (i : Int) : isiOn "dict" (.int i) p = .ok (.bl false) p := by show ofO ((kitB "int" "dict").map D.bl) p = _; rw [show kitB "int" "dict" = some false from by decide +kernel]; rfl
@[simp] theorem isi_str_tuple (x : Str) : isiOn "tuple" (.str x) p = .ok (.bl false) p := by show ofO ((kitB "str" "tuple").map D.bl) p = _; rw [show kitB "str" "tuple" = some false from by decide +kernel]; rfl
@[simp] theorem isi_str_int (x : Str) : isiOn "int" (.str x) p = .ok (.bl false) p := by show ofO ((kitB "str" "int").map D.bl) p = _; rw [show kitB "str" "int" = some false from by decide +kernel]; rfl
@[simp] theorem isi_str_bool (x : Str) : isiOn "bool" (.str x) p = .ok (.bl false) p := by show ofO ((kitB "str" "bool").map D.bl) p = _; rw [show kitB "str" "bool" = some false from by decide +kernel]; rfl
@[simp] theorem isi_str_str (x : Str) : isiOn "str" (.str x) p = .ok (.bl true) p := by show ofO ((kitB "str" "str").map D.bl) p = _; rw [show kitB "str" "str" = some true from by decide +kernel]; rfl
@[simp] theorem isi_str_list (x : Str) : isiOn "list" (.str x) p = .ok (.bl false) p := by show ofO ((kitB "str" "list").map D.bl) p = _; rw [show kitB "str" "list" = some false from by decide +kernel]; rfl
@[simp] theorem isi_str_dict (x : Str) : isiOn "dict" (.str x) p = .ok (.bl false) p := by show ofO ((kitB "str" "dict").map D.bl) p = _; rw [show kitB "str" "dict" = some false from by decide +kernel]; rfl
@[simp] theorem isi_tup_tuple (ds : List D) : isiOn "tuple" (.tup ds) p = .ok (.bl true) p := by show ofO ((kitB "tuple" "tuple").map D.bl) p = _; rw [show kitB "tuple" "tuple" = some true from by decide +kernel]; rfl
@[simp] theorem isi_tup_int (ds : List D) : isiOn "int" (.tup ds) p = .ok (.bl false) p := by show ofO ((kitB "tuple" "int").map D.bl) p = _; rw [show kitB "tuple" "int" = some false from by decide +kernel]; rfl
@[simp] theorem isi_tup_bool (ds : List D) : isiOn "bool" (.tup ds) p = .ok (.bl false) p := by show ofO ((kitB "tuple" "bool").map D.bl) p = _; rw [show kitB "tuple" "bool" = some false from by decide +kernel]; rfl
@[simp] theorem isi_tup_str (ds : List D) : isiOn "str" (.tup ds) p = .ok (.bl false) p := by show ofO ((kitB "tuple" "str").map D.bl) p = _; rw [show kitB "tuple" "str" = some false from by decide +kernel]; rfl
@[simp] theorem isi_tup_list (ds : List D) : isiOn "list" (.tup ds) p = .ok (.bl false) p := by show ofO ((kitB "tuple" "list").map D.bl) p = _; rw [show kitB "tuple" "list" = some false from by decide +kernel]; rfl
@[simp] theorem isi_tup_dict (ds : List D) : isiOn "dict" (.tup ds) p = .ok (.bl false) p := by show ofO ((kitB "tuple" "dict").map D.bl) p = _; rw [show kitB "tuple" "dict" = some false from by decide +kernel]; rfl
@[simp] theorem isi_lst_tuple (ds : List D) : isiOn "tuple" (.lst ds) p = .ok (.bl false) p := by show ofO ((kitB "list" "tuple").map D.bl) p = _; rw [show kitB "list" "tuple" = some false from by decide +kernel]; rfl
@[simp] theorem isi_lst_int (ds : List D) : isiOn "int" (.lst ds) p = .ok (.bl false) p := by show ofO ((kitB "list" "int").map D.bl) p = _; rw [show kitB "list" "int" = some false from by decide +kernel]; rfl
@[simp] theorem isi_lst_bool (ds : List D) : isiOn "bool" (.lst ds) p = .ok (.bl false) p := by show ofO ((kitB "list" "bool").map D.bl) p = _; rw [show kitB "list" "bool" = some false from by decide +kernel]; rfl
@[simp] theorem isi_lst_str (ds : List D) : isiOn "str" (.lst ds) p = .ok (.bl false) p := by show ofO ((kitB "list" "str").map D.bl) p = _; rw [show kitB "list" "str" = some false from by decide +kernel]; rfl
@[simp] theorem isi_lst_list (ds : List D) : isiOn "list" (.lst ds) p = .ok (.bl true) p := by show ofO ((kitB "list" "list").map D.bl) p = _; rw [show kitB "list" "list" = some true from by decide +kernel]; rfl
@[simp] theorem isi_lst_dict (ds : List D) : isiOn "dict" (.lst ds) p = .ok (.bl false) p := by show ofO ((kitB "list" "dict").map D.bl) p = _; rw [show kitB "list" "dict" = some false from by decide +kernel]; rfl
end
/-! ### cuts -/
theorem sIx_pos (n d : Nat) {i : Int} (h : 0 ≤ i) : HT.sIx n d (some i) = min i.toNat n := by unfold HT.sIx; dsimp only; rw [if_neg (by omega)]
theorem cutL_to {α : Type} (xs : List α) {i : Int} (h : 0 ≤ i) : cutL xs none (some i) = xs.take i.toNat := by
  unfold cutL
  rw [sIx_pos _ _ h]
  simp [HT.sIx, List.take_eq_take_iff]
theorem cutL_from {α : Type} (xs : List α) {i : Int} (h : 0 ≤ i) : cutL xs (some i) none = xs.drop i.toNat := by
  unfold cutL
  rw [sIx_pos _ _ h]
  simp only [HT.sIx]
  by_cases hl : i.toNat ≤ xs.length
  · rw [Nat.min_eq_left hl, List.take_of_length_le (by simp)]
  · rw [Nat.min_eq_right (by omega), List.drop_of_length_le (Nat.le_refl _), List.drop_of_length_le (by omega)]
    simp
@[simp] theorem cutL_0 {α : Type} (xs : List α) (i : Nat) : cutL xs none (some (OfNat.ofNat i)) = xs.take i := cutL_to xs (Int.natCast_nonneg i)
@[simp] theorem cutL_1 {α : Type} (xs : List α) : cutL xs (some 1) none = xs.drop 1 := cutL_from xs (by decide)
@[simp] theorem cutL_m1 {α : Type} (xs : List α) : cutL xs none (some (-1)) = xs.take (xs.length - 1) := by
  unfold cutL HT.sIx
  simp only [Nat.sub_zero, List.drop_zero]
  rw [if_pos (by decide)]
  congr 1
  omega
@[simp] theorem cutL_l1 {α : Type} (xs : List α) : cutL xs (some (-1)) none = xs.drop (xs.length - 1) := by
  unfold cutL HT.sIx
  simp only [Nat.sub_zero]
  rw [if_pos (by decide), show (-1 + (xs.length : Int)).toNat = xs.length - 1 from by omega]
  rw [List.take_of_length_le (by simp)]
/-! ### sizes -/
theorem szs_append : ∀ (a b : List D), D.szs (a ++ b) = D.szs a + D.szs b
  | [], b => by simp [D.szs]
  | d :: a, b => by simp [D.szs, szs_append a b]; omega
theorem szs_take (a : List D) (n : Nat) : D.szs (a.take n) ≤ D.szs a := by
  have := szs_append (a.take n) (a.drop n)
  rw [List.take_append_drop] at this
  omega
theorem szs_drop (a : List D) (n : Nat) : D.szs (a.drop n) ≤ D.szs a := by
  have := szs_append (a.take n) (a.drop n)
  rw [List.take_append_drop] at this
  omega
theorem szs_reverse (a : List D) : D.szs a.reverse = D.szs a := by
  induction a with
  | nil => rfl
  | cons d a ih => rw [List.reverse_cons, szs_append, ih]; simp [D.szs]; omega
theorem sz_mem {a : List D} {d : D} (h : d ∈ a) : d.sz + 2 ≤ D.szs a := by
  induction a with
  | nil => cases h
  | cons e a ih =>
    simp only [D.szs]
    rcases List.mem_cons.mp h with rfl | h
    · omega
    · have := ih h; omega
theorem len_szs (a : List D) : 2 * a.length ≤ D.szs a := by
  induction a with
  | nil => simp [D.szs]
  | cons d a ih => simp only [D.szs, List.length_cons]; omega
/-! ### pots and draws -/
def Pot (n : Nat) (p : P3) : Prop := ∃ x y z : Int, p = some (x, y, z) ∧ 0 ≤ x ∧ 0 ≤ y ∧ y < 2 ^ 61 ∧ 0 ≤ z ∧ z ≤ n
theorem Pot.mono {n m : Nat} {p : P3} (h : Pot n p) (l : n ≤ m) : Pot m p := by
  obtain ⟨x, y, z, h1, h2, h3, h4, h5, h6⟩ := h
  exact ⟨x, y, z, h1, h2, h3, h4, h5, by omega⟩
section
variable {vw : Vw} {env : En} {p : P3}
def ixOn (k : Nat) : D → P3 → Res D := fun d p1 => match d, pGet p1 k with
  | .pot, some i => .ok (.int i) p1
  | _, _ => .bad
@[simp] theorem ev_potIx (m : ME) (k : Nat) : mPotIx m k vw p = (m vw p).bind (ixOn k) := rfl
@[simp] theorem ixOn_0 (x y z : Int) : ixOn 0 .pot (some (x, y, z)) = .ok (.int x) (some (x, y, z)) := rfl
@[simp] theorem ixOn_1 (x y z : Int) : ixOn 1 .pot (some (x, y, z)) = .ok (.int y) (some (x, y, z)) := rfl
@[simp] theorem ixOn_2 (x y z : Int) : ixOn 2 .pot (some (x, y, z)) = .ok (.int z) (some (x, y, z)) := rfl
def psOn (k : Nat) (env : En) (d : D) (p : P3) : Option (Option Sl) → Res (Fl × En) := fun o => match o, d, pGet p k with
  | some (some (.p .pot)), .int v, some _ => .ok (.nx, env) (pPut p k v)
  | _, _, _ => .bad
@[simp] theorem ev_potSet (i k : Nat) (me : ME) : sPotSet i k me env p = (me (vwOf env) p).bind fun d p1 => psOn k env d p1 env[i]? := onV_bind me _
@[simp] theorem psOn_0 (x y z v : Int) : psOn 0 env (.int v) (some (x, y, z)) (some (some (.p .pot))) = .ok (.nx, env) (some (v, y, z)) := rfl
@[simp] theorem psOn_2 (x y z v : Int) : psOn 2 env (.int v) (some (x, y, z)) (some (some (.p .pot))) = .ok (.nx, env) (some (x, y, v)) := rfl
end
/-- the draw -/
def tkB (t1 t2 t3 t4 t5 : Int) : MS := sSeq (xIf [] (toB (m2 (D.cmp fGt) (mPotIx (mVar 0) 0) (mC (.int 0)))) (sSeq (xSet [] 2 (m2 D.fmod (mN dInt (mCons (mPotIx (mVar 0) 0) (mNil))) (mVar 1))) (sSeq (sPotSet 0 0 (m2 D.fdiv (mPotIx (mVar 0) 0) (mVar 1))) (sRet (mVar 2)))) (sNil)) (sSeq (sPotSet 0 2 (m2 D.add (mPotIx (mVar 0) 2) (mC (.int 1)))) (sSeq (xSet [] 3 (m2 D.ix (mLst (lenOk (mCons (mC (.int 2147483647)) (mCons (mC (.int 2147483629)) (mCons (mC (.int 2147483587)) (mCons (mC (.int 2147483579)) (mCons (mC (.int 2147483563)) (mNil)))))))) (m2 D.fmod (mN dInt (mCons (mPotIx (mVar 0) 2) (mNil))) (mC (.int 5))))) (sSeq (xSet [] 4 (m2 D.fmod (mN dInt (mCons (m2 D.powW (mN dInt (mCons (m2 D.add (m2 D.add (mPotIx (mVar 0) 1) (m2 D.mul (m2 D.mul (mC (.int t1)) (mPotIx (mVar 0) 2)) (mPotIx (mVar 0) 2))) (mC (.int t2))) (mNil))) (mC (.int 3))) (mNil))) (mVar 3))) (sSeq (xSet [] 4 (m2 D.fmod (mN dInt (mCons (m2 D.mul (mVar 4) (m2 D.add (m2 D.fmod (mN dInt (mCons (mVar 4) (mNil))) (mC (.int t3))) (m2 D.mul (mC (.int t4)) (mPotIx (mVar 0) 2)))) (mNil))) (mC (.int 2305843009213693907)))) (sRet (m2 D.fmod (mN dInt (mCons (m2 D.fdiv (mVar 4) (mC (.int t5))) (mNil))) (mVar 1)))))))
/-- a draw from 0 to k - 1 -/
def TkOk (tk : List D → P3 → Res D) : Prop := ∀ (n : Nat) (k : Int) (p : P3) (Q : D → P3 → Prop), Pot n p → n < 2 ^ 60 → 0 < k → k < 2 ^ 62 → (∀ r p', 0 ≤ r → r < k → Pot (n + 1) p' → Q (.int r) p') → (tk [.pot, .int k] p).wp Q
theorem powW_3 {a : Int} (h : a.natAbs < 2 ^ 1000) : D.powW (.int a) (.int 3) = some (.int (a ^ 3)) := by
  show (if _ then some (D.int (a ^ (3 : Int).toNat)) else none) = _
  have hb : Builtin.Int.intBits a ≤ 1001 := by
    unfold Builtin.Int.intBits
    split
    · omega
    · have := log2_lt_of (n := a.natAbs) (k := 1000) (by decide) h
      omega
  rw [if_pos ⟨by decide, .inr (by omega)⟩]
  rfl
theorem prime_ix {z : Int} (h : 0 ≤ z) : ∃ q : Int, D.ix (.lst [.int 2147483647, .int 2147483629, .int 2147483587, .int 2147483579, .int 2147483563]) (.int (z.fmod 5)) = some (.int q) ∧ 0 < q ∧ q < 2 ^ 31 := by
  have h1 := Int.fmod_nonneg_of_pos z (b := 5) (by decide)
  have h2 := Int.fmod_lt_of_pos z (b := 5) (by decide)
  generalize z.fmod 5 = r at h1 h2
  rcases (show r = 0 ∨ r = 1 ∨ r = 2 ∨ r = 3 ∨ r = 4 by omega) with rfl | rfl | rfl | rfl | rfl
  all_goals exact ⟨_, rfl, by decide, by decide⟩
theorem tk_ok {t1 t2 t3 t4 t5 : Int} (h1 : Sm t1) (h2 : Sm t2) (h3 : 0 < t3) (h4 : Sm t4) (h5 : 0 < t5) (h5' : t5 < 2 ^ 62) : TkOk (callF 5 2 (tkB t1 t2 t3 t4 t5)) := by
  intro n k p Q hp hn hk hk' q
  obtain ⟨x, y, z, rfl, hx, hy, hy', hz, hz'⟩ := hp
  rw [callF_ok (ds := [D.pot, D.int k]) (np := 2) rfl]
  unfold tkB
  by_cases hx0 : 0 < x
  · simp [env0, hx0, fmod_int (show k ≠ 0 by omega), fdiv_int (okDiv_i hk (by omega))]
    exact q _ _ (Int.fmod_nonneg_of_pos _ hk) (Int.fmod_lt_of_pos _ hk) ⟨_, _, _, rfl, Int.fdiv_nonneg hx (by omega), hy, hy', hz, by omega⟩
  · have sz : Sm (z + 1) := by unfold Sm; omega
    obtain ⟨pr, e1, hq, hq'⟩ := prime_ix (z := z + 1) (by omega)
    have hpw : (y + t1 * (z + 1) * (z + 1) + t2).natAbs < 2 ^ 1000 := by
      have a1 : t1.natAbs < 2 ^ 62 := by unfold Sm at h1; omega
      have a2 : t2.natAbs < 2 ^ 62 := by unfold Sm at h2; omega
      have a3 : (z + 1).natAbs < 2 ^ 62 := by unfold Sm at sz; omega
      have a4 : (t1 * (z + 1) * (z + 1)).natAbs ≤ 2 ^ 62 * 2 ^ 62 * 2 ^ 62 := by
        rw [Int.natAbs_mul, Int.natAbs_mul]
        exact Nat.mul_le_mul (Nat.mul_le_mul (Nat.le_of_lt a1) (Nat.le_of_lt a3)) (Nat.le_of_lt a3)
      have a5 : (2 : Nat) ^ 62 * 2 ^ 62 * 2 ^ 62 + 2 ^ 63 < 2 ^ 1000 := by decide +kernel
      omega
    simp only [ev_seq, ev_xIf, frzE_nil, onEnv_some, env0, List.map_cons, List.map_nil, List.length_cons, List.length_nil, Nat.reduceSub, Nat.reduceAdd, List.replicate, List.cons_append, List.nil_append, vwOf_p, vwOf_n, vwOf_nil, ev_toB, ev_m2, ev_potIx, ev_var0, bind_ok, ixOn_0, ev_c, cmp_int, ofO_some, asB_bl, decide_eq_false hx0, Bool.false_eq_true, if_false, ev_sNil, bindS_nx,
      ev_potSet, ixOn_2, add_int, psOn_2, List.getElem?_cons_zero, ev_xSet, onX_nil, ev_lst, ev_lenOk, ev_cons, ev_nil, ev_mN, dInt_int, fmod_int (show (5 : Int) ≠ 0 by decide), e1, setE_S, setE_0, ixOn_1, h1.mul, sz.mul', powW_3 hpw, ev_varS, fmod_int (show pr ≠ 0 by omega), outF_bind, bindS_bind,
      show ((0 + 1 + 1 + 1 + 1 + 1 : Nat) ≤ sizeLine) = True from by decide, if_true, Nat.zero_add]
    have hb1 := Int.fmod_nonneg_of_pos ((y + t1 * (z + 1) * (z + 1) + t2) ^ 3) hq
    have hb2 := Int.fmod_lt_of_pos ((y + t1 * (z + 1) * (z + 1) + t2) ^ 3) hq
    have sb : Sm (((y + t1 * (z + 1) * (z + 1) + t2) ^ 3).fmod pr) := by unfold Sm; omega
    simp [sb.mul, h4.mul, fmod_int (show t3 ≠ 0 by omega), fmod_int (show (2305843009213693907 : Int) ≠ 0 by decide), fdiv_int (okDiv_i h5 (by omega)), fmod_int (show k ≠ 0 by omega)]
    exact q _ _ (Int.fmod_nonneg_of_pos _ hk) (Int.fmod_lt_of_pos _ hk) ⟨_, _, _, rfl, hx, hy, hy', by omega, by omega⟩
end VL

namespace VL
open PySem PySem.Spec PyProof.Rows L2 LamX
/-! ### repr(a) == repr(b), by the data -/
mutual
def D.same : D → D → Bool
  | .non, .non => true
  | .bl a, .bl b => a == b
  | .int a, .int b => a == b
  | .str a, .str b => a == b
  | .tup a, .tup b => D.sames a b
  | .lst a, .lst b => D.sames a b
  | _, _ => false
def D.sames : List D → List D → Bool
  | [], [] => true
  | a :: as, b :: bs => a.same b && D.sames as bs
  | _, _ => false
end
mutual
theorem D.same_eq : ∀ (a b : D), a.same b = true → a = b
  | .non, b, h => by cases b <;> simp [D.same] at h ⊢
  | .bl a, b, h => by cases b <;> simp [D.same] at h ⊢; exact h
  | .int a, b, h => by cases b <;> simp [D.same] at h ⊢; exact h
  | .str a, b, h => by cases b <;> simp [D.same] at h ⊢; exact h
  | .tup a, b, h => by cases b <;> simp [D.same] at h ⊢; exact D.sames_eq a _ h
  | .lst a, b, h => by cases b <;> simp [D.same] at h ⊢; exact D.sames_eq a _ h
  | .dct _, b, h => by simp [D.same] at h
  | .glb _, b, h => by simp [D.same] at h
  | .exc _ _, b, h => by simp [D.same] at h
  | .clo _ _, b, h => by simp [D.same] at h
  | .own _, b, h => by simp [D.same] at h
  | .pot, b, h => by simp [D.same] at h
  | .scr _, b, h => by simp [D.same] at h
  | .rng _ _, b, h => by simp [D.same] at h
theorem D.sames_eq : ∀ (a b : List D), D.sames a b = true → a = b
  | [], b, h => by cases b <;> simp [D.sames] at h ⊢
  | a :: as, b, h => by
    cases b with
    | nil => simp [D.sames] at h
    | cons b bs =>
      simp only [D.sames, Bool.and_eq_true] at h
      rw [D.same_eq a b h.1, D.sames_eq as bs h.2]
end
def reprSame (x y : D) : Bool := x.same y || x.py.shown == y.py.shown
theorem reprSame_eq (x y : D) : reprSame x y = (x.py.shown == y.py.shown) := by
  unfold reprSame
  cases h : x.same y with
  | false => rfl
  | true => rw [D.same_eq x y h]; simp
@[simp] theorem reprSame_self (x : D) : reprSame x x = true := by rw [reprSame_eq]; simp
/-- what repr serves -/
def D.rp (d : D) : Bool := d.sh 60 && decide (d.sz ≤ 16777216)
theorem rp_repr {d : D} (h : d.rp = true) : d.repr = some (.str d.py.shown) := by
  obtain ⟨h1, h2⟩ := Bool.and_eq_true_iff.mp h
  exact repr_ok h1 (by simpa using h2)
def mReprEq (ma mb : ME) : ME := fun vw p => (ma vw p).bind fun x p1 => if x.rp = true then (mb vw p1).bind fun y p2 => if y.rp = true then .ok (.bl (reprSame x y)) p2 else .bad else .bad
def mReprNe (ma mb : ME) : ME := fun vw p => (ma vw p).bind fun x p1 => if x.rp = true then (mb vw p1).bind fun y p2 => if y.rp = true then .ok (.bl (!reprSame x y)) p2 else .bad else .bad
section
variable {X : Cx} {J : Jc} {e : Expr} {m m' : ME}
theorem ve_ref (h : VE X J e m) (r : ∀ vw p, m' vw p = .bad ∨ m' vw p = m vw p) : VE X J e m' := by
  refine pe_imp h fun σ H Q ⟨vw, p, rr, s, q⟩ => ⟨vw, p, rr, s, ?_⟩
  rcases r vw p with z | z
  · rw [z] at q; exact q.elim
  · rw [← z]; exact q
theorem toB_ref (r : ∀ vw p, m' vw p = .bad ∨ m' vw p = m vw p) (vw : Vw) (p : P3) : toB m' vw p = .bad ∨ toB m' vw p = toB m vw p := by
  rcases r vw p with z | z
  · left; simp [z]
  · right; simp [z]
theorem vt_ref {n n' : MB} (h : VT X J e n) (r : ∀ vw p, n' vw p = .bad ∨ n' vw p = n vw p) : VT X J e n' := by
  refine pt_imp h fun σ H Q ⟨vw, p, rr, s, q⟩ => ⟨vw, p, rr, s, ?_⟩
  rcases r vw p with z | z
  · rw [z] at q; exact q.elim
  · rw [← z]; exact q
theorem reprEq_ref (ma mb : ME) (vw : Vw) (p : P3) : mReprEq ma mb vw p = .bad ∨ mReprEq ma mb vw p = m2 D.eq (mN dRepr (mCons ma mNil)) (mN dRepr (mCons mb mNil)) vw p := by
  unfold mReprEq
  cases h1 : ma vw p with
  | bad => left; rfl
  | err x v p1 => right; simp [h1]
  | ok x p1 =>
    simp only [bind_ok]
    split
    · rename_i hx
      cases h2 : mb vw p1 with
      | bad => left; rfl
      | err x v p1 => right; simp [h1, h2, rp_repr hx]
      | ok y p2 =>
        simp only [bind_ok]
        split
        · rename_i hy
          right
          simp [h1, h2, rp_repr hx, rp_repr hy, reprSame_eq]
        · left; rfl
    · left; rfl
theorem reprNe_ref (ma mb : ME) (vw : Vw) (p : P3) : mReprNe ma mb vw p = .bad ∨ mReprNe ma mb vw p = m2 D.ne (mN dRepr (mCons ma mNil)) (mN dRepr (mCons mb mNil)) vw p := by
  unfold mReprNe
  cases h1 : ma vw p with
  | bad => left; rfl
  | err x v p1 => right; simp [h1]
  | ok x p1 =>
    simp only [bind_ok]
    split
    · rename_i hx
      cases h2 : mb vw p1 with
      | bad => left; rfl
      | err x v p1 => right; simp [h1, h2, rp_repr hx]
      | ok y p2 =>
        simp only [bind_ok]
        split
        · rename_i hy
          right
          simp [h1, h2, rp_repr hx, rp_repr hy, reprSame_eq]
        · left; rfl
    · left; rfl
theorem ve_rpEq {ma mb : ME} (h : VE X J e (m2 D.eq (mN dRepr (mCons ma mNil)) (mN dRepr (mCons mb mNil)))) : VE X J e (mReprEq ma mb) := ve_ref h (reprEq_ref ma mb)
theorem ve_rpNe {ma mb : ME} (h : VE X J e (m2 D.ne (mN dRepr (mCons ma mNil)) (mN dRepr (mCons mb mNil)))) : VE X J e (mReprNe ma mb) := ve_ref h (reprNe_ref ma mb)
theorem vt_rpEq {ma mb : ME} (h : VT X J e (toB (m2 D.eq (mN dRepr (mCons ma mNil)) (mN dRepr (mCons mb mNil))))) : VT X J e (toB (mReprEq ma mb)) := vt_ref h (toB_ref (reprEq_ref ma mb))
theorem vt_rpNe {ma mb : ME} (h : VT X J e (toB (m2 D.ne (mN dRepr (mCons ma mNil)) (mN dRepr (mCons mb mNil))))) : VT X J e (toB (mReprNe ma mb)) := vt_ref h (toB_ref (reprNe_ref ma mb))
end
@[simp] theorem ev_reprEq (ma mb : ME) (vw : Vw) (p : P3) : mReprEq ma mb vw p = (ma vw p).bind fun x p1 => if x.rp = true then (mb vw p1).bind fun y p2 => if y.rp = true then .ok (.bl (reprSame x y)) p2 else .bad else .bad := rfl
@[simp] theorem ev_reprNe (ma mb : ME) (vw : Vw) (p : P3) : mReprNe ma mb vw p = (ma vw p).bind fun x p1 => if x.rp = true then (mb vw p1).bind fun y p2 => if y.rp = true then .ok (.bl (!reprSame x y)) p2 else .bad else .bad := rfl
end VL

namespace VL
open PySem PySem.Spec PyProof.Rows L2 LamX
/-! ### more draws: one of several; the pot; the places -/
def ofBd (tk : List D → P3 → Res D) : MS := sRet (m2 D.ix (mVar 1) (mCall tk (mCons (mVar 0) (mCons (mN dLen (mCons (mVar 1) (mNil))) (mNil)))))
def OfOk (of : List D → P3 → Res D) : Prop := ∀ (n : Nat) (c : D) (ds : List D) (p : P3) (Q : D → P3 → Prop), c = .lst ds ∨ c = .tup ds → Pot n p → n < 2 ^ 60 → ds ≠ [] → ds.length < 2 ^ 62 → (∀ d ∈ ds, ∀ p', Pot (n + 1) p' → Q d p') → (of [.pot, c] p).wp Q
theorem atI_mem {ds : List D} {r : Int} (h : 0 ≤ r) (h2 : r < ds.length) : ∃ d, atI ds r = some d ∧ d ∈ ds := by
  have hj : r.toNat < ds.length := by omega
  exact ⟨ds[r.toNat], atI_nat (j := r.toNat) (by omega) (List.getElem?_eq_getElem hj), List.getElem_mem hj⟩
theorem of_ok {tk : List D → P3 → Res D} (T : TkOk tk) : OfOk (callF 2 2 (ofBd tk)) := by
  intro n c ds p Q hc hp hn he hl q
  have h0 : 0 < ds.length := by cases ds with
    | nil => exact absurd rfl he
    | cons d l => exact Nat.succ_pos _
  unfold ofBd
  rcases hc with rfl | rfl
  · simp [env0]
    refine T n ds.length p _ hp hn (by omega) (by omega) fun r p' h1 h2 h3 => ?_
    obtain ⟨d, e, m⟩ := atI_mem h1 h2
    rw [ix_lst, e]
    exact q d m p' h3
  · simp [env0]
    refine T n ds.length p _ hp hn (by omega) (by omega) fun r p' h1 h2 h3 => ?_
    obtain ⟨d, e, m⟩ := atI_mem h1 h2
    rw [ix_tup, e]
    exact q d m p' h3
def ptB (c1 c2 m1' m2' m3 : Int) : MS := sSeq (xSet [] 2 (mIf (toB (m2 (D.cmp fLt) (mVar 1) (mN dLen (mCons (mVar 0) (mNil))))) (m2 D.ix (mVar 0) (mVar 1)) (m2 D.add (m2 D.add (m2 D.fmod (mN dSum (mCons (mSl (mVar 0) (oNo) (oSome (mC (.int 1)))) (mNil))) (mC (.int 1000003))) (m2 D.mul (mC (.int c1)) (mVar 1))) (mC (.int c2))))) (sSeq (xSet [] 3 (m2 D.mul (m2 D.fmod (mN dInt (mCons (mN dAbs (mCons (mVar 2) (mNil))) (mNil))) (m2 D.powW (m2 D.powW (mC (.int 10)) (mC (.int 60))) (mC (.int 5)))) (mN dInt (mCons (m2 (D.cmp fGe) (mN dAbs (mCons (mVar 2) (mNil))) (m2 D.powW (mC (.int 10)) (mC (.int 18)))) (mNil))))) (sSeq (xSet [] 4 (m2 D.fmod (mN dInt (mCons (mVar 2) (mNil))) (mC (.int 2305843009213693951)))) (sRetNew (lenOk (mCons (mVar 3) (mCons (m2 D.fmod (mN dInt (mCons (m2 D.add (m2 D.add (m2 D.mul (mVar 4) (mC (.int m1'))) (m2 D.mul (m2 D.mul (mC (.int m2')) (mVar 1)) (mVar 1))) (mC (.int m3))) (mNil))) (mC (.int 2305843009213693921))) (mCons (mC (.int 0)) (mNil))))))))
def PtOk (pt : List D → P3 → Res (List D)) : Prop := ∀ (ns : List Int) (i : Int) (p : P3), 0 ≤ i → i < 1000 → ∃ x y : Int, 0 ≤ x ∧ 0 ≤ y ∧ y < 2 ^ 61 ∧ pt [.scr ns, .int i] p = .ok [.int x, .int y, .int 0] p
@[simp] theorem ev_retNew (ms : MA) (env : En) (p : P3) : sRetNew ms env p = (ms (vwOf env) p).bind fun ds p1 => .ok (.rtl ds, env) p1 := onN_bind ms _
@[simp] theorem outN_bind {α : Type} (r : Res α) (f : α → P3 → Res (Fl × En)) : outN (r.bind f) = r.bind fun a p => outN (f a p) := by cases r <;> rfl
@[simp] theorem outN_rtl (ds : List D) (env : En) (p : P3) : outN (.ok (.rtl ds, env) p) = .ok ds p := rfl
theorem callN_ok {n np : Nat} {m : MS} {ds : List D} {p : P3} (h : ds.length = np) : callN n np m ds p = outN (m (env0 n ds) p) := if_pos h
theorem pow_10_60 : D.powW (.int 10) (.int 60) = some (.int (10 ^ 60)) := rfl
theorem pow_10_300 : D.powW (.int (10 ^ 60)) (.int 5) = some (.int (10 ^ 300)) := by
  unfold D.powW
  dsimp only
  rw [if_pos (by decide +kernel)]
  exact congrArg (fun z => some (D.int z)) (by decide +kernel)
theorem pow_10_18 : D.powW (.int 10) (.int 18) = some (.int (10 ^ 18)) := rfl
theorem pt_ok {c1 c2 m1' m2' m3 : Int} (h1 : Sm c1) (h2 : Sm m1') (h3 : Sm m2') : PtOk (callN 5 2 (ptB c1 c2 m1' m2' m3)) := by
  intro ns i p hi hi'
  have si : Sm i := by unfold Sm; omega
  -- the cell
  have cell : ∃ c : Int, (mIf (toB (m2 (D.cmp fLt) (mVar 1) (mN dLen (mCons (mVar 0) (mNil))))) (m2 D.ix (mVar 0) (mVar 1)) (m2 D.add (m2 D.add (m2 D.fmod (mN dSum (mCons (mSl (mVar 0) (oNo) (oSome (mC (.int 1)))) (mNil))) (mC (.int 1000003))) (m2 D.mul (mC (.int c1)) (mVar 1))) (mC (.int c2)))) [some (.scr ns), some (.int i), none, none, none] p = .ok (.int c) p := by
    by_cases h : i < ns.length
    · have hj : i.toNat < ns.length := by omega
      refine ⟨ns[i.toNat], ?_⟩
      have e : D.ix (.scr ns) (.int i) = some (.int ns[i.toNat]) := by
        show (atI ns i).map D.int = _
        have hlt : i.toNat < ns.length := hj
        simp [atI, ixN, hi, h, hlt]
      simp [h, e]
    · have e : dSum [.lst ((cutL ns none (some 1)).map D.int)] = some (.int (cutL ns none (some 1)).sum) := by
        have := ints_map (fun i => i) (cutL ns none (some 1))
        simp only [List.map_id_fun', id_eq] at this
        show (D.ints _).map _ = _
        rw [this]
        rfl
      refine ⟨(cutL ns none (some 1)).sum.fmod 1000003 + c1 * i + c2, ?_⟩
      simp only [ev_mIf, ev_toB, ev_m2, ev_varS, ev_var0, bind_ok, ev_mN, ev_cons, ev_nil, dLen_scr, ofO_some, cmp_int, asB_bl, decide_eq_false h, Bool.false_eq_true, if_false, ev_sl, ev_oNo, ev_oSome, ev_c, slOnO_int, bind_bind, D.slice, e, fmod_int (show (1000003 : Int) ≠ 0 by decide), h1.mul, add_int]
  obtain ⟨c, hc⟩ := cell
  have ha : 0 ≤ (if c < 0 then -c else c) := by split <;> omega
  generalize hcc : (if c < 0 then -c else c) = a at ha
  have hm : okMul (a.fmod (10 ^ 300)) (if (decide (10 ^ 18 ≤ a)) = true then 1 else 0) = true := okMul_r (by split <;> decide) (by split <;> decide)
  refine ⟨a.fmod (10 ^ 300) * (if (decide (10 ^ 18 ≤ a)) = true then 1 else 0), (c.fmod 2305843009213693951 * m1' + m2' * i * i + m3).fmod 2305843009213693921, ?_, ?_, ?_, ?_⟩
  · exact Int.mul_nonneg (Int.fmod_nonneg_of_pos a (b := 10 ^ 300) (by decide +kernel)) (by split <;> decide)
  · exact Int.fmod_nonneg_of_pos _ (b := 2305843009213693921) (by decide)
  · exact Int.lt_trans (Int.fmod_lt_of_pos _ (by decide)) (by decide)
  · rw [callN_ok (ds := [D.scr ns, D.int i]) (np := 2) rfl]
    unfold ptB
    simp only [ev_seq, ev_xSet, onX_nil, env0, List.map_cons, List.map_nil, List.length_cons, List.length_nil, Nat.reduceSub, Nat.reduceAdd, List.replicate, List.cons_append, List.nil_append, vwOf_p, vwOf_n, vwOf_nil, hc, bind_ok, bindS_nx, bindS_bind, setE_S, setE_0, outN_bind]
    simp only [ev_m2, ev_mN, ev_cons, ev_nil, ev_varS, ev_var0, bind_ok, dAbs_int, hcc, ofO_some, dInt_int, ev_c, pow_10_60, pow_10_300, pow_10_18, fmod_int (show (10 ^ 300 : Int) ≠ 0 by decide +kernel), cmp_int, dInt_bl, mul_int hm, bindS_nx, setE_S, setE_0, ev_seq, ev_xSet, onX_nil, vwOf_p, vwOf_n, vwOf_nil, bind_bind, bindS_bind, fmod_int (show (2305843009213693951 : Int) ≠ 0 by decide),
      ev_retNew, ev_lenOk, h2.mul', h3.mul, si.mul', add_int, fmod_int (show (2305843009213693921 : Int) ≠ 0 by decide), List.length_cons, List.length_nil, outN_bind, outN_rtl]
    rw [if_pos (by decide)]
    rfl
def plB : MS := sRet (mLst (mNL dList2 (mCons (mN dRange (mCons (mN dMax2 (mCons (mC (.int 1)) (mCons (mN dMin2 (mCons (mVar 1) (mCons (mN dLen (mCons (mVar 0) (mNil))) (mNil)))) (mNil)))) (mNil))) (mNil))))
theorem pl_ok {ns : List Int} {m : Int} {p : P3} (h : ns.length ≤ 63) (h0 : 0 ≤ m) (h1 : m ≤ 1000) : ∃ k : Int, 1 ≤ k ∧ k ≤ 1000 ∧ callF 2 2 plB [.scr ns, .int m] p = .ok (.lst (irange 0 k)) p := by
  have e : ∀ k : Int, 1 ≤ k → k ≤ 1000 → rgOk 0 k = true := fun k a b => rgOk_i (by decide) (by omega) (by omega) (by omega)
  have g1 : 1 ≤ (if (if (ns.length : Int) < m then (ns.length : Int) else m) > 1 then (if (ns.length : Int) < m then (ns.length : Int) else m) else 1) := by split <;> omega
  have g2 : (if (if (ns.length : Int) < m then (ns.length : Int) else m) > 1 then (if (ns.length : Int) < m then (ns.length : Int) else m) else 1) ≤ 1000 := by split <;> split <;> omega
  refine ⟨_, g1, g2, ?_⟩
  unfold plB
  simp [env0, e _ g1 g2]
theorem pot0 {x y : Int} (h1 : 0 ≤ x) (h2 : 0 ≤ y) (h3 : y < 2 ^ 61) : Pot 0 (some (x, y, 0)) := ⟨x, y, 0, rfl, h1, h2, h3, by decide, by decide⟩
def wpP (Q : Fl × En → P3 → Prop) : Fl × En → P3 → Prop := fun fe p => p.isSome = true ∧ match fe with
  | (.nx, env2) => Q (.nx, env2.map keepS) none
  | (.ret (.bl b), _) => Q (.ret (.bl b), []) none
  | _ => False
theorem sPot_wp {i : Nat} {ms : MA} {rest : MS} {env : En} {x y z : Int} {Q : Fl × En → P3 → Prop} (h : ms (vwOf env) none = .ok [.int x, .int y, .int z] none) (h2 : (rest (setE env i (.p .pot)) (some (x, y, z))).wp (wpP Q)) : (sPot i ms rest env none).wp Q := by
  unfold sPot
  rw [h]
  dsimp only
  revert h2
  cases rest (setE env i (.p .pot)) (some (x, y, z)) with
  | bad => exact fun z => z
  | err x v p => exact fun z => z
  | ok fe p1 =>
    obtain ⟨fl, e⟩ := fe
    intro h2
    obtain ⟨h3, h4⟩ := h2
    cases p1 with
    | none => cases h3
    | some q =>
      cases fl with
      | nx => exact h4
      | ret d =>
        cases d with
        | bl b => exact h4
        | _ => exact h4.elim
      | bk => exact h4.elim
      | ct => exact h4.elim
      | rtl d => exact h4.elim
end VL

namespace VL
open PySem PySem.Spec PyProof.Rows L2 LamX
/-! ### values of any kind, bent values -/
def oddB (of : List D → P3 → Res D) : MS := sSeq (xSet [] 1 (mLst (lenOk (mCons (mC .non) (mCons (mC (.bl true)) (mCons (mC (.bl false)) (mCons (mC (.int 0)) (mCons (mC (.int 1)) (mCons (m1 D.usub (mC (.int 1))) (mCons (mC (.int 2)) (mCons (mC (.int 1001)) (mCons (mC (.str "")) (mCons (mC (.str "a")) (mCons (mC (.str "map")) (mCons (mC (.str "to")) (mCons (mTup (mNil)) (mCons (mLst (lenOk (mNil))) (mCons (mTup (mCons (mC (.int 0)) (mNil))) (mCons (mTup (mCons (mTup (mNil)) (mNil))) (mCons (mLst (lenOk (mCons (mC (.int 1)) (mNil)))) (mCons (mTup (mCons (mC (.bl true)) (mNil))) (mCons (mTup (mCons (mC .non) (mNil))) (mNil))))))))))))))))))))))) (sSeq (xSet [] 1 (m2 D.add (mVar 1) (mLst (lenOk (mCons (mTup (mCons (mC (.str "a")) (mNil))) (mCons (mTup (mCons (mTup (mCons (mC (.int 0)) (mNil))) (mCons (mTup (mNil)) (mNil)))) (mCons (mTup (mCons (mC (.int 7)) (mNil))) (mCons (mTup (mCons (mC (.int 0)) (mCons (mLst (lenOk (mCons (mC (.int 0)) (mNil)))) (mNil)))) (mCons (mTup (mCons (mTup (mCons (mC (.int 0)) (mNil))) (mCons (mTup (mCons (mTup (mCons (mC (.int 0)) (mCons (mC (.int 1)) (mNil)))) (mNil))) (mNil)))) (mCons (mLst (lenOk (mCons (mTup (mCons (mC (.int 0)) (mNil))) (mCons (mTup (mCons (mTup (mCons (mC (.int 0)) (mCons (mC (.int 0)) (mNil)))) (mNil))) (mNil))))) (mCons (mC (.str "map 0")) (mCons (m2 D.powW (mC (.int 10)) (mC (.int 20))) (mNil))))))))))))) (sRet (mCall (of) (mCons (mVar 0) (mCons (mVar 1) (mNil))))))
def bentB (tk of odd rec : List D → P3 → Res D) : MS := sSeq (xIf [] (bAnd (toB (mIsi "tuple" (mVar 1))) (bAnd (toB (m2 D.ne (mVar 1) (mTup (mNil)))) (toB (m2 (D.cmp fGt) (mCall (tk) (mCons (mVar 0) (mCons (mC (.int 5)) (mNil)))) (mC (.int 0)))))) (sSeq (xSet [] 2 (mCall (tk) (mCons (mVar 0) (mCons (mN dLen (mCons (mVar 1) (mNil))) (mNil))))) (sRet (m2 D.add (m2 D.add (mSl (mVar 1) (oNo) (oSome (mVar 2))) (mTup (mCons (mCall (rec) (mCons (mVar 0) (mCons (m2 D.ix (mVar 1) (mVar 2)) (mNil)))) (mNil)))) (mSl (mVar 1) (oSome (m2 D.add (mVar 2) (mC (.int 1)))) (oNo))))) (sNil)) (sSeq (xIf [] (toB (mIsi "tuple" (mVar 1))) (sRet (mCall (of) (mCons (mVar 0) (mCons (mLst (lenOk (mCons (mLst (mNL dList2 (mCons (mVar 1) (mNil)))) (mCons (mSl (mVar 1) (oSome (mC (.int 1))) (oNo)) (mCons (mSl (mVar 1) (oNo) (oSome (m1 D.usub (mC (.int 1))))) (mCons (m2 D.add (mVar 1) (mSl (mVar 1) (oSome (m1 D.usub (mC (.int 1)))) (oNo))) (mCons (m1 D.rev (mVar 1)) (mCons (mTup (mNil)) (mCons (mC .non) (mNil)))))))))) (mNil))))) (sNil)) (sSeq (xIf [] (toB (mIsi "bool" (mVar 1))) (sRet (mCall (of) (mCons (mVar 0) (mCons (mLst (lenOk (mCons (mNot (mVar 1)) (mCons (mN dInt (mCons (mVar 1) (mNil))) (mCons (mC .non) (mNil)))))) (mNil))))) (sNil)) (sSeq (xIf [] (toB (mIsi "int" (mVar 1))) (sRet (mCall (of) (mCons (mVar 0) (mCons (mLst (lenOk (mCons (m2 D.add (mVar 1) (mC (.int 1))) (mCons (m2 D.sub (mVar 1) (mC (.int 1))) (mCons (m1 D.usub (mVar 1)) (mCons (mN dStr (mCons (mVar 1) (mNil))) (mCons (mC .non) (mCons (m2 D.eq (mVar 1) (mC (.int 1))) (mCons (mTup (mCons (mVar 1) (mNil))) (mNil)))))))))) (mNil))))) (sNil)) (sSeq (xIf [] (toB (mIsi "str" (mVar 1))) (sSeq (xSet [] 3 (mLst (lenOk (mCons (m2 D.add (mVar 1) (mC (.str "a"))) (mCons (mSl (mVar 1) (oNo) (oSome (m1 D.usub (mC (.int 1))))) (mCons (m1 D.upper (mVar 1)) (mCons (mLst (lenOk (mCons (mVar 1) (mNil)))) (mCons (mC (.str "a")) (mCons (mC .non) (mCons (mC (.int 0)) (mCons (mC (.str "")) (mCons (m2 D.add (mC (.str "b")) (mVar 1)) (mCons (m2 D.add (mVar 1) (mC (.str "/"))) (mNil)))))))))))))) (sRet (mCall (of) (mCons (mVar 0) (mCons (mVar 3) (mNil)))))) (sNil)) (sRet (mCall (odd) (mCons (mVar 0) (mNil))))))))
@[simp] theorem bind_pure {α : Type} (r : Res α) : (r.bind fun a p => .ok a p) = r := by cases r <;> rfl
def OddOk (odd : List D → P3 → Res D) : Prop := ∀ (n : Nat) (p : P3) (Q : D → P3 → Prop), Pot n p → n < 2 ^ 60 → (∀ d p', d.sh 5 = true → d.sz ≤ 300 → Pot (n + 1) p' → Q d p') → (odd [.pot] p).wp Q
def oddL : List D := [.non, .bl true, .bl false, .int 0, .int 1, .int (-1), .int 2, .int 1001, .str "", .str "a", .str "map", .str "to", .tup [], .lst [], .tup [.int 0], .tup [.tup []], .lst [.int 1], .tup [.bl true], .tup [.non], .tup [.str "a"], .tup [.tup [.int 0], .tup []], .tup [.int 7], .tup [.int 0, .lst [.int 0]], .tup [.tup [.int 0], .tup [.tup [.int 0, .int 1]]], .lst [.tup [.int 0], .tup [.tup [.int 0, .int 0]]], .str "map 0", .int (10 ^ 20)]
theorem oddL_ok : oddL.all (fun d => d.sh 5 && decide (d.sz ≤ 300)) = true := by decide +kernel
theorem odd_ok {of : List D → P3 → Res D} (T : OfOk of) : OddOk (callF 2 1 (oddB of)) := by
  intro n p Q hp hn q
  rw [callF_ok (ds := [D.pot]) (np := 1) rfl]
  have key : outF (oddB of (env0 2 [.pot]) p) = of [.pot, .lst oddL] p := by
    have pw : D.powW (.int 10) (.int 20) = some (.int (10 ^ 20)) := rfl
    simp [oddB, env0, pw, sizeLine, oddL, D.add]
  rw [key]
  refine T n _ oddL p Q (.inl rfl) hp hn (by simp [oddL]) (by decide) fun d hd p' hp' => ?_
  have := List.all_eq_true.mp oddL_ok d hd
  simp only [Bool.and_eq_true, decide_eq_true_eq] at this
  exact q d p' this.1 this.2 hp'
/-- what can be bent: as what can be shown, numbers and texts not too great -/
def strB (x : Str) : Bool := decide (x.length ≤ 100000) && PyData.strOk x && PyData.strOk (Txt.upper x) && decide ((Txt.upper x).length ≤ 3 * x.length)
def D.nr : Nat → D → Bool
  | _, .non | _, .bl _ => true
  | _, .int i => decide (i.natAbs.log2 < 1000)
  | _, .str x => strB x
  | n + 1, .tup ds => ds.all (D.nr n)
  | n + 1, .lst ds => ds.all (D.nr n)
  | _, _ => false
@[simp] theorem nr_non (n : Nat) : D.nr n .non = true := by cases n <;> rfl
@[simp] theorem nr_bl (n : Nat) (b : Bool) : D.nr n (.bl b) = true := by cases n <;> rfl
@[simp] theorem nr_int (n : Nat) (i : Int) : D.nr n (.int i) = decide (i.natAbs.log2 < 1000) := by cases n <;> rfl
@[simp] theorem nr_str (n : Nat) (x : Str) : D.nr n (.str x) = strB x := by cases n <;> rfl
@[simp] theorem nr_tup (n : Nat) (ds : List D) : D.nr (n + 1) (.tup ds) = ds.all (D.nr n) := rfl
@[simp] theorem nr_lst (n : Nat) (ds : List D) : D.nr (n + 1) (.lst ds) = ds.all (D.nr n) := rfl
theorem Sm.nr {i : Int} (h : Sm i) (n : Nat) : D.nr n (.int i) = true := by
  rw [nr_int]; exact decide_eq_true (Nat.lt_trans h.log (by decide))
theorem nr_sh : ∀ (n : Nat) (d : D), d.nr n = true → d.sh n = true
  | n, .non, _ => by simp
  | n, .bl _, _ => by simp
  | n, .int i, h => by
    have h' : i.natAbs.log2 < 1000 := by simpa using h
    rw [sh_int]; exact decide_eq_true (Nat.lt_trans h' (by decide))
  | n, .str x, h => by
    rw [nr_str] at h
    unfold strB at h
    simp only [Bool.and_eq_true] at h
    rw [sh_str]
    exact h.1.1.2
  | n + 1, .tup ds, h => by
    simp only [nr_tup, sh_tup, List.all_eq_true] at h ⊢
    exact fun x hx => nr_sh n x (h x hx)
  | n + 1, .lst ds, h => by
    simp only [nr_lst, sh_lst, List.all_eq_true] at h ⊢
    exact fun x hx => nr_sh n x (h x hx)
  | 0, .tup _, h => by simp [D.nr] at h
  | 0, .lst _, h => by simp [D.nr] at h
  | n, .dct _, h => by cases n <;> simp [D.nr] at h
  | n, .glb _, h => by cases n <;> simp [D.nr] at h
  | n, .exc _ _, h => by cases n <;> simp [D.nr] at h
  | n, .clo _ _, h => by cases n <;> simp [D.nr] at h
  | n, .pot, h => by cases n <;> simp [D.nr] at h
  | n, .own _, h => by cases n <;> simp [D.nr] at h
  | n, .scr _, h => by cases n <;> simp [D.nr] at h
  | n, .rng _ _, h => by cases n <;> simp [D.nr] at h
theorem nr_mono : ∀ (n : Nat) (d : D), d.nr n = true → d.nr (n + 1) = true
  | 0, d, h => by cases d <;> simp_all [D.nr]
  | n + 1, d, h => by
    cases d with
    | tup ds =>
      simp only [nr_tup, List.all_eq_true] at h ⊢
      exact fun x hx => nr_mono n x (h x hx)
    | lst ds =>
      simp only [nr_lst, List.all_eq_true] at h ⊢
      exact fun x hx => nr_mono n x (h x hx)
    | _ => simpa [D.nr] using h
theorem nr_le {n m : Nat} {d : D} (h : d.nr n = true) (l : n ≤ m) : d.nr m = true := by
  induction m with
  | zero => rw [Nat.le_zero.mp l] at h; exact h
  | succ m ih =>
    by_cases e : n = m + 1
    · subst e; exact h
    · exact nr_mono m d (ih (by omega))
def BentOk (f : List D → P3 → Res D) (k : Nat) : Prop := ∀ (n : Nat) (v : D) (p : P3) (Q : D → P3 → Prop), Pot n p → n + 2 * k + 10 < 2 ^ 60 → v.nr k = true → k ≤ 50 → v.sz ≤ 1000000 → (∀ d p', d.sh (k + 5) = true → d.sz ≤ 12 * v.sz + 1000 → Pot (n + (2 * k + 2)) p' → Q d p') → (f [.pot, v] p).wp Q
@[simp] theorem eq_int' (a b : Int) : D.eq (.int a) (.int b) = some (.bl (a == b)) := by
  show D.eqP (.int a) (.int b) = _
  unfold D.eqP
  rw [if_pos (by simp [D.plain])]
  show some (D.bl (PyData.eqv (.int a) (.int b))) = _
  simp [PyData.eqv]
@[simp] theorem ne_int' (a b : Int) : D.ne (.int a) (.int b) = some (.bl (!(a == b))) := by
  show D.neP (.int a) (.int b) = _
  unfold D.neP
  rw [if_pos (by simp [D.plain])]
  show some (D.bl (!PyData.eqv (.int a) (.int b))) = _
  simp [PyData.eqv]
@[simp] theorem strOk_of (s : String) : PyData.strOk (Str.ofString s) = true := by
  unfold PyData.strOk
  rw [Str.ofString_eq_toList, Array.all_eq_true']
  intro x hx
  simp only [List.mem_toArray, List.mem_map] at hx
  obtain ⟨c, _, rfl⟩ := hx
  have h := c.valid
  simp only [UInt32.isValidChar, Nat.isValidChar] at h
  have : c.toNat = c.val.toNat := rfl
  simp only [decide_eq_true_eq]
  omega
theorem strOk_append {x y : Str} (h : PyData.strOk x = true) (h2 : PyData.strOk y = true) : PyData.strOk (x ++ y) = true := by
  unfold PyData.strOk at h h2 ⊢
  show Array.all (x.cps ++ y.cps) _ = true
  rw [Array.all_append, h, h2]
  rfl
theorem ne_tup_nil {ds : List D} (h : D.plain 60 (.tup ds) = true) : D.ne (.tup ds) (.tup []) = some (.bl (!ds.isEmpty)) := by
  show D.neP (.tup ds) (.tup []) = _
  unfold D.neP
  rw [if_pos (by rw [h]; rfl)]
  cases ds with
  | nil => simp [D.eqv, D.py, D.pys, PyData.eqv, PyData.eqvAll]
  | cons d ds => simp [D.eqv, D.py, D.pys, PyData.eqv, PyData.eqvAll]
theorem bent_ok {tk of odd rec : List D → P3 → Res D} (T : TkOk tk) (O : OfOk of) (W : OddOk odd) (k : Nat) (R : ∀ j, j + 1 = k → BentOk rec j) : BentOk (callF 4 2 (bentB tk of odd rec)) k := by
  intro n v p Q hp hn hv hk hz q
  rw [callF_ok (ds := [D.pot, v]) (np := 2) rfl]
  have toodd : (odd [.pot] p).wp Q := W n p Q hp (by omega) fun d p' h1 h2 h3 => q d p' (sh_le h1 (by omega)) (by omega) (h3.mono (by omega))
  cases v with
  | non => simp [bentB, env0]; exact toodd
  | lst ds => simp [bentB, env0]; exact toodd
  | bl b =>
    simp [bentB, env0, sizeLine]
    refine O n _ _ p Q (.inl rfl) hp (by omega) (by simp) (by simp) fun d hd p' hp' => ?_
    have : d.sh (k + 5) = true ∧ d.sz ≤ 1000 := by
      simp only [List.mem_cons, List.not_mem_nil, or_false] at hd
      rcases hd with rfl | rfl | rfl
      · simp [D.sz]
      · cases b <;> simp [D.sz] <;> decide
      · simp [D.sz]
    exact q d p' this.1 (by omega) (hp'.mono (by omega))
  | int i =>
    have hl : i.natAbs.log2 < 1000 := by simpa using hv
    have hs : dStr [.int i] = some (.str (toString i)) := if_pos (Nat.lt_trans hl (by decide))
    simp [bentB, env0, sizeLine, hs]
    refine O n _ _ p Q (.inl rfl) hp (by omega) (by simp) (by simp) fun d hd p' hp' => ?_
    have hi : i.natAbs < 2 ^ 1000 := lt_two_pow_of_log2_lt hl
    have big : ∀ j : Int, j.natAbs < 2 ^ 1000 + 2 → j.natAbs.log2 < 1001 := fun j h => log2_lt_of (by decide) (Nat.lt_trans h (by decide +kernel))
    have ok : ∀ j : Int, j.natAbs < 2 ^ 1000 + 2 → (D.int j).sh (k + 5) = true ∧ (D.int j).sz ≤ 1010 := fun j h => by
      have := big j h
      exact ⟨by rw [sh_int]; exact decide_eq_true (by omega), by simp only [D.sz]; omega⟩
    have : d.sh (k + 5) = true ∧ d.sz ≤ 12 * (D.int i).sz + 1000 := by
      have z : (D.int i).sz = i.natAbs.log2 + 3 := rfl
      simp only [List.mem_cons, List.not_mem_nil, or_false] at hd
      rcases hd with rfl | rfl | rfl | rfl | rfl | rfl | rfl
      · have := ok (i + 1) (by omega); exact ⟨this.1, by omega⟩
      · have := ok (i - 1) (by omega); exact ⟨this.1, by omega⟩
      · have := ok (-i) (by omega); exact ⟨this.1, by omega⟩
      · refine ⟨by rw [sh_str]; exact strOk_of _, ?_⟩
        have := int_text_length_le (a := i) (k := i.natAbs.log2 + 1) (Nat.succ_pos _) (Nat.lt_succ_self _)
        show 10 * (Str.ofString (toString i)).length + 2 ≤ _
        rw [PySem.ofString_length]
        omega
      · simp [D.sz]
      · simp [D.sz]
      · have := ok i (by omega)
        refine ⟨?_, ?_⟩
        · show ([D.int i] : List D).all (D.sh (k + 4)) = true
          simp only [List.all_cons, List.all_nil, Bool.and_true]
          have := big i (by omega)
          rw [sh_int]; exact decide_eq_true (by omega)
        · show 3 + (_ + 2 + 0) ≤ _
          omega
    exact q d p' this.1 this.2 (hp'.mono (by omega))
  | str x =>
    have hx : strB x = true := by simpa using hv
    unfold strB at hx
    simp only [Bool.and_eq_true, decide_eq_true_eq] at hx
    obtain ⟨⟨⟨h1, h2⟩, h3⟩, h4⟩ := hx
    have z : (D.str x).sz = 10 * x.length + 2 := rfl
    have e1 : ∀ w : Str, w.length ≤ 10 → D.add (.str x) (.str w) = some (.str (x ++ w)) := fun w h => if_pos (by have : sizeLine = 2 ^ 24 := rfl; omega)
    have e2 : ∀ w : Str, w.length ≤ 10 → D.add (.str w) (.str x) = some (.str (w ++ x)) := fun w h => if_pos (by have : sizeLine = 2 ^ 24 := rfl; omega)
    have e3 : D.slice (.str x) none (some (-1)) = some (.str (cutS x none (some (-1)))) := if_pos (by have : sizeLine = 2 ^ 24 := rfl; omega)
    have e4 : D.upper (.str x) = some (.str (Txt.upper x)) := if_pos (by omega)
    have l1 : (Str.ofString "a").length ≤ 10 := by decide
    have l2 : (Str.ofString "/").length ≤ 10 := by decide
    have l3 : (Str.ofString "b").length ≤ 10 := by decide
    simp [bentB, env0, sizeLine, e1 _ l1, e1 _ l2, e2 _ l3, e3, e4]
    refine O n _ _ p Q (.inl rfl) hp (by omega) (by simp) (by simp) fun d hd p' hp' => ?_
    have : d.sh (k + 5) = true ∧ d.sz ≤ 12 * (D.str x).sz + 1000 := by
      simp only [List.mem_cons, List.not_mem_nil, or_false] at hd
      rcases hd with rfl | rfl | rfl | rfl | rfl | rfl | rfl | rfl | rfl | rfl
      · refine ⟨by rw [sh_str]; exact strOk_append h2 (strOk_of _), ?_⟩
        show 10 * (x ++ Str.ofString "a").length + 2 ≤ _
        rw [strLen_append]; omega
      · refine ⟨?_, ?_⟩
        · rw [sh_str]
          unfold PyData.strOk at h2 ⊢
          rw [Array.all_eq_true'] at h2 ⊢
          intro c hc
          refine h2 c ?_
          have : c ∈ cutL x.cps.toList none (some (-1)) := by simpa [cutS, cutL, Str.length] using hc
          rw [cutL_m1] at this
          simpa using List.mem_of_mem_take this
        · have : (cutS x none (some (-1))).length ≤ x.length := by
            show (List.toArray _).size ≤ _
            rw [List.size_toArray, List.length_take, List.length_drop, Array.length_toList]
            show _ ≤ x.cps.size
            omega
          show 10 * _ + 2 ≤ _
          omega
      · refine ⟨by rw [sh_str]; exact h3, ?_⟩
        show 10 * _ + 2 ≤ _
        omega
      · refine ⟨?_, ?_⟩
        · show ([D.str x] : List D).all (D.sh (k + 4)) = true
          simp only [List.all_cons, List.all_nil, Bool.and_true, sh_str]
          exact h2
        · show 2 + (_ + 2 + 0) ≤ _
          omega
      · exact ⟨by rw [sh_str]; exact strOk_of _, by show 10 * (Str.ofString "a").length + 2 ≤ _; omega⟩
      · simp [D.sz]
      · exact ⟨by rw [sh_int]; decide, by simp [D.sz]⟩
      · refine ⟨by rw [sh_str]; exact strOk_of _, ?_⟩
        have e0 : (Str.ofString "").length = 0 := by decide
        show 10 * (Str.ofString "").length + 2 ≤ _
        omega
      · refine ⟨by rw [sh_str]; exact strOk_append (strOk_of _) h2, ?_⟩
        show 10 * (Str.ofString "b" ++ x).length + 2 ≤ _
        rw [strLen_append]; omega
      · refine ⟨by rw [sh_str]; exact strOk_append h2 (strOk_of _), ?_⟩
        show 10 * (x ++ Str.ofString "/").length + 2 ≤ _
        rw [strLen_append]; omega
    exact q d p' this.1 this.2 (hp'.mono (by omega))
  | tup ds =>
    cases k with
    | zero => simp [D.nr] at hv
    | succ k =>
    have hpl : D.plain 60 (.tup ds) = true := D.plain_le (sh_plain _ _ (nr_sh _ _ hv)) (by omega)
    have hall : ∀ d ∈ ds, d.nr k = true := by simpa [List.all_eq_true] using hv
    have hsz : (D.tup ds).sz = 3 + D.szs ds := rfl
    have hlen := len_szs ds
    have sl : sizeLine = 2 ^ 24 := rfl
    have alls : ∀ d ∈ ds, d.sh (k + 5) = true := fun d hd => sh_le (nr_sh _ _ (hall d hd)) (by omega)
    -- the way that takes the tuple whole
    have whole : ∀ m p, m ≤ n + 1 → Pot m p → (of [.pot, .lst [.lst ds, .tup ds.tail, .tup (ds.take (ds.length - 1)), .tup (ds ++ ds.drop (ds.length - 1)), .tup ds.reverse, .tup [], .non]] p).wp Q := fun m p hm hp => by
      refine O m _ _ p Q (.inl rfl) hp (by omega) (by simp) (by simp) fun d hd p' hp' => ?_
      rw [← List.drop_one] at hd
      have : d.sh (k + 1 + 5) = true ∧ d.sz ≤ 12 * (D.tup ds).sz + 1000 := by
        have t1 := szs_drop ds 1
        have t2 := szs_take ds (ds.length - 1)
        have t3 := szs_drop ds (ds.length - 1)
        have t4 := szs_append ds (ds.drop (ds.length - 1))
        have t5 := szs_reverse ds
        simp only [List.mem_cons, List.not_mem_nil, or_false] at hd
        rcases hd with rfl | rfl | rfl | rfl | rfl | rfl | rfl
        · exact ⟨List.all_eq_true.mpr alls, by simp only [D.sz]; omega⟩
        · exact ⟨List.all_eq_true.mpr fun d hd => alls d (List.mem_of_mem_drop hd), by simp only [D.sz]; omega⟩
        · exact ⟨List.all_eq_true.mpr fun d hd => alls d (List.mem_of_mem_take hd), by simp only [D.sz]; omega⟩
        · exact ⟨List.all_eq_true.mpr fun d hd => (List.mem_append.mp hd).elim (alls d) fun h => alls d (List.mem_of_mem_drop h), by simp only [D.sz]; omega⟩
        · exact ⟨List.all_eq_true.mpr fun d hd => alls d (List.mem_reverse.mp hd), by simp only [D.sz]; omega⟩
        · exact ⟨rfl, by simp only [D.sz, D.szs]; omega⟩
        · exact ⟨by simp, by simp only [D.sz]; omega⟩
      exact q d p' this.1 this.2 (hp'.mono (by omega))
    have la : D.add (.tup ds) (.tup (ds.drop (ds.length - 1))) = some (.tup (ds ++ ds.drop (ds.length - 1))) := if_pos (by rw [List.length_drop]; omega)
    cases ds with
    | nil =>
      simp [bentB, env0, ne_tup_nil hpl, sizeLine, la]
      exact whole n p (by omega) hp
    | cons d0 ds0 =>
    generalize hds : d0 :: ds0 = ds at *
    have hne : ds.isEmpty = false := by rw [← hds]; rfl
    have h0 : 0 < ds.length := by rw [← hds]; exact Nat.succ_pos _
    simp [bentB, env0, ne_tup_nil hpl, sizeLine, hne]
    refine T n 5 p _ hp (by omega) (by decide) (by decide) fun r p1 r0 r1 hp1 => ?_
    simp
    by_cases hr : 0 < r
    · simp [hr]
      refine T (n + 1) ds.length p1 _ hp1 (by omega) (by omega) (by omega) fun a p2 a0 a1 hp2 => ?_
      obtain ⟨e, he, hm⟩ := atI_mem a0 a1
      have ha : a.toNat < ds.length := by omega
      have hcut : cutL ds none (some a) = ds.take a.toNat := cutL_to ds a0
      have hcut2 : cutL ds (some (a + 1)) none = ds.drop (a + 1).toNat := cutL_from ds (by omega)
      have hez := sz_mem hm
      have heq : ds[a.toNat]? = some e := by
        have h2 : atI ds a = ds[a.toNat]? := by simp [atI, ixN, a0, a1]
        rw [← h2]; exact he
      simp [ix_tup, he, hcut, hcut2]
      refine R k rfl (n + 2) e p2 _ hp2 (by omega) (hall e hm) (by omega) (by omega) fun b p3 b1 b2 hp3 => ?_
      have ad1 : D.add (.tup (ds.take a.toNat)) (.tup [b]) = some (.tup (ds.take a.toNat ++ [b])) := if_pos (by rw [List.length_take]; simp; omega)
      have ad2 : D.add (.tup (ds.take a.toNat ++ [b])) (.tup (ds.drop (a + 1).toNat)) = some (.tup (ds.take a.toNat ++ [b] ++ ds.drop (a + 1).toNat)) := if_pos (by rw [List.length_append, List.length_take, List.length_drop]; simp; omega)
      simp [ad1, ad2]
      refine q _ _ ?_ ?_ (hp3.mono (by omega))
      · show List.all _ _ = true
        refine List.all_eq_true.mpr fun d hd => ?_
        simp only [List.mem_append, List.mem_cons, List.not_mem_nil, or_false] at hd
        rcases hd with hd | rfl | hd
        · exact alls d (List.mem_of_mem_take hd)
        · exact b1
        · exact alls d (List.mem_of_mem_drop hd)
      · have t : D.szs ds = D.szs (ds.take a.toNat) + (e.sz + 2) + D.szs (ds.drop (a + 1).toNat) := by
          have h3 : ds = ds.take a.toNat ++ e :: ds.drop (a + 1).toNat := by
            have : (a + 1).toNat = a.toNat + 1 := by omega
            rw [this]
            obtain ⟨hj, e2⟩ := List.getElem?_eq_some_iff.mp heq
            rw [← e2]
            rw [← List.drop_eq_getElem_cons hj, List.take_append_drop]
          conv => lhs; rw [h3]
          rw [szs_append]
          simp only [D.szs]
          omega
        simp only [D.sz, szs_append, D.szs]
        omega
    · simp [hr, la, sizeLine]
      exact whole (n + 1) p1 (by omega) hp1
  | _ => cases k <;> simp [D.nr] at hv
end VL

namespace VL
open PySem PySem.Spec PyProof.Rows L2 LamX
/-! ### comprehensions as maps -/
section
variable {α β : Type} {p : P3}
@[simp] theorem strict_ok (a : α) (p : P3) : strict (.ok a p) = .ok a p := rfl
@[simp] theorem strict_bad : strict (.bad : Res α) = .bad := rfl
@[simp] theorem strict_err (x : Str) (v : D) (p : P3) : strict (.err x v p : Res α) = .bad := rfl
@[simp] theorem strict_bind (r : Res α) (f : α → P3 → Res β) : strict (r.bind f) = (strict r).bind fun a p => strict (f a p) := by cases r <;> rfl
@[simp] theorem strict_ite (c : Prop) [Decidable c] (a b : Res α) : strict (if c then a else b) = if c then strict a else strict b := by split <;> rfl
@[simp] theorem wp_strict (r : Res α) (Q : α → P3 → Prop) : (strict r).wp Q = r.wp Q := by cases r <;> rfl
def lcM (g : α → P3 → Res (Option D)) : List α → P3 → Res (List D)
  | [], p => .ok [] p
  | x :: xs, p => (g x p).bind fun o p1 => match o with
    | none => lcM g xs p1
    | some y => (lcM g xs p1).bind fun ys p2 => .ok (y :: ys) p2
def onVw (o : Option Vw) (k : Vw → Res (Option D)) : Res (Option D) := match o with
  | none => .bad
  | some v => k v
@[simp] theorem onVw_some (v : Vw) (k : Vw → Res (Option D)) : onVw (some v) k = k v := rfl
@[simp] theorem ev_lcGo (bind : D → Vw → Option Vw) (mt : MB) (me : ME) (vw : Vw) : ∀ (ds : List D) (p : P3), lcGo bind mt me vw ds p = lcM (fun d p => onVw (bind d vw) fun v => (strict (mt v p)).bind fun k p1 => if k = true then (strict (me v p1)).bind fun y p2 => .ok (some y) p2 else .ok none p1) ds p
  | [], p => rfl
  | d :: ds, p => by
    unfold lcGo lcM
    cases bind d vw with
    | none => rfl
    | some v =>
      simp only [onVw_some]
      cases mt v p with
      | bad => rfl
      | err x v p => rfl
      | ok k p1 =>
        simp only [strict_ok, bind_ok]
        cases k with
        | false => simp only [Bool.false_eq_true, if_false, bind_ok]; exact ev_lcGo bind mt me vw ds p1
        | true =>
          simp only [if_true]
          cases me v p1 with
          | bad => rfl
          | err x v p => rfl
          | ok y p2 => simp only [strict_ok, bind_ok]; rw [ev_lcGo bind mt me vw ds p2]
@[simp] theorem lcM_nil (g : α → P3 → Res (Option D)) : lcM g [] p = .ok [] p := rfl
theorem lcM_cons (g : α → P3 → Res (Option D)) (x : α) (xs : List α) : lcM g (x :: xs) p = (g x p).bind fun o p1 => match o with
    | none => lcM g xs p1
    | some y => (lcM g xs p1).bind fun ys p2 => .ok (y :: ys) p2 := rfl
@[simp] theorem lcM_mapL (g : β → P3 → Res (Option D)) (h : α → β) : ∀ (xs : List α) (p : P3), lcM g (xs.map h) p = lcM (fun x => g (h x)) xs p
  | [], p => rfl
  | x :: xs, p => by
    simp only [List.map_cons, lcM_cons]
    congr
    funext o p1
    cases o with
    | none => exact lcM_mapL g h xs p1
    | some y => simp only [lcM_mapL g h xs p1]
@[simp] theorem lcM_pure (F : α → D) : ∀ (xs : List α) (p : P3), lcM (fun x p => .ok (some (F x)) p) xs p = .ok (xs.map F) p
  | [], p => rfl
  | x :: xs, p => by simp [lcM_cons, lcM_pure F xs p]
@[simp] theorem lcM_filt (c : α → Prop) [DecidablePred c] (F : α → D) : ∀ (xs : List α) (p : P3), lcM (fun x p => if c x then .ok (some (F x)) p else .ok none p) xs p = .ok ((xs.filter fun x => decide (c x)).map F) p
  | [], p => rfl
  | x :: xs, p => by
    by_cases h : c x
    · simp [lcM_cons, lcM_filt c F xs p, h]
    · simp [lcM_cons, lcM_filt c F xs p, h]
@[simp] theorem lcm_and (c c' : Prop) [Decidable c] [Decidable c'] (y : D) : (if c then (if c' then Res.ok (some y) p else Res.ok none p) else Res.ok none p) = if c ∧ c' then Res.ok (some y) p else Res.ok none p := by
  by_cases h : c <;> by_cases h' : c' <;> simp [h, h']
@[simp] theorem ite_okS_or (c : Prop) [Decidable c] (b : Bool) : (if c then Res.ok (some (D.bl true)) p else Res.ok (some (D.bl b)) p) = Res.ok (some (D.bl (decide c || b))) p := by split <;> simp [*]
@[simp] theorem ite_okS_and (c : Prop) [Decidable c] (b : Bool) : (if c then Res.ok (some (D.bl b)) p else Res.ok (some (D.bl false)) p) = Res.ok (some (D.bl (decide c && b))) p := by split <;> simp [*]
theorem lcM_congr {g g' : α → P3 → Res (Option D)} : ∀ {xs : List α} {p : P3}, (∀ x ∈ xs, ∀ p, g x p = g' x p) → lcM g xs p = lcM g' xs p
  | [], p, h => rfl
  | x :: xs, p, h => by
    have ih : ∀ p, lcM g xs p = lcM g' xs p := fun p => lcM_congr fun y hy => h y (List.mem_cons_of_mem _ hy)
    simp only [lcM_cons, h x List.mem_cons_self]
    congr
    funext o p1
    cases o with
    | none => exact ih p1
    | some y => simp only [ih p1]
/-- one that draws -/
theorem lcM_wp {g : α → P3 → Res (Option D)} {Q : List D → P3 → Prop} (I : List α → List D → P3 → Prop)
    (step : ∀ x xs ys p, I (x :: xs) ys p → (g x p).wp fun o p1 => match o with
      | none => I xs ys p1
      | some y => I xs (ys ++ [y]) p1) :
    ∀ (xs : List α) (acc : List D) (p : P3), I xs acc p → (∀ ys p, I [] (acc ++ ys) p → Q ys p) → (lcM g xs p).wp Q
  | [], acc, p, h, fin => fin [] p (by rw [List.append_nil]; exact h)
  | x :: xs, acc, p, h, fin => by
    have q := step x xs acc p h
    rw [lcM_cons]
    cases r : g x p with
    | bad => rw [r] at q; exact q
    | err x v p1 => rw [r] at q; exact q
    | ok o p1 =>
      rw [r] at q
      cases o with
      | none => exact lcM_wp I step xs acc p1 q fin
      | some y =>
        simp only [bind_ok, wp_bind, wp_ok]
        exact lcM_wp I step xs (acc ++ [y]) p1 q fun ys p h => fin (y :: ys) p (by rw [List.append_assoc] at h; exact h)
/-- each draw gives such a value -/
theorem lcM_each {g : α → P3 → Res (Option D)} {Q : List D → P3 → Prop} (c : Nat) (G : D → Prop) {N : Nat} (step : ∀ x n p, Pot n p → n ≤ N → (g x p).wp fun o p1 => ∃ y, o = some y ∧ G y ∧ Pot (n + c) p1) :
    ∀ (xs : List α) (n : Nat) (p : P3), Pot n p → n + c * xs.length ≤ N → (∀ ys p', (∀ y ∈ ys, G y) → ys.length = xs.length → Pot (n + c * xs.length) p' → Q ys p') → (lcM g xs p).wp Q
  | [], n, p, h, hn, fin => fin [] p (fun y hy => nomatch hy) rfl h
  | x :: xs, n, p, h, hn, fin => by
    have e : c * (x :: xs).length = c + c * xs.length := by rw [List.length_cons, Nat.mul_succ, Nat.add_comm]
    have q := step x n p h (by omega)
    rw [lcM_cons]
    cases r : g x p with
    | bad => rw [r] at q; exact q.elim
    | err x v p1 => rw [r] at q; exact q.elim
    | ok o p1 =>
      rw [r] at q
      obtain ⟨y, rfl, hy, hp⟩ := q
      simp only [bind_ok, wp_bind, wp_ok]
      refine lcM_each c G step xs (n + c) p1 hp (by omega) fun ys p' h1 h2 h3 => fin (y :: ys) p' (fun z hz => ?_) (by simp [h2]) (by rw [e, ← Nat.add_assoc]; exact h3)
      rcases List.mem_cons.mp hz with rfl | hz
      · exact hy
      · exact h1 z hz
end
/-! ### whole numbers of a range -/
def ir (lo hi : Int) : List Int := (List.range (hi - lo).toNat).map fun (i : Nat) => lo + (i : Int)
@[simp] theorem irange_ir (lo hi : Int) : irange lo hi = (ir lo hi).map D.int := by simp [irange, ir]
theorem mem_ir {lo hi i : Int} : i ∈ ir lo hi ↔ lo ≤ i ∧ i < hi := by
  unfold ir
  simp only [List.mem_map, List.mem_range]
  constructor
  · rintro ⟨j, h, rfl⟩
    omega
  · intro h
    exact ⟨(i - lo).toNat, by omega, by omega⟩
@[simp] theorem ir_length (lo hi : Int) : (ir lo hi).length = (hi - lo).toNat := by simp [ir]
theorem ir_cons {lo hi : Int} (h : lo < hi) : ir lo hi = lo :: ir (lo + 1) hi := by
  unfold ir
  have e : (hi - lo).toNat = (hi - (lo + 1)).toNat + 1 := by omega
  rw [e, List.range_succ_eq_map]
  simp only [List.map_cons, List.map_map]
  congr 1
  · simp
  · refine List.map_congr_left fun j _ => ?_
    simp only [Function.comp_apply]
    omega
theorem ir_nil {lo hi : Int} (h : hi ≤ lo) : ir lo hi = [] := by
  unfold ir
  rw [show (hi - lo).toNat = 0 by omega]
  rfl
/-! ### values of any kind: is it an integer, a tuple -/
def isI (lo hi : Int) : D → Bool
  | .int i => decide (lo ≤ i) && decide (i ≤ hi)
  | _ => false
@[simp] theorem isI_int (lo hi i : Int) : isI lo hi (.int i) = (decide (lo ≤ i) && decide (i ≤ hi)) := rfl
def isTB : MS := sRet (mAnd (mIsi "tuple" (mVar 0)) (mChain (D.cmp fLe) (D.cmp fLe) (mVar 1) (mN dLen (mCons (mVar 0) (mNil))) (mVar 2)))
def isT (a b : Int) : D → Bool
  | .tup ds => decide (a ≤ ds.length) && decide (ds.length ≤ b)
  | _ => false
@[simp] theorem isT_tup (a b : Int) (ds : List D) : isT a b (.tup ds) = (decide (a ≤ ds.length) && decide (ds.length ≤ b)) := rfl
theorem isT_ok {n : Nat} {d : D} (h : d.sh n = true) (a b : Int) (p : P3) : callF 3 3 isTB [d, .int a, .int b] p = .ok (.bl (isT a b d)) p := by
  rw [callF_ok (ds := [d, D.int a, D.int b]) (np := 3) rfl]
  cases d with
  | non => simp [isTB, env0, isT]
  | bl b => simp [isTB, env0, isT]
  | int i => simp [isTB, env0, isT]
  | str x => simp [isTB, env0, isT]
  | tup ds => simp [isTB, env0, isT]
  | lst ds => simp [isTB, env0, isT]
  | _ => cases n <;> simp [D.sh] at h
def isWB : MS := sRet (mAnd (mIsi "int" (mVar 0)) (mNot (mIsi "bool" (mVar 0))))
def isIB (w : List D → P3 → Res D) : MS := sRet (mAnd (mCall (w) (mCons (mVar 0) (mNil))) (mChain (D.cmp fLe) (D.cmp fLe) (mVar 1) (mVar 0) (mVar 2)))
def isW : D → Bool
  | .int _ => true
  | _ => false
theorem isW_ok {n : Nat} {d : D} (h : d.sh n = true) (p : P3) : callF 1 1 isWB [d] p = .ok (.bl (isW d)) p := by
  rw [callF_ok (ds := [d]) (np := 1) rfl]
  cases d with
  | non => simp [isWB, env0, isW]
  | bl b => simp [isWB, env0, isW]
  | int i => simp [isWB, env0, isW]
  | str x => simp [isWB, env0, isW]
  | tup ds => simp [isWB, env0, isW]
  | lst ds => simp [isWB, env0, isW]
  | _ => cases n <;> simp [D.sh] at h
theorem isI_ok {n : Nat} {d : D} (h : d.sh n = true) (a b : Int) (p : P3) : callF 3 3 (isIB (callF 1 1 isWB)) [d, .int a, .int b] p = .ok (.bl (isI a b d)) p := by
  rw [callF_ok (ds := [d, D.int a, D.int b]) (np := 3) rfl]
  have e := isW_ok h p
  unfold isIB
  cases d with
  | int i => simp [env0, -ev_callF, e, isI, isW]
  | _ => simp [env0, -ev_callF, e, isI, isW]
/-- the law's own -/
def lIB : MS := sRet (mAnd (mIsi "int" (mVar 0)) (mAnd (mNot (mIsi "bool" (mVar 0))) (mChain (D.cmp fLe) (D.cmp fLe) (mVar 1) (mVar 0) (mVar 2))))
theorem lI_ok {n : Nat} {d : D} (h : d.sh n = true) (a b : Int) (p : P3) : callF 3 3 lIB [d, .int a, .int b] p = .ok (.bl (isI a b d)) p := by
  rw [callF_ok (ds := [d, D.int a, D.int b]) (np := 3) rfl]
  cases d with
  | non => simp [lIB, env0, isI]
  | bl b => simp [lIB, env0, isI]
  | int i => simp [lIB, env0, isI]
  | str x => simp [lIB, env0, isI]
  | tup ds => simp [lIB, env0, isI]
  | lst ds => simp [lIB, env0, isI]
  | _ => cases n <;> simp [D.sh] at h
theorem shV {α : Type} (f : α → D) {n : Nat} (h : ∀ x, (f x).sh n = true) (l : List α) : (l.map f).all (D.sh n) = true := by
  simp [List.all_map, h]
@[simp] theorem allB {α : Type} (t : α → Bool) (l : List α) : dAll [.lst (l.map fun x => .bl (t x))] = some (.bl (l.all t)) := dAll_map t l
@[simp] theorem anyB {α : Type} (t : α → Bool) (l : List α) : dAny [.lst (l.map fun x => .bl (t x))] = some (.bl (l.any t)) := dAny_map t l
/-! texts that are written -/
theorem char_inj {a b : Char} (h : a.toNat = b.toNat) : a = b := by
  apply Char.ext
  apply UInt32.toNat_inj.mp
  exact h
@[simp] theorem ofString_inj {a b : String} : Str.ofString a = Str.ofString b ↔ a = b := by
  constructor
  · intro h
    rw [Str.ofString_eq_toList, Str.ofString_eq_toList] at h
    have h2 : (a.toList.map Char.toNat).toArray = (b.toList.map Char.toNat).toArray := congrArg Str.cps h
    have h3 : a.toList.map Char.toNat = b.toList.map Char.toNat := by simpa using h2
    have h4 : a.toList = b.toList := (List.map_inj_right fun x y e => char_inj e).mp h3
    exact String.toList_inj.mp h4
  · rintro rfl; rfl
@[simp] theorem ofString_beq {a b : String} : (Str.ofString a == Str.ofString b) = (a == b) := by
  rw [Bool.eq_iff_iff]; simp
end VL

namespace VL
open PySem PySem.Spec PyProof.Rows L2 LamX
/-! ### loops by what they do -/
section
variable {α : Type} {bind : D → En → Option En} {mb : MS} {Q : Fl × En → P3 → Prop}
/-- a search: the first that gives something is returned -/
theorem forL_find (h : α → D) (f : α → Option D) (E : En → Prop) {p : P3} : ∀ (xs : List α) (env : En),
    (∀ x ∈ xs, ∀ env, E env → ∃ env1, bind (h x) env = some env1 ∧ (mb env1 p).wp fun fe p1 => p1 = p ∧ match f x with
      | some d => ∃ e, fe = (.ret d, e)
      | none => ∃ e, fe = (.nx, e) ∧ E e) →
    E env → (match xs.findSome? f with
      | some d => ∀ e, Q (.ret d, e) p
      | none => ∀ e, E e → Q (.nx, e) p) → (forL bind mb (xs.map h) env p).wp Q
  | [], env, step, hE, q => q env hE
  | x :: xs, env, step, hE, q => by
    obtain ⟨env1, e, w⟩ := step x List.mem_cons_self env hE
    simp only [List.map_cons]
    unfold forL
    rw [e]
    dsimp only
    cases r : mb env1 p with
    | bad => rw [r] at w; exact w.elim
    | err x v p1 => rw [r] at w; exact w.elim
    | ok fe p1 =>
      rw [r] at w
      obtain ⟨rfl, w⟩ := w
      simp only [List.findSome?_cons] at q
      cases hf : f x with
      | some d =>
        rw [hf] at w q
        obtain ⟨e2, rfl⟩ := w
        exact q e2
      | none =>
        rw [hf] at w q
        obtain ⟨e2, rfl, hE2⟩ := w
        exact forL_find h f E xs e2 (fun y hy => step y (List.mem_cons_of_mem _ hy)) hE2 q
/-- each turn keeps what is said of the state; the loop may be left by return -/
theorem forL_each (h : α → D) (E : En → Prop) {p : P3} (fin : ∀ e, E e → Q (.nx, e) p) : ∀ (xs : List α) (env : En),
    (∀ x ∈ xs, ∀ env, E env → ∃ env1, bind (h x) env = some env1 ∧ (mb env1 p).wp (wpL Q fun e p1 => p1 = p ∧ E e)) → E env → (forL bind mb (xs.map h) env p).wp Q
  | [], env, step, hE => fin env hE
  | x :: xs, env, step, hE => by
    obtain ⟨env1, e, w⟩ := step x List.mem_cons_self env hE
    have go : ∀ e2, E e2 → (forL bind mb (xs.map h) e2 p).wp Q := fun e2 hE2 => forL_each h E fin xs e2 (fun y hy => step y (List.mem_cons_of_mem _ hy)) hE2
    simp only [List.map_cons]
    unfold forL
    rw [e]
    dsimp only
    cases r : mb env1 p with
    | bad => rw [r] at w; exact w.elim
    | err x v p1 => rw [r] at w; exact w.elim
    | ok fe p1 =>
      rw [r] at w
      obtain ⟨fl, e2⟩ := fe
      cases fl with
      | nx => obtain ⟨rfl, w⟩ := w; exact go e2 w
      | ct => obtain ⟨rfl, w⟩ := w; exact go e2 w
      | bk => exact w
      | ret d => exact w
      | rtl d => exact w.elim
/-- a fold over what is said of the state -/
theorem forL_fold {β : Type} (h : α → D) (E : β → En → Prop) (f : β → α → β) {p : P3} : ∀ (xs : List α) (b : β) (env : En),
    (∀ x ∈ xs, ∀ b env, E b env → ∃ env1, bind (h x) env = some env1 ∧ (mb env1 p).wp (wpL Q fun e p1 => p1 = p ∧ E (f b x) e)) → E b env → (∀ e, E (xs.foldl f b) e → Q (.nx, e) p) → (forL bind mb (xs.map h) env p).wp Q
  | [], b, env, step, hE, fin => fin env hE
  | x :: xs, b, env, step, hE, fin => by
    obtain ⟨env1, e, w⟩ := step x List.mem_cons_self b env hE
    have go : ∀ e2, E (f b x) e2 → (forL bind mb (xs.map h) e2 p).wp Q := fun e2 hE2 => forL_fold h E f xs (f b x) e2 (fun y hy => step y (List.mem_cons_of_mem _ hy)) hE2 fin
    simp only [List.map_cons]
    unfold forL
    rw [e]
    dsimp only
    cases r : mb env1 p with
    | bad => rw [r] at w; exact w.elim
    | err x v p1 => rw [r] at w; exact w.elim
    | ok fe p1 =>
      rw [r] at w
      obtain ⟨fl, e2⟩ := fe
      cases fl with
      | nx => obtain ⟨rfl, w⟩ := w; exact go e2 w
      | ct => obtain ⟨rfl, w⟩ := w; exact go e2 w
      | bk => exact w
      | ret d => exact w
      | rtl d => exact w.elim
/-- what is said goes by the turns that are done -/
theorem forL_pre (h : α → D) (E : List α → En → Prop) {p : P3} (xs : List α) (fin : ∀ e, E xs e → Q (.nx, e) p) (step : ∀ pre x post env, xs = pre ++ x :: post → E pre env → ∃ env1, bind (h x) env = some env1 ∧ (mb env1 p).wp (wpL Q fun e p1 => p1 = p ∧ E (pre ++ [x]) e)) :
    ∀ (post pre : List α) (env : En), xs = pre ++ post → E pre env → (forL bind mb (post.map h) env p).wp Q
  | [], pre, env, hx, hE => fin env (by rw [hx, List.append_nil]; exact hE)
  | x :: post, pre, env, hx, hE => by
    obtain ⟨env1, e, w⟩ := step pre x post env hx hE
    have go : ∀ e2, E (pre ++ [x]) e2 → (forL bind mb (post.map h) e2 p).wp Q := fun e2 hE2 => forL_pre h E xs fin step post (pre ++ [x]) e2 (by rw [hx]; simp) hE2
    simp only [List.map_cons]
    unfold forL
    rw [e]
    dsimp only
    cases r : mb env1 p with
    | bad => rw [r] at w; exact w.elim
    | err x v p1 => rw [r] at w; exact w.elim
    | ok fe p1 =>
      rw [r] at w
      obtain ⟨fl, e2⟩ := fe
      cases fl with
      | nx => obtain ⟨rfl, w⟩ := w; exact go e2 w
      | ct => obtain ⟨rfl, w⟩ := w; exact go e2 w
      | bk => exact w
      | ret d => exact w
      | rtl d => exact w.elim
/-- turns that draw, at most c draws each; what is said goes by the number of turns -/
theorem forL_draw (c N M : Nat) (E : Nat → En → Prop) : ∀ (ds : List D) (i n : Nat) (env : En) (p : P3), i + ds.length ≤ M →
    (∀ d ∈ ds, ∀ i n env p, i < M → E i env → Pot n p → n ≤ N → ∃ env1, bind d env = some env1 ∧ (mb env1 p).wp (wpL Q fun e p1 => E (i + 1) e ∧ Pot (n + c) p1)) → E i env → Pot n p → n + c * ds.length ≤ N → (∀ e p1, E (i + ds.length) e → Pot (n + c * ds.length) p1 → Q (.nx, e) p1) → (forL bind mb ds env p).wp Q
  | [], i, n, env, p, hM, step, hE, hp, hn, fin => fin env p hE hp
  | d :: ds, i, n, env, p, hM, step, hE, hp, hn, fin => by
    have el : c * (d :: ds).length = c + c * ds.length := by rw [List.length_cons, Nat.mul_succ, Nat.add_comm]
    obtain ⟨env1, e, w⟩ := step d List.mem_cons_self i n env p (by rw [List.length_cons] at hM; omega) hE hp (by omega)
    have go : ∀ e2 p1, E (i + 1) e2 → Pot (n + c) p1 → (forL bind mb ds e2 p1).wp Q := fun e2 p1 hE2 hp1 => forL_draw c N M E ds (i + 1) (n + c) e2 p1 (by rw [List.length_cons] at hM; omega) (fun y hy => step y (List.mem_cons_of_mem _ hy)) hE2 hp1 (by omega) fun e p2 h1 h2 => fin e p2 (by rw [List.length_cons, show i + (ds.length + 1) = i + 1 + ds.length by omega]; exact h1) (by rw [el, ← Nat.add_assoc]; exact h2)
    unfold forL
    rw [e]
    dsimp only
    cases r : mb env1 p with
    | bad => rw [r] at w; exact w.elim
    | err x v p1 => rw [r] at w; exact w.elim
    | ok fe p1 =>
      rw [r] at w
      obtain ⟨fl, e2⟩ := fe
      cases fl with
      | nx => obtain ⟨w1, w2⟩ := w; exact go e2 p1 w1 w2
      | ct => obtain ⟨w1, w2⟩ := w; exact go e2 p1 w1 w2
      | bk => exact w
      | ret d => exact w
      | rtl d => exact w.elim
end
/-- from well to an equation -/
theorem eq_of_wp {α : Type} {r : Res α} {a : α} {p : P3} (h : r.wp fun b p1 => b = a ∧ p1 = p) : r = .ok a p := h.eq
@[simp] theorem ne_lst_nil {ds : List D} (h : D.plain 60 (.lst ds) = true) : D.ne (.lst ds) (.lst []) = some (.bl (!ds.isEmpty)) := by
  show D.neP (.lst ds) (.lst []) = _
  unfold D.neP
  rw [if_pos (by rw [h]; rfl)]
  cases ds with
  | nil => simp [D.eqv, D.py, D.pys, PyData.eqv, PyData.eqvAll]
  | cons d ds => simp [D.eqv, D.py, D.pys, PyData.eqv, PyData.eqvAll]
@[simp] theorem plain_ints (n : Nat) (l : List Int) : D.plain (n + 1) (.lst (l.map D.int)) = true := by
  show List.all _ _ = true
  simp only [List.all_map, List.all_eq_true, Function.comp_apply]
  intro x _
  cases n <;> rfl
@[simp] theorem ne_ints_nil (l : List Int) : D.ne (.lst (l.map D.int)) (.lst []) = some (.bl (!l.isEmpty)) := by
  rw [ne_lst_nil (plain_ints 59 l)]
  simp
/-- the last of some numbers -/
theorem ix_last {l : List Int} (h : l ≠ []) : ∃ v ∈ l, D.ix (.lst (l.map D.int)) (.int (-1)) = some (.int v) := by
  refine ⟨l.getLast h, List.getLast_mem h, ?_⟩
  have h0 : 0 < l.length := List.length_pos_iff.mpr h
  show atI (l.map D.int) (-1) = _
  have e : (l.map D.int)[l.length - 1]? = some (.int (l.getLast h)) := by
    rw [List.getElem?_map, List.getLast_eq_getElem]
    simp [List.getElem?_eq_getElem (show l.length - 1 < l.length by omega)]
  unfold atI ixN
  rw [List.length_map, if_neg (by decide), if_pos (by omega)]
  simp only [Option.bind_some]
  rw [show (-1 + (l.length : Int)).toNat = l.length - 1 by omega]
  exact e
theorem snoc_ints (l : List Int) (i : Int) : l.map D.int ++ [D.int i] = (l ++ [i]).map D.int := by simp
/-! what repr serves, of rows -/
theorem rp_of {d : D} (h : d.sh 60 = true) (hs : d.sz ≤ 16777216) : d.rp = true := by
  unfold D.rp
  rw [h, decide_eq_true hs]
  rfl
theorem rp_tup_map {α : Type} {f : α → D} {l : List α} {n m : Nat} (h : ∀ x ∈ l, (f x).sh n = true) (hn : n < 60) (hs : ∀ x ∈ l, (f x).sz ≤ m) (hl : l.length * (m + 2) ≤ 16777200) : (D.tup (l.map f)).rp = true := by
  refine rp_of ?_ ?_
  · refine sh_le (n := n + 1) ?_ (by omega)
    simp only [sh_tup, List.all_map, List.all_eq_true, Function.comp_apply]
    exact h
  · have := szs_le (l := l.map f) (m := m) (by simpa using hs)
    rw [List.length_map] at this
    show 3 + D.szs _ ≤ _
    omega
theorem rp_ints {l : List Int} (h : ∀ i ∈ l, Sm i) (hl : l.length ≤ 200000) : (D.tup (l.map D.int)).rp = true :=
  rp_tup_map (n := 0) (m := 64) (fun i hi => (h i hi).sh 0) (by decide) (fun i hi => (h i hi).sz) (by omega)
theorem add_lst {a b : List D} (h : a.length + b.length ≤ 16777216) : D.add (.lst a) (.lst b) = some (.lst (a ++ b)) := if_pos h
theorem add_tup {a b : List D} (h : a.length + b.length ≤ 16777216) : D.add (.tup a) (.tup b) = some (.tup (a ++ b)) := if_pos h
section
variable {bind : D → En → Option En} {mb : MS} {Q : Fl × En → P3 → Prop}
theorem forL_eachD (E : En → Prop) {p : P3} (fin : ∀ e, E e → Q (.nx, e) p) (xs : List D) (env : En)
    (step : ∀ x ∈ xs, ∀ env, E env → ∃ env1, bind x env = some env1 ∧ (mb env1 p).wp (wpL Q fun e p1 => p1 = p ∧ E e)) (hE : E env) : (forL bind mb xs env p).wp Q := by
  have := forL_each (bind := bind) (mb := mb) (Q := Q) (fun x : D => x) E fin xs env step hE
  simpa using this
end
@[simp] theorem rp_bl (b : Bool) : (D.bl b).rp = true := by cases b <;> rfl
theorem ints_of {P : Int → Prop} : ∀ (ys : List D), (∀ y ∈ ys, ∃ i, y = .int i ∧ P i) → ∃ r : List Int, ys = r.map D.int ∧ ∀ i ∈ r, P i
  | [], _ => ⟨[], rfl, fun _ h => nomatch h⟩
  | y :: ys, h => by
    obtain ⟨i, rfl, hi⟩ := h y List.mem_cons_self
    obtain ⟨r, e, hr⟩ := ints_of ys fun z hz => h z (List.mem_cons_of_mem _ hz)
    refine ⟨i :: r, by rw [e]; rfl, fun j hj => ?_⟩
    rcases List.mem_cons.mp hj with rfl | hj
    · exact hi
    · exact hr j hj
end VL

namespace VL
open PySem PySem.Spec PyProof.Rows L2 LamX
/-! ### the law's own frame -/
theorem dAll_true {bs : List D} (h : ∀ y ∈ bs, y = .bl true) : dAll [.lst bs] = some (.bl true) := by
  have e : bs = bs.map fun _ => D.bl true := by
    induction bs with
    | nil => rfl
    | cons b bs ih =>
      rw [List.map_cons, ← ih fun y hy => h y (List.mem_cons_of_mem _ hy), h b List.mem_cons_self]
  rw [e]
  have := allB (fun _ : D => true) bs
  rw [this]
  simp
/-- places, a pot for each, so many laps -/
def lawB (ref : ME) (pl : List D → P3 → Res D) (pt : List D → P3 → Res (List D)) (right : List D → P3 → Res D) (most laps : Int) : MS := sSeq (xIf [] (bNot (toB ref)) (sRet (mC (.bl false))) (sNil)) (sSeq (sFor (eName 1) (mIter (mCall pl (mCons (mVar 0) (mCons (mC (.int most)) (mNil))))) (sPot 2 (mCallN pt (mCons (mVar 0) (mCons (mVar 1) (mNil)))) (xIf [] (bNot (toB (mN dAll (mCons (mLst (mLc [3] (bName 3) (mRange1 (mCons (mC (.int laps)) (mNil))) (bTrue) (mCall right (mCons (mVar 2) (mNil))))) (mNil))))) (sRet (mC (.bl false))) (sNil)))) (sRet (mC (.bl true))))
theorem law_ok {ref : ME} {pl : List D → P3 → Res D} {pt : List D → P3 → Res (List D)} {right : List D → P3 → Res D} {most laps : Int} (c : Nat) (hr : ∀ vw, ref vw none = .ok (.bl true) none)
    (hpl : ∀ (ns : List Int) (p : P3), ns.length ≤ 63 → ∃ k : Int, 1 ≤ k ∧ k ≤ 1000 ∧ pl [.scr ns, .int most] p = .ok (.lst (irange 0 k)) p) (hpt : PtOk pt) (hl0 : 0 ≤ laps) (hl : laps ≤ 100) (hc : c * 100 ≤ 2 ^ 50)
    (hright : ∀ n p, Pot n p → n ≤ c * 100 → (right [.pot] p).wp fun d p' => d = .bl true ∧ Pot (n + c) p') :
    ∀ ns : List Int, ns.length ≤ 63 → ∃ p, callF 4 1 (lawB ref pl pt right most laps) [.scr ns] none = .ok (.bl true) p := by
  intro ns hns
  suffices h : (callF 4 1 (lawB ref pl pt right most laps) [.scr ns] none).wp fun d p => d = .bl true by
    revert h
    cases callF 4 1 (lawB ref pl pt right most laps) [.scr ns] none with
    | ok d p => intro h; exact ⟨p, by rw [show d = .bl true from h]⟩
    | err x v p => intro h; exact h.elim
    | bad => intro h; exact h.elim
  obtain ⟨k, k0, k1, e⟩ := hpl ns none hns
  have hlr : rgOk 0 laps = true := rgOk_i (by decide) (by omega) (by omega) hl0
  rw [callF_ok (ds := [D.scr ns]) (np := 1) rfl]
  simp [lawB, env0, hr, e]
  refine forL_each D.int (fun env => ∃ o1 o2 o3, env = [some (.p (.scr ns)), o1, o2, o3]) ?_ _ _ ?_ ⟨_, _, _, rfl⟩
  · rintro e ⟨o1, o2, o3, rfl⟩
    simp
  · rintro i hi env ⟨o1, o2, o3, rfl⟩
    refine ⟨_, rfl, ?_⟩
    obtain ⟨i0, i1⟩ := mem_ir.mp hi
    obtain ⟨x, y, x0, y0, y1, ep⟩ := hpt ns i none i0 (by omega)
    refine sPot_wp (x := x) (y := y) (z := 0) (by simp [ep]) ?_
    simp [hlr]
    refine lcM_each c (fun d => d = .bl true) (N := c * 100) ?_ _ 0 _ (pot0 x0 y0 y1) ?_ fun bs p4 hb hbl hp4 => ?_
    · intro x n' p hp hn'
      simp only [wp_bind, wp_strict, wp_ok]
      exact (hright n' p hp hn').mono fun d p' h => ⟨d, rfl, h.1, h.2⟩
    · simp only [ir_length, Int.sub_zero, Nat.zero_add]
      exact Nat.mul_le_mul_left c (by omega)
    · obtain ⟨a, b, z, rfl, _⟩ := hp4
      simp [dAll_true hb, wpP, keepS]
end VL

namespace VL
open PySem PySem.Spec PyProof.Rows L2 LamX
def fuel : Nat := 1000
def exs : List Str := ["LeverError", "BadVat", "BadLevel", "BadLever", "BadReadings"]
def sub_BadLever (x : Str) : Bool := (["BadLever"] : List Str).contains x
def sub_BadVat (x : Str) : Bool := (["BadVat"] : List Str).contains x
def sub_BadLevel (x : Str) : Bool := (["BadLevel"] : List Str).contains x
def sub_BadReadings (x : Str) : Bool := (["BadReadings"] : List Str).contains x
def B_is_tuple : MS := sRet (mAnd (mIsi "tuple" (mVar 0)) (mChain (D.cmp fLe) (D.cmp fLe) (mVar 1) (mN dLen (mCons (mVar 0) (mNil))) (mVar 2)))
def M_is_tuple : List D → P3 → Res D := callF 3 3 B_is_tuple
def B_is_whole : MS := sRet (mAnd (mIsi "int" (mVar 0)) (mNot (mIsi "bool" (mVar 0))))
def M_is_whole : List D → P3 → Res D := callF 1 1 B_is_whole
def B_is_integer : MS := sRet (mAnd (mCall (M_is_whole) (mCons (mVar 0) (mNil))) (mChain (D.cmp fLe) (D.cmp fLe) (mVar 1) (mVar 0) (mVar 2)))
def M_is_integer : List D → P3 → Res D := callF 3 3 B_is_integer
def B_is_between : MS := sSeq (xIf [] (bOr (bNot (toB (mCall (M_is_tuple) (mCons (mVar 0) (mCons (mC (.int 2)) (mCons (mC (.int 2)) (mNil))))))) (bNot (toB (mCall (M_is_integer) (mCons (m2 D.ix (mVar 0) (mC (.int 0))) (mCons (m1 D.usub (mVar 1)) (mCons (mVar 1) (mNil)))))))) (sRet (mC (.bl false))) (sNil)) (sRet (mCall (M_is_integer) (mCons (m2 D.ix (mVar 0) (mC (.int 1))) (mCons (m2 D.ix (mVar 0) (mC (.int 0))) (mCons (mVar 1) (mNil))))))
def M_is_between : List D → P3 → Res D := callF 2 2 B_is_between
def B_is_vat : MS := sSeq (xIf [] (bOr (bNot (toB (mCall (M_is_tuple) (mCons (mVar 0) (mCons (mC (.int 5)) (mCons (mC (.int 5)) (mNil))))))) (bNot (toB (mCall (M_is_integer) (mCons (m2 D.ix (mVar 0) (mC (.int 0))) (mCons (mC (.int 0)) (mCons (mC (.int 20)) (mNil)))))))) (sRet (mC (.bl false))) (sNil)) (sSeq (xIf [] (bOr (bNot (toB (mCall (M_is_integer) (mCons (m2 D.ix (mVar 0) (mC (.int 1))) (mCons (mC (.int 1)) (mCons (mC (.int 20)) (mNil))))))) (bNot (toB (mCall (M_is_integer) (mCons (m2 D.ix (mVar 0) (mC (.int 2))) (mCons (m1 D.usub (mC (.int 20))) (mCons (mC (.int 20)) (mNil)))))))) (sRet (mC (.bl false))) (sNil)) (sRet (mAnd (mCall (M_is_between) (mCons (m2 D.ix (mVar 0) (mC (.int 3))) (mCons (mC (.int 200)) (mNil)))) (mCall (M_is_between) (mCons (m2 D.ix (mVar 0) (m2 D.add (mC (.int 3)) (mC (.int 1)))) (mCons (mC (.int 50)) (mNil)))))))
def M_is_vat : List D → P3 → Res D := callF 1 1 B_is_vat
def B_check_vat : MS := xIf [] (bNot (toB (mCall (M_is_vat) (mCons (mVar 0) (mNil))))) (xRaise [] "BadVat" (mVar 0)) (sNil)
def M_check_vat : List D → P3 → Res D := callF 1 1 B_check_vat
def B_check_level : MS := sSeq (xExpr [] (mCall (M_check_vat) (mCons (mVar 0) (mNil)))) (xIf [] (bNot (toB (mCall (M_is_integer) (mCons (mVar 1) (mCons (m2 D.ix (m2 D.ix (mVar 0) (mC (.int 3))) (mC (.int 0))) (mCons (m2 D.ix (m2 D.ix (mVar 0) (mC (.int 3))) (mC (.int 1))) (mNil))))))) (xRaise [] "BadLevel" (mVar 1)) (sNil))
def M_check_level : List D → P3 → Res D := callF 2 2 B_check_level
def B_level_by : MS := sRet (m2 D.add (m2 D.add (m2 D.fdiv (m2 D.mul (m2 D.ix (mVar 0) (mC (.int 0))) (mVar 1)) (m2 D.ix (mVar 0) (mC (.int 1)))) (m2 D.mul (m2 D.ix (mVar 0) (mC (.int 2))) (mVar 2))) (mVar 3))
def M_level_by : List D → P3 → Res D := callF 4 4 B_level_by
def B_check_bounds : MS := sSeq (xExpr [] (mCall (M_check_vat) (mCons (mVar 0) (mNil)))) (xIf [] (bNot (toB (mCall (M_is_between) (mCons (mVar 1) (mCons (mC (.int 50)) (mNil)))))) (xRaise [] "BadLever" (mVar 1)) (sNil))
def M_check_bounds : List D → P3 → Res D := callF 2 2 B_check_bounds
def B_all_faults : MS := sRet (mLst (lenOk (mCons (mTup (mCons (mC (.str "fine")) (mNil))) (mStar (mLst (mLc [1] (bName 1) (mRange2 (mCons (m2 D.ix (mVar 0) (mC (.int 0))) (mCons (m2 D.add (m2 D.ix (mVar 0) (mC (.int 1))) (mC (.int 1))) (mNil)))) (bTrue) (mTup (mCons (mC (.str "stuck")) (mCons (mVar 1) (mNil)))))) (mNil)))))
def M_all_faults : List D → P3 → Res D := callF 2 1 B_all_faults
def B_is_seen : MS := sSeq (xIf [] (bOr (bNot (toB (mCall (M_is_tuple) (mCons (mVar 2) (mCons (mC (.int 2)) (mCons (mC (.int 2)) (mNil))))))) (bNot (toB (mN dAll (mCons (mLst (mLc [3] (bName 3) (mIter (mVar 2)) (bTrue) (mCall (M_is_tuple) (mCons (mVar 3) (mCons (mC (.int 0)) (mCons (m2 D.add (mC (.int 60)) (mC (.int 1))) (mNil))))))) (mNil)))))) (sRet (mC (.bl false))) (sNil)) (sSeq (xIf [] (bOr (toB (m2 D.ne (mN dLen (mCons (m2 D.ix (mVar 2) (mC (.int 1))) (mNil))) (m2 D.add (mN dLen (mCons (m2 D.ix (mVar 2) (mC (.int 0))) (mNil))) (mC (.int 1))))) (bNot (toB (mN dAll (mCons (mLst (mLc [4] (bName 4) (mIter (m2 D.ix (mVar 2) (mC (.int 0)))) (bTrue) (mCall (M_is_integer) (mCons (mVar 4) (mCons (m2 D.ix (mVar 1) (mC (.int 0))) (mCons (m2 D.ix (mVar 1) (mC (.int 1))) (mNil))))))) (mNil)))))) (sRet (mC (.bl false))) (sNil)) (sRet (mN dAll (mCons (mLst (mLc [5] (bName 5) (mIter (m2 D.ix (mVar 2) (mC (.int 1)))) (bTrue) (mCall (M_is_integer) (mCons (mVar 5) (mCons (m2 D.ix (m2 D.ix (mVar 0) (mC (.int 3))) (mC (.int 0))) (mCons (m2 D.ix (m2 D.ix (mVar 0) (mC (.int 3))) (mC (.int 1))) (mNil))))))) (mNil)))))
def M_is_seen : List D → P3 → Res D := callF 6 3 B_is_seen
def B_fits : MS := sSeq (xSet [] 5 (mIf (toB (m2 D.eq (m2 D.ix (mVar 1) (mC (.int 0))) (mC (.str "fine")))) (mVar 2) (m2 D.ix (mVar 1) (mC (.int 1))))) (sSeq (xTup [] [6, 7] (m2 D.ix (mVar 0) (m2 D.add (mC (.int 3)) (mC (.int 1))))) (sRet (mChain (D.cmp fLe) (D.cmp fLe) (mCall (M_level_by) (mCons (mVar 0) (mCons (mVar 3) (mCons (mVar 5) (mCons (mVar 6) (mNil)))))) (mVar 4) (mCall (M_level_by) (mCons (mVar 0) (mCons (mVar 3) (mCons (mVar 5) (mCons (mVar 7) (mNil)))))))))
def M_fits : List D → P3 → Res D := callF 8 5 B_fits
def B_may_be : MS := sSeq (xExpr [] (mCall (M_check_bounds) (mCons (mVar 0) (mCons (mVar 1) (mNil))))) (sSeq (xIf [] (bNot (toB (mCall (M_is_seen) (mCons (mVar 0) (mCons (mVar 1) (mCons (mVar 2) (mNil))))))) (xRaise [] "BadReadings" (mVar 2)) (sNil)) (sSeq (xNew [] 3 (lenOk (mNil))) (sSeq (sFor (eName 4) (mIter (mCall (M_all_faults) (mCons (mVar 1) (mNil)))) (xIf [] (toB (mN dAll (mCons (mLst (mLc [5, 6, 7] (bTup [5, 6, 7]) (mZip3 (mCons (m2 D.ix (mVar 2) (mC (.int 0))) (mCons (m2 D.ix (mVar 2) (mC (.int 1))) (mCons (mSl (m2 D.ix (mVar 2) (mC (.int 1))) (oSome (mC (.int 1))) (oNo)) (mNil))))) (bTrue) (mCall (M_fits) (mCons (mVar 0) (mCons (mVar 4) (mCons (mVar 5) (mCons (mVar 6) (mCons (mVar 7) (mNil))))))))) (mNil)))) (xApp [] 3 (mVar 4)) (sNil))) (sFreeze 3 (sRet (mN dTuple2 (mCons (mVar 3) (mNil))))))))
def M_may_be : List D → P3 → Res D := callF 8 3 B_may_be
def B_width_of : MS := sRet (m2 D.sub (m2 D.ix (m2 D.ix (mVar 0) (m2 D.add (mC (.int 3)) (mC (.int 1)))) (mC (.int 1))) (m2 D.ix (m2 D.ix (mVar 0) (m2 D.add (mC (.int 3)) (mC (.int 1)))) (mC (.int 0))))
def M_width_of : List D → P3 → Res D := callF 1 1 B_width_of
def B_parts : MS := sRet (m2 (D.cmp fGt) (mN dAbs (mCons (m2 D.mul (m2 D.ix (mVar 0) (mC (.int 2))) (m2 D.sub (mVar 1) (mVar 2))) (mNil))) (mCall (M_width_of) (mCons (mVar 0) (mNil))))
def M_parts : List D → P3 → Res D := callF 3 3 B_parts
def B_telling : MS := sSeq (xExpr [] (mCall (M_check_bounds) (mCons (mVar 0) (mCons (mVar 1) (mNil))))) (sSeq (xIf [] (bNot (toB (mCall (M_is_integer) (mCons (mVar 2) (mCons (m2 D.ix (mVar 1) (mC (.int 0))) (mCons (m2 D.ix (mVar 1) (mC (.int 1))) (mNil))))))) (xRaise [] "BadLever" (mVar 2)) (sNil)) (sRet (mN dTuple2 (mCons (mLst (mLc [3] (bName 3) (mRange2 (mCons (m2 D.ix (mVar 1) (mC (.int 0))) (mCons (m2 D.add (m2 D.ix (mVar 1) (mC (.int 1))) (mC (.int 1))) (mNil)))) (toB (mCall (M_parts) (mCons (mVar 0) (mCons (mVar 3) (mCons (mVar 2) (mNil)))))) (mVar 3))) (mNil)))))
def M_telling : List D → P3 → Res D := callF 4 3 B_telling
def B_least_row : MS := sSeq (xExpr [] (mCall (M_check_bounds) (mCons (mVar 0) (mCons (mVar 1) (mNil))))) (sSeq (xSet [] 2 (mN dRange (mCons (m2 D.ix (mVar 1) (mC (.int 0))) (mCons (m2 D.add (m2 D.ix (mVar 1) (mC (.int 1))) (mC (.int 1))) (mNil))))) (sSeq (sNew 3 (mLc [4] (bName 4) (mIter (mVar 2)) (bAnd (bNot (toB (mCall (M_parts) (mCons (mVar 0) (mCons (m2 D.ix (mVar 1) (mC (.int 0))) (mCons (mVar 4) (mNil))))))) (bNot (toB (mCall (M_parts) (mCons (mVar 0) (mCons (m2 D.ix (mVar 1) (mC (.int 1))) (mCons (mVar 4) (mNil)))))))) (mVar 4))) (sFreeze 3 (sSeq (xIf [] (toB (m2 D.ne (mVar 3) (mLst (lenOk (mNil))))) (sRet (mTup (mCons (mC (.str "never")) (mCons (m2 D.ix (mVar 3) (mC (.int 0))) (mNil))))) (sNil)) (sSeq (sFor (eName 5) (mIter (mVar 2)) (sFor (eName 6) (mIter (mVar 2)) (xIf [] (toB (mN dAll (mCons (mLst (mLc [4] (bName 4) (mIter (mVar 2)) (bTrue) (mOr (mCall (M_parts) (mCons (mVar 0) (mCons (mVar 5) (mCons (mVar 4) (mNil))))) (mCall (M_parts) (mCons (mVar 0) (mCons (mVar 6) (mCons (mVar 4) (mNil)))))))) (mNil)))) (sRet (mTup (mCons (mC (.str "row")) (mCons (mTup (mCons (mVar 5) (mCons (mVar 6) (mNil)))) (mNil))))) (sNil)))) (sRet (mTup (mCons (mC (.str "row")) (mCons (mTup (mCons (m2 D.ix (mVar 1) (mC (.int 0))) (mCons (m2 D.ix (mVar 1) (mC (.int 1))) (mNil)))) (mNil))))))))))
def M_least_row : List D → P3 → Res D := callF 7 2 B_least_row
def B_shows_row : MS := sSeq (xExpr [] (mCall (M_check_bounds) (mCons (mVar 0) (mCons (mVar 1) (mNil))))) (sSeq (xIf [] (bOr (bNot (toB (mCall (M_is_tuple) (mCons (mVar 2) (mCons (mC (.int 2)) (mCons (mC (.int 2)) (mNil))))))) (bNot (toB (mIsi "str" (m2 D.ix (mVar 2) (mC (.int 0))))))) (sRet (mC (.bl false))) (sNil)) (sSeq (xSet [] 3 (mN dRange (mCons (m2 D.ix (mVar 1) (mC (.int 0))) (mCons (m2 D.add (m2 D.ix (mVar 1) (mC (.int 1))) (mC (.int 1))) (mNil))))) (sSeq (xIf [] (toB (m2 D.eq (m2 D.ix (mVar 2) (mC (.int 0))) (mC (.str "never")))) (sRet (mAnd (mCall (M_is_integer) (mCons (m2 D.ix (mVar 2) (mC (.int 1))) (mCons (m2 D.ix (mVar 1) (mC (.int 0))) (mCons (m2 D.ix (mVar 1) (mC (.int 1))) (mNil))))) (mNot (mN dAny (mCons (mLst (mLc [4] (bName 4) (mIter (mVar 3)) (bTrue) (mCall (M_parts) (mCons (mVar 0) (mCons (mVar 4) (mCons (m2 D.ix (mVar 2) (mC (.int 1))) (mNil))))))) (mNil)))))) (sNil)) (sSeq (xIf [] (bOr (toB (m2 D.ne (m2 D.ix (mVar 2) (mC (.int 0))) (mC (.str "row")))) (bNot (toB (mCall (M_is_tuple) (mCons (m2 D.ix (mVar 2) (mC (.int 1))) (mCons (mC (.int 2)) (mCons (mC (.int 2)) (mNil)))))))) (sRet (mC (.bl false))) (sNil)) (sSeq (xIf [] (bNot (toB (mN dAll (mCons (mLst (mLc [4] (bName 4) (mIter (m2 D.ix (mVar 2) (mC (.int 1)))) (bTrue) (mCall (M_is_integer) (mCons (mVar 4) (mCons (m2 D.ix (mVar 1) (mC (.int 0))) (mCons (m2 D.ix (mVar 1) (mC (.int 1))) (mNil))))))) (mNil))))) (sRet (mC (.bl false))) (sNil)) (sRet (mN dAll (mCons (mLst (mLc [5] (bName 5) (mIter (mVar 3)) (bTrue) (mN dAny (mCons (mLst (mLc [4] (bName 4) (mIter (m2 D.ix (mVar 2) (mC (.int 1)))) (bTrue) (mCall (M_parts) (mCons (mVar 0) (mCons (mVar 4) (mCons (mVar 5) (mNil))))))) (mNil))))) (mNil)))))))))
def M_shows_row : List D → P3 → Res D := callF 6 3 B_shows_row
def B_is_told : MS := sSeq (xExpr [] (mCall (M_check_bounds) (mCons (mVar 0) (mCons (mVar 1) (mNil))))) (sSeq (xExpr [] (mCall (M_check_level) (mCons (mVar 0) (mCons (mVar 2) (mNil))))) (sSeq (xIf [] (bOr (bNot (toB (mCall (M_is_tuple) (mCons (mVar 3) (mCons (mC (.int 0)) (mCons (mC (.int 60)) (mNil))))))) (bNot (toB (mN dAll (mCons (mLst (mLc [4] (bName 4) (mIter (mVar 3)) (bTrue) (mCall (M_is_integer) (mCons (mVar 4) (mCons (m2 D.ix (mVar 1) (mC (.int 0))) (mCons (m2 D.ix (mVar 1) (mC (.int 1))) (mNil))))))) (mNil)))))) (xRaise [] "BadReadings" (mVar 3)) (sNil)) (sRet (mN dAll (mCons (mLst (mLc [4] (bName 4) (mRange2 (mCons (m2 D.ix (mVar 1) (mC (.int 0))) (mCons (m2 D.add (m2 D.ix (mVar 1) (mC (.int 1))) (mC (.int 1))) (mNil)))) (bTrue) (mN dAny (mCons (mLst (mLc [5] (bName 5) (mIter (mVar 3)) (bTrue) (mCall (M_parts) (mCons (mVar 0) (mCons (mVar 5) (mCons (mVar 4) (mNil))))))) (mNil))))) (mNil))))))
def M_is_told : List D → P3 → Res D := callF 6 4 B_is_told
def B__law_pot : MS := sSeq (xSet [] 2 (mIf (toB (m2 (D.cmp fLt) (mVar 1) (mN dLen (mCons (mVar 0) (mNil))))) (m2 D.ix (mVar 0) (mVar 1)) (m2 D.add (m2 D.add (m2 D.fmod (mN dSum (mCons (mSl (mVar 0) (oNo) (oSome (mC (.int 1)))) (mNil))) (mC (.int 1000003))) (m2 D.mul (mC (.int 40401)) (mVar 1))) (mC (.int 431))))) (sSeq (xSet [] 3 (m2 D.mul (m2 D.fmod (mN dInt (mCons (mN dAbs (mCons (mVar 2) (mNil))) (mNil))) (m2 D.powW (m2 D.powW (mC (.int 10)) (mC (.int 60))) (mC (.int 5)))) (mN dInt (mCons (m2 (D.cmp fGe) (mN dAbs (mCons (mVar 2) (mNil))) (m2 D.powW (mC (.int 10)) (mC (.int 18)))) (mNil))))) (sSeq (xSet [] 4 (m2 D.fmod (mN dInt (mCons (mVar 2) (mNil))) (mC (.int 2305843009213693951)))) (sRetNew (lenOk (mCons (mVar 3) (mCons (m2 D.fmod (mN dInt (mCons (m2 D.add (m2 D.add (m2 D.mul (mVar 4) (mC (.int 308401))) (m2 D.mul (m2 D.mul (mC (.int 45501)) (mVar 1)) (mVar 1))) (mC (.int 838))) (mNil))) (mC (.int 2305843009213693921))) (mCons (mC (.int 0)) (mNil))))))))
def M__law_pot : List D → P3 → Res (List D) := callN 5 2 B__law_pot
def B__law_take : MS := sSeq (xIf [] (toB (m2 (D.cmp fGt) (mPotIx (mVar 0) 0) (mC (.int 0)))) (sSeq (xSet [] 2 (m2 D.fmod (mN dInt (mCons (mPotIx (mVar 0) 0) (mNil))) (mVar 1))) (sSeq (sPotSet 0 0 (m2 D.fdiv (mPotIx (mVar 0) 0) (mVar 1))) (sRet (mVar 2)))) (sNil)) (sSeq (sPotSet 0 2 (m2 D.add (mPotIx (mVar 0) 2) (mC (.int 1)))) (sSeq (xSet [] 3 (m2 D.ix (mLst (lenOk (mCons (mC (.int 2147483647)) (mCons (mC (.int 2147483629)) (mCons (mC (.int 2147483587)) (mCons (mC (.int 2147483579)) (mCons (mC (.int 2147483563)) (mNil)))))))) (m2 D.fmod (mN dInt (mCons (mPotIx (mVar 0) 2) (mNil))) (mC (.int 5))))) (sSeq (xSet [] 4 (m2 D.fmod (mN dInt (mCons (m2 D.powW (mN dInt (mCons (m2 D.add (m2 D.add (mPotIx (mVar 0) 1) (m2 D.mul (m2 D.mul (mC (.int 305501)) (mPotIx (mVar 0) 2)) (mPotIx (mVar 0) 2))) (mC (.int 638))) (mNil))) (mC (.int 3))) (mNil))) (mVar 3))) (sSeq (xSet [] 4 (m2 D.fmod (mN dInt (mCons (m2 D.mul (mVar 4) (m2 D.add (m2 D.fmod (mN dInt (mCons (mVar 4) (mNil))) (mC (.int 10259))) (m2 D.mul (mC (.int 122)) (mPotIx (mVar 0) 2)))) (mNil))) (mC (.int 2305843009213693907)))) (sRet (m2 D.fmod (mN dInt (mCons (m2 D.fdiv (mVar 4) (mC (.int 152))) (mNil))) (mVar 1)))))))
def M__law_take : List D → P3 → Res D := callF 5 2 B__law_take
def B__law_of : MS := sRet (m2 D.ix (mVar 1) (mCall (M__law_take) (mCons (mVar 0) (mCons (mN dLen (mCons (mVar 1) (mNil))) (mNil)))))
def M__law_of : List D → P3 → Res D := callF 2 2 B__law_of
def B__law_places : MS := sRet (mLst (mNL dList2 (mCons (mN dRange (mCons (mN dMax2 (mCons (mC (.int 1)) (mCons (mN dMin2 (mCons (mVar 1) (mCons (mN dLen (mCons (mVar 0) (mNil))) (mNil)))) (mNil)))) (mNil))) (mNil))))
def M__law_places : List D → P3 → Res D := callF 2 2 B__law_places
def m_lam_0 : ME := mCall (M_may_be) (mCons (m2 D.ix (mVar 0) (mC (.int 0))) (mCons (m2 D.ix (mVar 0) (mC (.int 1))) (mCons (mC .non) (mNil))))
def m_lam_1 : ME := mCall (M_telling) (mCons (m2 D.ix (mVar 0) (mC (.int 0))) (mCons (m2 D.ix (mVar 0) (mC (.int 1))) (mCons (mC .non) (mNil))))
def m_lam_2 : ME := mCall (M_least_row) (mCons (m2 D.ix (mVar 0) (mC (.int 0))) (mCons (m2 D.ix (mVar 0) (mC (.int 1))) (mNil)))
def m_lam_3 : ME := mCall (M_shows_row) (mCons (m2 D.ix (mVar 0) (mC (.int 0))) (mCons (m2 D.ix (mVar 0) (mC (.int 1))) (mCons (mC .non) (mNil))))
def m_lam_4 : ME := mCall (M_is_told) (mCons (m2 D.ix (mVar 0) (mC (.int 0))) (mCons (m2 D.ix (mVar 0) (mC (.int 1))) (mCons (mC .non) (mCons (mC .non) (mNil)))))
def m_lam_5 : ME := mCall (M_may_be) (mCons (mVar 0) (mCons (mTup (mCons (m1 D.usub (mC (.int 2))) (mCons (mC (.int 2)) (mNil)))) (mCons (mVar 1) (mNil))))
def m_lam_6 : ME := mCall (M_telling) (mCons (mVar 0) (mCons (mTup (mCons (m1 D.usub (mC (.int 2))) (mCons (mC (.int 2)) (mNil)))) (mCons (mVar 1) (mNil))))
def m_lam_7 : ME := mCall (M_is_told) (mCons (mVar 0) (mCons (mTup (mCons (m1 D.usub (mC (.int 2))) (mCons (mC (.int 2)) (mNil)))) (mCons (mC (.int 0)) (mCons (mVar 1) (mNil)))))
def m_lam_8 : ME := mCall (M_is_told) (mCons (mVar 0) (mCons (mTup (mCons (m1 D.usub (mC (.int 2))) (mCons (mC (.int 2)) (mNil)))) (mCons (mC (.int 4)) (mCons (mC .non) (mNil)))))
def mls : Nat → List D → P3 → Res D
  | 0 => fun ds p => m_lam_0 (ds.map some) p
  | 1 => fun ds p => m_lam_1 (ds.map some) p
  | 2 => fun ds p => m_lam_2 (ds.map some) p
  | 3 => fun ds p => m_lam_3 (ds.map some) p
  | 4 => fun ds p => m_lam_4 (ds.map some) p
  | 5 => fun ds p => m_lam_5 (ds.map some) p
  | 6 => fun ds p => m_lam_6 (ds.map some) p
  | 7 => fun ds p => m_lam_7 (ds.map some) p
  | 8 => fun ds p => m_lam_8 (ds.map some) p
  | _ => fun _ _ => .bad
def caps__law_heard : CapT := []
def B__law_heard : MS := sSeq (sPar [1, 2] [.inl ([], mC .non), .inl ([], mC .non)]) (sSeq (sHeard 2 1 3 exs (mCallC 0 mls)) (sRetV (mTup (mCons (mVar 1) (mCons (mVar 2) (mNil))))))
def M__law_heard : List D → P3 → Res D := callV 4 1 B__law_heard
def B__law_odd : MS := sSeq (xSet [] 1 (mLst (lenOk (mCons (mC .non) (mCons (mC (.bl true)) (mCons (mC (.bl false)) (mCons (mC (.int 0)) (mCons (mC (.int 1)) (mCons (m1 D.usub (mC (.int 1))) (mCons (mC (.int 2)) (mCons (mC (.int 1001)) (mCons (mC (.str "")) (mCons (mC (.str "a")) (mCons (mC (.str "map")) (mCons (mC (.str "to")) (mCons (mTup (mNil)) (mCons (mLst (lenOk (mNil))) (mCons (mTup (mCons (mC (.int 0)) (mNil))) (mCons (mTup (mCons (mTup (mNil)) (mNil))) (mCons (mLst (lenOk (mCons (mC (.int 1)) (mNil)))) (mCons (mTup (mCons (mC (.bl true)) (mNil))) (mCons (mTup (mCons (mC .non) (mNil))) (mNil))))))))))))))))))))))) (sSeq (xSet [] 1 (m2 D.add (mVar 1) (mLst (lenOk (mCons (mTup (mCons (mC (.str "a")) (mNil))) (mCons (mTup (mCons (mTup (mCons (mC (.int 0)) (mNil))) (mCons (mTup (mNil)) (mNil)))) (mCons (mTup (mCons (mC (.int 7)) (mNil))) (mCons (mTup (mCons (mC (.int 0)) (mCons (mLst (lenOk (mCons (mC (.int 0)) (mNil)))) (mNil)))) (mCons (mTup (mCons (mTup (mCons (mC (.int 0)) (mNil))) (mCons (mTup (mCons (mTup (mCons (mC (.int 0)) (mCons (mC (.int 1)) (mNil)))) (mNil))) (mNil)))) (mCons (mLst (lenOk (mCons (mTup (mCons (mC (.int 0)) (mNil))) (mCons (mTup (mCons (mTup (mCons (mC (.int 0)) (mCons (mC (.int 0)) (mNil)))) (mNil))) (mNil))))) (mCons (mC (.str "map 0")) (mCons (m2 D.powW (mC (.int 10)) (mC (.int 20))) (mNil))))))))))))) (sRet (mCall (M__law_of) (mCons (mVar 0) (mCons (mVar 1) (mNil))))))
def M__law_odd : List D → P3 → Res D := callF 2 1 B__law_odd
def B__law_is_int : MS := sRet (mAnd (mIsi "int" (mVar 0)) (mAnd (mNot (mIsi "bool" (mVar 0))) (mChain (D.cmp fLe) (D.cmp fLe) (mVar 1) (mVar 0) (mVar 2))))
def M__law_is_int : List D → P3 → Res D := callF 3 3 B__law_is_int
def B__law_bent (rec : List D → P3 → Res D) : MS := sSeq (xIf [] (bAnd (toB (mIsi "tuple" (mVar 1))) (bAnd (toB (m2 D.ne (mVar 1) (mTup (mNil)))) (toB (m2 (D.cmp fGt) (mCall (M__law_take) (mCons (mVar 0) (mCons (mC (.int 5)) (mNil)))) (mC (.int 0)))))) (sSeq (xSet [] 2 (mCall (M__law_take) (mCons (mVar 0) (mCons (mN dLen (mCons (mVar 1) (mNil))) (mNil))))) (sRet (m2 D.add (m2 D.add (mSl (mVar 1) (oNo) (oSome (mVar 2))) (mTup (mCons (mCall (rec) (mCons (mVar 0) (mCons (m2 D.ix (mVar 1) (mVar 2)) (mNil)))) (mNil)))) (mSl (mVar 1) (oSome (m2 D.add (mVar 2) (mC (.int 1)))) (oNo))))) (sNil)) (sSeq (xIf [] (toB (mIsi "tuple" (mVar 1))) (sRet (mCall (M__law_of) (mCons (mVar 0) (mCons (mLst (lenOk (mCons (mLst (mNL dList2 (mCons (mVar 1) (mNil)))) (mCons (mSl (mVar 1) (oSome (mC (.int 1))) (oNo)) (mCons (mSl (mVar 1) (oNo) (oSome (m1 D.usub (mC (.int 1))))) (mCons (m2 D.add (mVar 1) (mSl (mVar 1) (oSome (m1 D.usub (mC (.int 1)))) (oNo))) (mCons (m1 D.rev (mVar 1)) (mCons (mTup (mNil)) (mCons (mC .non) (mNil)))))))))) (mNil))))) (sNil)) (sSeq (xIf [] (toB (mIsi "bool" (mVar 1))) (sRet (mCall (M__law_of) (mCons (mVar 0) (mCons (mLst (lenOk (mCons (mNot (mVar 1)) (mCons (mN dInt (mCons (mVar 1) (mNil))) (mCons (mC .non) (mNil)))))) (mNil))))) (sNil)) (sSeq (xIf [] (toB (mIsi "int" (mVar 1))) (sRet (mCall (M__law_of) (mCons (mVar 0) (mCons (mLst (lenOk (mCons (m2 D.add (mVar 1) (mC (.int 1))) (mCons (m2 D.sub (mVar 1) (mC (.int 1))) (mCons (m1 D.usub (mVar 1)) (mCons (mN dStr (mCons (mVar 1) (mNil))) (mCons (mC .non) (mCons (m2 D.eq (mVar 1) (mC (.int 1))) (mCons (mTup (mCons (mVar 1) (mNil))) (mNil)))))))))) (mNil))))) (sNil)) (sSeq (xIf [] (toB (mIsi "str" (mVar 1))) (sSeq (xSet [] 3 (mLst (lenOk (mCons (m2 D.add (mVar 1) (mC (.str "a"))) (mCons (mSl (mVar 1) (oNo) (oSome (m1 D.usub (mC (.int 1))))) (mCons (m1 D.upper (mVar 1)) (mCons (mLst (lenOk (mCons (mVar 1) (mNil)))) (mCons (mC (.str "a")) (mCons (mC .non) (mCons (mC (.int 0)) (mCons (mC (.str "")) (mCons (m2 D.add (mC (.str "b")) (mVar 1)) (mCons (m2 D.add (mVar 1) (mC (.str "/"))) (mNil)))))))))))))) (sRet (mCall (M__law_of) (mCons (mVar 0) (mCons (mVar 3) (mNil)))))) (sNil)) (sRet (mCall (M__law_odd) (mCons (mVar 0) (mNil))))))))
def M__law_bent : Nat → List D → P3 → Res D
  | 0 => fun _ _ => .bad
  | n + 1 => callF 4 2 (B__law_bent (M__law_bent n))
def B__law_vat : MS := sSeq (xTup [] [2, 3] (mCall (M__law_of) (mCons (mVar 0) (mCons (mLst (lenOk (mCons (mTup (mCons (mC (.int 1)) (mCons (mC (.int 1)) (mNil)))) (mCons (mTup (mCons (mC (.int 1)) (mCons (mC (.int 2)) (mNil)))) (mCons (mTup (mCons (mC (.int 3)) (mCons (mC (.int 4)) (mNil)))) (mCons (mTup (mCons (mC (.int 9)) (mCons (mC (.int 10)) (mNil)))) (mCons (mTup (mCons (mC (.int 1)) (mCons (mC (.int 1)) (mNil)))) (mCons (mTup (mCons (mC (.int 11)) (mCons (mC (.int 10)) (mNil)))) (mCons (mTup (mCons (mC (.int 0)) (mCons (mC (.int 1)) (mNil)))) (mCons (mTup (mCons (mC (.int 2)) (mCons (mC (.int 1)) (mNil)))) (mNil))))))))))) (mNil))))) (sSeq (xSet [] 4 (mCall (M__law_of) (mCons (mVar 0) (mCons (mLst (lenOk (mCons (mC (.int 1)) (mCons (mC (.int 1)) (mCons (mC (.int 2)) (mCons (mC (.int 3)) (mCons (m1 D.usub (mC (.int 1))) (mCons (m1 D.usub (mC (.int 2))) (mCons (mC (.int 0)) (mNil)))))))))) (mNil))))) (sSeq (xSet [] 5 (m1 D.usub (mCall (M__law_take) (mCons (mVar 0) (mCons (mIf (toB (mVar 1)) (mC (.int 4)) (mC (.int 12))) (mNil)))))) (sSeq (xSet [] 6 (m2 D.add (m2 D.add (mVar 5) (mC (.int 2))) (mCall (M__law_take) (mCons (mVar 0) (mCons (mIf (toB (mVar 1)) (mC (.int 8)) (mC (.int 25))) (mNil)))))) (sSeq (xSet [] 7 (m1 D.usub (mCall (M__law_take) (mCons (mVar 0) (mCons (mC (.int 3)) (mNil)))))) (sRet (mTup (mCons (mVar 2) (mCons (mVar 3) (mCons (mVar 4) (mCons (mTup (mCons (mVar 5) (mCons (mVar 6) (mNil)))) (mCons (mTup (mCons (mVar 7) (mCons (m2 D.add (mVar 7) (mCall (M__law_take) (mCons (mVar 0) (mCons (mIf (toB (mVar 1)) (mC (.int 3)) (mC (.int 5))) (mNil))))) (mNil)))) (mNil))))))))))))
def M__law_vat : List D → P3 → Res D := callF 8 2 B__law_vat
def B__law_level : MS := sRet (m2 D.add (m2 D.add (m2 D.fdiv (m2 D.mul (m2 D.ix (mVar 0) (mC (.int 0))) (mVar 1)) (m2 D.ix (mVar 0) (mC (.int 1)))) (m2 D.mul (m2 D.ix (mVar 0) (mC (.int 2))) (mVar 2))) (mVar 3))
def M__law_level : List D → P3 → Res D := callF 4 4 B__law_level
def B__law_all_behind : MS := sRet (mLst (mLc [3] (bName 3) (mRange2 (mCons (m2 D.ix (m2 D.ix (mVar 0) (mC (.int 4))) (mC (.int 0))) (mCons (m2 D.add (m2 D.ix (m2 D.ix (mVar 0) (mC (.int 4))) (mC (.int 1))) (mC (.int 1))) (mNil)))) (bTrue) (mCall (M__law_level) (mCons (mVar 0) (mCons (mVar 1) (mCons (mVar 2) (mCons (mVar 3) (mNil))))))))
def M__law_all_behind : List D → P3 → Res D := callF 4 3 B__law_all_behind
def B__law_parts : MS := sSeq (sPar [3, 4] [.inl ([], mCall (M__law_all_behind) (mCons (mVar 0) (mCons (mC (.int 0)) (mCons (mVar 1) (mNil))))), .inl ([], mCall (M__law_all_behind) (mCons (mVar 0) (mCons (mC (.int 0)) (mCons (mVar 2) (mNil)))))]) (sRet (mNot (mN dAny (mCons (mLst (mLc [5] (bName 5) (mIter (mVar 3)) (bTrue) (m2 D.isin (mVar 5) (mVar 4)))) (mNil)))))
def M__law_parts : List D → P3 → Res D := callF 6 3 B__law_parts
def B__law_is_row : MS := sSeq (xIf [] (bOr (bNot (toB (mIsi "tuple" (mVar 3)))) (bOr (toB (m2 D.ne (mN dLen (mCons (mVar 3) (mNil))) (mC (.int 2)))) (bNot (toB (mIsi "str" (m2 D.ix (mVar 3) (mC (.int 0)))))))) (sRet (mC (.bl false))) (sNil)) (sSeq (xIf [] (toB (m2 D.eq (m2 D.ix (mVar 3) (mC (.int 0))) (mC (.str "never")))) (sSeq (xIf [] (bNot (toB (mCall (M__law_is_int) (mCons (m2 D.ix (mVar 3) (mC (.int 1))) (mCons (m2 D.ix (mVar 1) (mC (.int 0))) (mCons (m2 D.ix (mVar 1) (mC (.int 1))) (mNil))))))) (sRet (mC (.bl false))) (sNil)) (sRet (mNot (mN dAny (mCons (mLst (mLc [4] (bName 4) (mIter (mVar 2)) (bTrue) (mCall (M__law_parts) (mCons (mVar 0) (mCons (mVar 4) (mCons (m2 D.ix (mVar 3) (mC (.int 1))) (mNil))))))) (mNil)))))) (sNil)) (sSeq (xIf [] (bOr (toB (m2 D.ne (m2 D.ix (mVar 3) (mC (.int 0))) (mC (.str "row")))) (bOr (bNot (toB (mIsi "tuple" (m2 D.ix (mVar 3) (mC (.int 1)))))) (toB (m2 D.ne (mN dLen (mCons (m2 D.ix (mVar 3) (mC (.int 1))) (mNil))) (mC (.int 2)))))) (sRet (mC (.bl false))) (sNil)) (sSeq (xIf [] (bNot (toB (mN dAll (mCons (mLst (mLc [4] (bName 4) (mIter (m2 D.ix (mVar 3) (mC (.int 1)))) (bTrue) (mCall (M__law_is_int) (mCons (mVar 4) (mCons (m2 D.ix (mVar 1) (mC (.int 0))) (mCons (m2 D.ix (mVar 1) (mC (.int 1))) (mNil))))))) (mNil))))) (sRet (mC (.bl false))) (sNil)) (sRet (mN dAll (mCons (mLst (mLc [5] (bName 5) (mIter (mVar 2)) (bTrue) (mN dAny (mCons (mLst (mLc [4] (bName 4) (mIter (m2 D.ix (mVar 3) (mC (.int 1)))) (bTrue) (mCall (M__law_parts) (mCons (mVar 0) (mCons (mVar 4) (mCons (mVar 5) (mNil))))))) (mNil))))) (mNil)))))))
def M__law_is_row : List D → P3 → Res D := callF 6 4 B__law_is_row
def B__law_is_stuck_right : MS := sSeq (sPar [1, 2] [.inl ([], mCall (M__law_vat) (mCons (mVar 0) (mCons (mC (.bl true)) (mNil)))), .inl ([], m1 D.usub (mN dInt (mCons (mCall (M__law_take) (mCons (mVar 0) (mCons (mC (.int 5)) (mNil)))) (mNil))))]) (sSeq (xSet [] 3 (mTup (mCons (mVar 2) (mCons (m2 D.add (mVar 2) (mN dInt (mCons (mCall (M__law_take) (mCons (mVar 0) (mCons (mC (.int 7)) (mNil)))) (mNil)))) (mNil))))) (sSeq (sPar [4, 5, 6] [.inl ([], mLst (mNL dList2 (mCons (mN dRange (mCons (m2 D.ix (mVar 3) (mC (.int 0))) (mCons (m2 D.add (m2 D.ix (mVar 3) (mC (.int 1))) (mC (.int 1))) (mNil)))) (mNil)))), .inl ([], m2 D.ix (m2 D.ix (mVar 1) (mC (.int 3))) (mC (.int 0))), .inl ([], m2 D.ix (m2 D.ix (mVar 1) (mC (.int 3))) (mC (.int 1)))]) (sSeq (sPar [7, 8] [.inr (lenOk (mCons (mN dInt (mCons (m2 D.add (mVar 5) (mCall (M__law_take) (mCons (mVar 0) (mCons (m2 D.add (m2 D.sub (mVar 6) (mVar 5)) (mC (.int 1))) (mNil))))) (mNil))) (mNil))), .inr (lenOk (mNil))]) (sSeq (xSet [] 9 (mCall (M__law_of) (mCons (mVar 0) (mCons (mLst (lenOk (mCons (mC .non) (mCons (mC .non) (mCons (mN dInt (mCons (mCall (M__law_of) (mCons (mVar 0) (mCons (mVar 4) (mNil)))) (mNil))) (mNil)))))) (mNil))))) (sSeq (sFor (eName 10) (mRange1 (mCons (mCall (M__law_take) (mCons (mVar 0) (mCons (mC (.int 5)) (mNil)))) (mNil))) (sSeq (xSet [] 11 (mN dInt (mCons (mCall (M__law_of) (mCons (mVar 0) (mCons (mVar 4) (mNil)))) (mNil)))) (sSeq (xSet [] 12 (mN dInt (mCons (mCall (M__law_of) (mCons (mVar 0) (mCons (mLst (mNL dList2 (mCons (mN dRange (mCons (m2 D.ix (m2 D.ix (mVar 1) (mC (.int 4))) (mC (.int 0))) (mCons (m2 D.add (m2 D.ix (m2 D.ix (mVar 1) (mC (.int 4))) (mC (.int 1))) (mC (.int 1))) (mNil)))) (mNil)))) (mNil)))) (mNil)))) (sSeq (xSet [7] 13 (mCall (M__law_level) (mCons (mVar 1) (mCons (m2 D.ix (mVar 7) (m1 D.usub (mC (.int 1)))) (mCons (mIf (toB (m1 D.isNone (mVar 9))) (mVar 11) (mVar 9)) (mCons (mVar 12) (mNil))))))) (xIf [] (toB (mChain (D.cmp fLe) (D.cmp fLe) (mVar 5) (mVar 13) (mVar 6))) (sSeq (xApp [] 8 (mVar 11)) (xApp [] 7 (mN dInt (mCons (m2 D.add (mVar 13) (mIf (bAnd (toB (m2 D.eq (mCall (M__law_take) (mCons (mVar 0) (mCons (mC (.int 9)) (mNil)))) (mC (.int 0)))) (toB (mChain (D.cmp fLt) (D.cmp fLt) (mVar 5) (mVar 13) (mVar 6)))) (mCall (M__law_of) (mCons (mVar 0) (mCons (mLst (lenOk (mCons (mC (.int 0)) (mCons (mC (.int 1)) (mCons (m1 D.usub (mC (.int 1))) (mNil)))))) (mNil)))) (mC (.int 0)))) (mNil))))) (sNil)))))) (sFreeze 7 (sFreeze 8 (sSeq (sPar [14, 15] [.inl ([], mTup (mCons (mN dTuple2 (mCons (mVar 8) (mNil))) (mCons (mN dTuple2 (mCons (mVar 7) (mNil))) (mNil)))), .inr (lenOk (mNil))]) (sSeq (sFor (eName 16) (mIter (m2 D.add (mLst (lenOk (mCons (mTup (mCons (mC (.str "fine")) (mNil))) (mNil)))) (mLst (mLc [11] (bName 11) (mIter (mVar 4)) (bTrue) (mTup (mCons (mC (.str "stuck")) (mCons (mVar 11) (mNil)))))))) (sSeq (sNew 17 (mLc [11, 18, 19] (bTup [11, 18, 19]) (mZip3 (mCons (mVar 8) (mCons (mVar 7) (mCons (mSl (mVar 7) (oSome (mC (.int 1))) (oNo)) (mNil))))) (bTrue) (mTup (mCons (mIf (toB (m2 D.eq (mVar 16) (mTup (mCons (mC (.str "fine")) (mNil))))) (mVar 11) (m2 D.ix (mVar 16) (mC (.int 1)))) (mCons (mVar 18) (mCons (mVar 19) (mNil))))))) (sFreeze 17 (xExt [] 15 (mIf (toB (mN dAll (mCons (mLst (mLc [11, 18, 19] (bTup [11, 18, 19]) (mIter (mVar 17)) (bTrue) (m2 D.isin (mVar 19) (mCall (M__law_all_behind) (mCons (mVar 1) (mCons (mVar 18) (mCons (mVar 11) (mNil)))))))) (mNil)))) (mLst (lenOk (mCons (mVar 16) (mNil)))) (mLst (lenOk (mNil)))))))) (sFreeze 15 (sSeq (xIf [] (toB (mReprNe (mCall (M_may_be) (mCons (mVar 1) (mCons (mVar 3) (mCons (mVar 14) (mNil))))) (mN dTuple2 (mCons (mVar 15) (mNil))))) (sRet (mC (.bl false))) (sNil)) (sSeq (sFor (eName 11) (mIter (mVar 4)) (xIf [] (toB (mReprNe (mCall (M_telling) (mCons (mVar 1) (mCons (mVar 3) (mCons (mVar 11) (mNil))))) (mN dTuple2 (mCons (mLst (mLc [18] (bName 18) (mIter (mVar 4)) (toB (mCall (M__law_parts) (mCons (mVar 1) (mCons (mVar 18) (mCons (mVar 11) (mNil)))))) (mVar 18))) (mNil))))) (sRet (mC (.bl false))) (sNil))) (sSeq (sNew 20 (mLc [11] (bName 11) (mIter (mVar 4)) (bNot (toB (mN dAny (mCons (mLst (mLc [18] (bName 18) (mIter (mVar 4)) (bTrue) (mCall (M__law_parts) (mCons (mVar 1) (mCons (mVar 18) (mCons (mVar 11) (mNil))))))) (mNil))))) (mVar 11))) (sFreeze 20 (sSeq (xSet [] 15 (mIf (toB (m2 D.ne (mVar 20) (mLst (lenOk (mNil))))) (mTup (mCons (mC (.str "never")) (mCons (m2 D.ix (mVar 20) (mC (.int 0))) (mNil)))) (mC .non))) (sSeq (sFor (eName 18) (mIter (mVar 4)) (sFor (eName 21) (mIter (mVar 4)) (xIf [] (bAnd (toB (m1 D.isNone (mVar 15))) (toB (mN dAll (mCons (mLst (mLc [11] (bName 11) (mIter (mVar 4)) (bTrue) (mOr (mCall (M__law_parts) (mCons (mVar 1) (mCons (mVar 18) (mCons (mVar 11) (mNil))))) (mCall (M__law_parts) (mCons (mVar 1) (mCons (mVar 21) (mCons (mVar 11) (mNil)))))))) (mNil))))) (xSet [] 15 (mTup (mCons (mC (.str "row")) (mCons (mTup (mCons (mVar 18) (mCons (mVar 21) (mNil)))) (mNil))))) (sNil)))) (sSeq (xIf [] (toB (mReprNe (mCall (M_least_row) (mCons (mVar 1) (mCons (mVar 3) (mNil)))) (mVar 15))) (sRet (mC (.bl false))) (sNil)) (sSeq (xNew [] 22 (lenOk (mCons (mVar 15) (mCons (m1 D.rev (mVar 15)) (mCons (mLst (mNL dList2 (mCons (mVar 15) (mNil)))) (mCons (mSl (mVar 15) (oNo) (oSome (mC (.int 1)))) (mCons (mTup (mCons (mC (.str "never")) (mCons (m2 D.ix (mVar 3) (mC (.int 0))) (mNil)))) (mCons (mTup (mCons (mC (.str "row")) (mCons (mVar 3) (mNil)))) (mCons (mTup (mCons (mC (.str "row")) (mCons (m1 D.rev (mVar 3)) (mNil)))) (mNil)))))))))) (sSeq (xApp [] 22 (mCall (M__law_odd) (mCons (mVar 0) (mNil)))) (sSeq (xApp [] 22 (mTup (mCons (mC (.str "row")) (mCons (mTup (mCons (mN dInt (mCons (mCall (M__law_of) (mCons (mVar 0) (mCons (mVar 4) (mNil)))) (mNil))) (mCons (mN dInt (mCons (mCall (M__law_of) (mCons (mVar 0) (mCons (mVar 4) (mNil)))) (mNil))) (mNil)))) (mNil))))) (sSeq (xExt [] 22 (mLst (lenOk (mCons (mTup (mCons (mC (.str "never")) (mCons (mC (.bl true)) (mNil)))) (mCons (mTup (mCons (mC (.str "row")) (mCons (mLst (mNL dList2 (mCons (mVar 3) (mNil)))) (mNil)))) (mNil)))))) (sFreeze 22 (sSeq (sFor (eName 23) (mIter (m2 D.add (mVar 22) (mLst (mLc [10] (bName 10) (mRange1 (mCons (mC (.int 6)) (mNil))) (bTrue) (mCall (M__law_bent 30) (mCons (mVar 0) (mCons (mVar 15) (mNil)))))))) (xIf [] (toB (mReprNe (mCall (M_shows_row) (mCons (mVar 1) (mCons (mVar 3) (mCons (mVar 23) (mNil))))) (mCall (M__law_is_row) (mCons (mVar 1) (mCons (mVar 3) (mCons (mVar 4) (mCons (mVar 23) (mNil)))))))) (sRet (mC (.bl false))) (sNil))) (sSeq (xSet [] 24 (mN dTuple2 (mCons (mLst (mLc [10] (bName 10) (mRange1 (mCons (mCall (M__law_take) (mCons (mVar 0) (mCons (mC (.int 4)) (mNil)))) (mNil))) (bTrue) (mN dInt (mCons (mCall (M__law_of) (mCons (mVar 0) (mCons (mVar 4) (mNil)))) (mNil))))) (mNil)))) (sSeq (xSet [] 15 (mN dAll (mCons (mLst (mLc [11] (bName 11) (mIter (mVar 4)) (bTrue) (mN dAny (mCons (mLst (mLc [18] (bName 18) (mIter (mVar 24)) (bTrue) (mCall (M__law_parts) (mCons (mVar 1) (mCons (mVar 18) (mCons (mVar 11) (mNil))))))) (mNil))))) (mNil)))) (sRet (mReprEq (mCall (M_is_told) (mCons (mVar 1) (mCons (mVar 3) (mCons (m2 D.ix (mVar 7) (mC (.int 0))) (mCons (mVar 24) (mNil)))))) (mVar 15))))))))))))))))))))))))))))
def M__law_is_stuck_right : List D → P3 → Res D := callF 25 1 B__law_is_stuck_right
def caps__law_is_refused : CapT := []
def B__law_is_refused : MS := sSeq (xTup [] [3, 4] (mCallV caps__law_is_refused (M__law_heard) (mCons (mVar 0) (mNil)))) (sSeq (xNew [] 5 (lenOk (mCons (mTup (mCons (m1 (dIsE exs sub_BadVat) (mVar 3)) (mCons (mC (.str "vat")) (mNil)))) (mCons (mTup (mCons (m1 (dIsE exs sub_BadLever) (mVar 3)) (mCons (mC (.str "lever")) (mNil)))) (mNil))))) (sSeq (xExt [] 5 (mLst (lenOk (mCons (mTup (mCons (m1 (dIsE exs sub_BadReadings) (mVar 3)) (mCons (mC (.str "seen")) (mNil)))) (mCons (mTup (mCons (m1 (dIsE exs sub_BadLevel) (mVar 3)) (mCons (mC (.str "level")) (mNil)))) (mNil)))))) (sFreeze 5 (sRetV (mAnd (m2 D.eq (mLst (mLc [6, 7] (bTup [6, 7]) (mIter (mVar 5)) (toB (mVar 6)) (mVar 7))) (mLst (lenOk (mCons (mVar 1) (mNil))))) (mReprEq (m1 (dVal exs) (mVar 3)) (mVar 2)))))))
def M__law_is_refused : List D → P3 → Res D := callV 8 3 B__law_is_refused
def caps__law_are_refused : CapT := [(0, [4]), (1, [4]), (2, [4]), (3, [4]), (4, [4]), (5, [0, 3]), (6, [0, 3]), (7, [0, 3]), (8, [0])]
def B__law_are_refused : MS := sSeq (xSet [] 0 (mTup (mCons (mC (.int 1)) (mCons (mC (.int 1)) (mCons (mC (.int 1)) (mCons (mTup (mCons (m1 D.usub (mC (.int 3))) (mCons (mC (.int 3)) (mNil)))) (mCons (mTup (mCons (m1 D.usub (mC (.int 1))) (mCons (mC (.int 1)) (mNil)))) (mNil)))))))) (sSeq (sFor (eTup [1, 2]) (mIter (mTup (mCons (mTup (mCons (mC (.str "vat")) (mCons (mTup (mCons (mC .non) (mCons (mC (.int 7)) (mCons (mSl (mVar 0) (oNo) (oSome (mC (.int 4)))) (mNil))))) (mNil)))) (mCons (mTup (mCons (mC (.str "lever")) (mCons (mTup (mCons (mC .non) (mCons (mTup (mCons (mC (.int 1)) (mCons (mC (.int 0)) (mNil)))) (mCons (mTup (mCons (mC (.int 0)) (mCons (mC (.int 51)) (mNil)))) (mCons (mLst (lenOk (mCons (mC (.int 0)) (mCons (mC (.int 1)) (mNil))))) (mNil)))))) (mNil)))) (mNil))))) (sFor (eName 3) (mIter (mVar 2)) (sSeq (xSet [] 4 (mIf (toB (m2 D.eq (mVar 1) (mC (.str "vat")))) (mLst (lenOk (mCons (mVar 3) (mCons (mC .non) (mNil))))) (mLst (lenOk (mCons (mVar 0) (mCons (mVar 3) (mNil))))))) (sSeq (xNew [] 5 (lenOk (mCons (mC (.own 0)) (mNil)))) (sSeq (xApp [] 5 (mC (.own 1))) (sSeq (xApp [] 5 (mC (.own 2))) (sSeq (xApp [] 5 (mC (.own 3))) (sSeq (xApp [] 5 (mC (.own 4))) (sFreeze 5 (xIf [] (bNot (toB (mN dAll (mCons (mLst (mLcV caps__law_are_refused [6] 6 (mIter (mVar 5)) (mCallV [] (M__law_is_refused) (mCons (mVar 6) (mCons (mVar 1) (mCons (mVar 3) (mNil))))))) (mNil))))) (sRetV (mC (.bl false))) (sNil))))))))))) (sSeq (sFor (eName 3) (mIter (mTup (mCons (mC .non) (mCons (mTup (mNil)) (mCons (mTup (mCons (mTup (mNil)) (mCons (mTup (mNil)) (mNil)))) (mCons (mTup (mCons (mTup (mCons (mC (.int 0)) (mNil))) (mCons (mTup (mCons (mC (.int 0)) (mNil))) (mNil)))) (mCons (mTup (mCons (mTup (mCons (mC (.int 3)) (mNil))) (mCons (mTup (mCons (mC (.int 0)) (mCons (mC (.int 0)) (mNil)))) (mNil)))) (mCons (mTup (mCons (mTup (mCons (mC (.int 0)) (mNil))) (mCons (mTup (mCons (mC (.int 0)) (mCons (mC (.int 4)) (mNil)))) (mNil)))) (mCons (mTup (mCons (mTup (mCons (mC (.bl true)) (mNil))) (mCons (mTup (mCons (mC (.int 0)) (mCons (mC (.int 0)) (mNil)))) (mNil)))) (mCons (mLst (lenOk (mCons (mTup (mNil)) (mCons (mTup (mCons (mC (.int 0)) (mNil))) (mNil))))) (mNil))))))))))) (xIf [] (bNot (toB (mCallV caps__law_are_refused (M__law_is_refused) (mCons (mC (.own 5)) (mCons (mC (.str "seen")) (mCons (mVar 3) (mNil))))))) (sRetV (mC (.bl false))) (sNil))) (sSeq (sFor (eName 3) (mIter (mTup (mCons (mC .non) (mCons (mC (.int 3)) (mCons (m1 D.usub (mC (.int 3))) (mCons (mC (.bl true)) (mNil))))))) (xIf [] (bNot (toB (mCallV caps__law_are_refused (M__law_is_refused) (mCons (mC (.own 6)) (mCons (mC (.str "lever")) (mCons (mVar 3) (mNil))))))) (sRetV (mC (.bl false))) (sNil))) (sSeq (sFor (eName 3) (mIter (mTup (mCons (mC .non) (mCons (mTup (mCons (mC (.int 3)) (mNil))) (mCons (mLst (lenOk (mCons (mC (.int 0)) (mNil)))) (mCons (mTup (mCons (mC (.bl true)) (mNil))) (mCons (m2 D.mul (mTup (mCons (mC (.int 0)) (mNil))) (mC (.int 61))) (mNil)))))))) (xIf [] (bNot (toB (mCallV caps__law_are_refused (M__law_is_refused) (mCons (mC (.own 7)) (mCons (mC (.str "seen")) (mCons (mVar 3) (mNil))))))) (sRetV (mC (.bl false))) (sNil))) (sSeq (xIf [] (bNot (toB (mCallV caps__law_are_refused (M__law_is_refused) (mCons (mC (.own 8)) (mCons (mC (.str "level")) (mCons (mC (.int 4)) (mNil))))))) (sRetV (mC (.bl false))) (sNil)) (sRetV (m2 D.eq (mCall (M_least_row) (mPl (mCons (mVar 0) (mCons (mTup (mCons (m1 D.usub (mC (.int 3))) (mCons (mC (.int 3)) (mNil)))) (mNil))))) (mTup (mCons (mC (.str "row")) (mCons (mTup (mCons (m1 D.usub (mC (.int 3))) (mCons (mC (.int 2)) (mNil)))) (mNil)))))))))))
def M__law_are_refused : List D → P3 → Res D := callV 7 0 B__law_are_refused
def B_law : MS := sSeq (xIf [] (bNot (toB (mCall (M__law_are_refused) mNil))) (sRet (mC (.bl false))) (sNil)) (sSeq (sFor (eName 1) (mIter (mCall (M__law_places) (mCons (mVar 0) (mCons (mC (.int 3)) (mNil))))) (sPot 2 (mCallN M__law_pot (mCons (mVar 0) (mCons (mVar 1) (mNil)))) (xIf [] (bNot (toB (mN dAll (mCons (mLst (mLc [3] (bName 3) (mRange1 (mCons (mC (.int 5)) (mNil))) (bTrue) (mCall (M__law_is_stuck_right) (mCons (mVar 2) (mNil))))) (mNil))))) (sRet (mC (.bl false))) (sNil)))) (sRet (mC (.bl true))))
def M_law : List D → P3 → Res D := callF 4 1 B_law
end VL

namespace VL
open PySem PySem.Spec PyProof.Rows L2 LamX
theorem tk58 : TkOk M__law_take := tk_ok (t1 := 305501) (t2 := 638) (t3 := 10259) (t4 := 122) (t5 := 152) (by unfold Sm; decide) (by unfold Sm; decide) (by decide) (by unfold Sm; decide) (by decide) (by decide)
theorem of58 : OfOk M__law_of := of_ok tk58
theorem odd58 : OddOk M__law_odd := odd_ok of58
theorem bent58 : ∀ k, BentOk (M__law_bent (k + 1)) k
  | 0 => bent_ok tk58 of58 odd58 0 (fun j h => by omega)
  | k + 1 => bent_ok tk58 of58 odd58 (k + 1) (fun j h => by cases h; exact bent58 k)
theorem pot58 : PtOk M__law_pot := pt_ok (c1 := 40401) (c2 := 431) (m1' := 308401) (m2' := 45501) (m3 := 838) (by unfold Sm; decide) (by unfold Sm; decide) (by unfold Sm; decide)
theorem refused58 : M__law_are_refused [] none = .ok (.bl true) none := by kernel_rfl
section
variable {p : P3} {n : Nat} {d : D}
theorem int58 (h : d.sh n = true) (a b : Int) : M_is_integer [d, .int a, .int b] p = .ok (.bl (isI a b d)) p := isI_ok h a b p
theorem tup58 (h : d.sh n = true) (a b : Int) : M_is_tuple [d, .int a, .int b] p = .ok (.bl (isT a b d)) p := isT_ok h a b p
theorem lint58 (h : d.sh n = true) (a b : Int) : M__law_is_int [d, .int a, .int b] p = .ok (.bl (isI a b d)) p := lI_ok h a b p
@[simp] theorem int58i (i a b : Int) : M_is_integer [.int i, .int a, .int b] p = .ok (.bl (decide (a ≤ i) && decide (i ≤ b))) p := by simp [M_is_integer, B_is_integer, M_is_whole, B_is_whole, env0]
@[simp] theorem tup58t (ds : List D) (a b : Int) : M_is_tuple [.tup ds, .int a, .int b] p = .ok (.bl (decide (a ≤ ds.length) && decide (ds.length ≤ b))) p := by simp [M_is_tuple, B_is_tuple, env0]
end
/-- a vat, bounds of a lever -/
structure Vt where
  (k u s lo hi a b : Int)
  k0 : 0 ≤ k
  k1 : k ≤ 20
  u0 : 1 ≤ u
  u1 : u ≤ 20
  s0 : -20 ≤ s
  s1 : s ≤ 20
  lo0 : -200 ≤ lo
  lh : lo ≤ hi
  hi1 : hi ≤ 200
  a0 : -50 ≤ a
  ab : a ≤ b
  b1 : b ≤ 50
def Vt.d (V : Vt) : D := .tup [.int V.k, .int V.u, .int V.s, .tup [.int V.lo, .int V.hi], .tup [.int V.a, .int V.b]]
structure Lv where
  (l m : Int)
  l0 : -50 ≤ l
  lm : l ≤ m
  m1 : m ≤ 50
def Lv.d (L : Lv) : D := .tup [.int L.l, .int L.m]
abbrev Lv.e (L : Lv) : List Int := ir L.l (L.m + 1)
section
variable (V : Vt) (L : Lv) {p : P3}
@[simp] theorem ixV0 : D.ix V.d (.int 0) = some (.int V.k) := rfl
@[simp] theorem ixV1 : D.ix V.d (.int 1) = some (.int V.u) := by simp [Vt.d]
@[simp] theorem ixV2 : D.ix V.d (.int 2) = some (.int V.s) := by simp [Vt.d]
@[simp] theorem ixV3 : D.ix V.d (.int 3) = some (.tup [.int V.lo, .int V.hi]) := by simp [Vt.d]
@[simp] theorem ixV4 : D.ix V.d (.int 4) = some (.tup [.int V.a, .int V.b]) := by simp [Vt.d]
@[simp] theorem ixL0 : D.ix L.d (.int 0) = some (.int L.l) := by simp [Lv.d]
@[simp] theorem ixL1 : D.ix L.d (.int 1) = some (.int L.m) := by simp [Lv.d]
theorem btw58 {x y m : Int} (h1 : -m ≤ x) (h2 : x ≤ y) (h3 : y ≤ m) : M_is_between [.tup [.int x, .int y], .int m] p = .ok (.bl true) p := by
  have : x ≤ m := by omega
  simp [M_is_between, B_is_between, env0, h1, h2, h3, this]
theorem vat58 : M_is_vat [V.d] p = .ok (.bl true) p := by
  obtain ⟨k, u, s, lo, hi, a, b, h1, h2, h3, h4, h5, h6, h7, h8, h9, h10, h11, h12⟩ := V
  simp [M_is_vat, B_is_vat, env0, Vt.d, h1, h2, h3, h4, h5, h6, btw58 (m := 200) h7 h8 h9, btw58 (m := 50) h10 h11 h12]
@[simp] theorem cvat58 : M_check_vat [V.d] p = .ok .non p := by simp [M_check_vat, B_check_vat, env0, vat58]
@[simp] theorem cb58 : M_check_bounds [V.d, L.d] p = .ok .non p := by
  simp [M_check_bounds, B_check_bounds, env0, Lv.d, btw58 (m := 50) L.l0 L.lm L.m1]
/-- two settings are told apart -/
def pt (s w x y : Int) : Bool := decide (w < (if s * (x - y) < 0 then -(s * (x - y)) else s * (x - y)))
theorem parts58 (x y : Int) : M_parts [V.d, .int x, .int y] p = .ok (.bl (pt V.s (V.b - V.a) x y)) p := by
  have hs : Sm V.s := ⟨by have := V.s0; omega, by have := V.s1; omega⟩
  simp [M_parts, B_parts, M_width_of, B_width_of, env0, Vt.d, hs.mul, pt]
theorem lvl58 (x at_ w : Int) : M_level_by [V.d, .int x, .int at_, .int w] p = .ok (.int ((V.k * x).fdiv V.u + V.s * at_ + w)) p := by
  have hk : Sm V.k := ⟨by have := V.k0; omega, by have := V.k1; omega⟩
  have hs : Sm V.s := ⟨by have := V.s0; omega, by have := V.s1; omega⟩
  have hu : okDiv V.u = true := okDiv_i (by have := V.u0; omega) (by have := V.u1; omega)
  simp [M_level_by, B_level_by, env0, Vt.d, hk.mul, hs.mul, fdiv_int hu]
theorem llv58 (x at_ w : Int) : M__law_level [V.d, .int x, .int at_, .int w] p = .ok (.int ((V.k * x).fdiv V.u + V.s * at_ + w)) p := by
  have hk : Sm V.k := ⟨by have := V.k0; omega, by have := V.k1; omega⟩
  have hs : Sm V.s := ⟨by have := V.s0; omega, by have := V.s1; omega⟩
  have hu : okDiv V.u = true := okDiv_i (by have := V.u0; omega) (by have := V.u1; omega)
  simp [M__law_level, B__law_level, env0, Vt.d, hk.mul, hs.mul, fdiv_int hu]
theorem rg_wab : rgOk V.a (V.b + 1) = true := rgOk_i (by have := V.a0; omega) (by have := V.b1; omega) (by have := V.a0; have := V.b1; omega) (by have := V.ab; omega)
theorem rg_lm : rgOk L.l (L.m + 1) = true := rgOk_i (by have := L.l0; omega) (by have := L.m1; omega) (by have := L.l0; have := L.m1; omega) (by have := L.lm; omega)
/-- all levels behind one -/
def Vt.bh (V : Vt) (x y : Int) : List Int := (ir V.a (V.b + 1)).map fun w => (V.k * x).fdiv V.u + V.s * y + w
theorem behind58 (x at_ : Int) : M__law_all_behind [V.d, .int x, .int at_] p = .ok (.lst ((V.bh x at_).map D.int)) p := by
  simp [M__law_all_behind, B__law_all_behind, env0, rg_wab, llv58, Vt.bh, Function.comp_def]
/-- the program's and the law's own word for settings told apart -/
theorem isin_ints (i : Int) (l : List Int) : D.isin (.int i) (.lst (l.map D.int)) = some (.bl (decide (i ∈ l))) := by
  have h1 : D.plain 60 (.int i) = true := rfl
  have h2 : D.plain 60 (.lst (l.map D.int)) = true := by
    show List.all _ _ = true
    simp [List.all_map, D.plain, Function.comp_def]
  unfold D.isin
  dsimp only
  rw [h1, h2]
  simp only [Bool.and_self, if_true, List.any_map, Function.comp_def]
  congr 2
  rw [Bool.eq_iff_iff, List.any_eq_true]
  simp only [D.eqv, D.py, PyData.eqv, beq_iff_eq, decide_eq_true_eq]
  constructor
  · rintro ⟨x, h, rfl⟩; exact h
  · intro h; exact ⟨i, h, rfl⟩
theorem bh0 {V : Vt} {x i : Int} : i ∈ V.bh 0 x ↔ V.a ≤ i - V.s * x ∧ i - V.s * x ≤ V.b := by
  unfold Vt.bh
  have : (V.k * 0).fdiv V.u = 0 := by simp
  simp only [List.mem_map, mem_ir, this]
  constructor
  · rintro ⟨w, h, rfl⟩
    omega
  · intro h
    exact ⟨i - V.s * x, by omega, by omega⟩
theorem lparts58 (x y : Int) : M__law_parts [V.d, .int x, .int y] p = .ok (.bl (pt V.s (V.b - V.a) x y)) p := by
  have e : (!(V.bh 0 x).any fun i => decide (i ∈ V.bh 0 y)) = pt V.s (V.b - V.a) x y := by
    rw [Bool.eq_iff_iff]
    unfold pt
    simp only [Bool.not_eq_true', List.any_eq_false, bh0, decide_eq_true_eq]
    have := V.ab
    have e : V.s * (x - y) = V.s * x - V.s * y := Int.mul_sub ..
    rw [e]
    generalize V.s * x = sx
    generalize V.s * y = sy
    constructor
    · intro h
      have h1 := h (if sx ≤ sy then sy + V.a else sx + V.a)
      split at h1 <;> split <;> omega
    · intro h i hi hj
      split at h <;> omega
  rw [← e]
  simp [M__law_parts, B__law_parts, env0, behind58, isin_ints]
end
end VL

namespace VL
open PySem PySem.Spec PyProof.Rows L2 LamX
section
variable (V : Vt) (L : Lv) {p : P3} {n : Nat} {d : D}
def Vt.pt (V : Vt) (x y : Int) : Bool := VL.pt V.s (V.b - V.a) x y
theorem parts58' (x y : Int) : M_parts [V.d, .int x, .int y] p = .ok (.bl (V.pt x y)) p := parts58 V x y
theorem lparts58' (x y : Int) : M__law_parts [V.d, .int x, .int y] p = .ok (.bl (V.pt x y)) p := lparts58 V x y
theorem mem_e {i : Int} : i ∈ L.e ↔ L.l ≤ i ∧ i ≤ L.m := by unfold Lv.e; rw [mem_ir]; omega
theorem telling58 {at_ : Int} (h : L.l ≤ at_) (h2 : at_ ≤ L.m) : M_telling [V.d, L.d, .int at_] p = .ok (.tup ((L.e.filter fun x => V.pt x at_).map D.int)) p := by
  simp [M_telling, B_telling, env0, h, h2, rg_lm, parts58', Lv.e]
/-- between the bounds a setting is told apart only if a bound tells it -/
theorem pt_ends {x y : Int} (h : L.l ≤ x) (h2 : x ≤ L.m) (h3 : V.pt x y = true) : V.pt L.l y = true ∨ V.pt L.m y = true := by
  unfold Vt.pt VL.pt at h3 ⊢
  simp only [decide_eq_true_eq] at h3 ⊢
  have e1 : V.s * (x - y) = V.s * x - V.s * y := Int.mul_sub ..
  have e2 : V.s * (L.l - y) = V.s * L.l - V.s * y := Int.mul_sub ..
  have e3 : V.s * (L.m - y) = V.s * L.m - V.s * y := Int.mul_sub ..
  rw [e1] at h3
  rw [e2, e3]
  have key : (V.s * L.l ≤ V.s * x ∧ V.s * x ≤ V.s * L.m) ∨ (V.s * x ≤ V.s * L.l ∧ V.s * L.m ≤ V.s * x) := by
    rcases Int.le_total 0 V.s with hs | hs
    · exact .inl ⟨Int.mul_le_mul_of_nonneg_left h hs, Int.mul_le_mul_of_nonneg_left h2 hs⟩
    · exact .inr ⟨Int.mul_le_mul_of_nonpos_left hs h, Int.mul_le_mul_of_nonpos_left hs h2⟩
  generalize V.s * x = sx at *
  generalize V.s * y = sy at *
  generalize V.s * L.l = sl at *
  generalize V.s * L.m = sm at *
  split at h3 <;> split <;> split <;> omega
def Vt.lone (V : Vt) (L : Lv) : List Int := L.e.filter fun at_ => !V.pt L.l at_ && !V.pt L.m at_
theorem lone_eq : (L.e.filter fun at_ => !(L.e.any fun one => V.pt one at_)) = V.lone L := by
  unfold Vt.lone
  refine List.filter_congr fun y hy => ?_
  rw [Bool.eq_iff_iff]
  simp only [Bool.not_eq_true', List.any_eq_false, Bool.and_eq_true]
  have hl : L.l ∈ L.e := (mem_e L).mpr ⟨Int.le_refl _, L.lm⟩
  have hm : L.m ∈ L.e := (mem_e L).mpr ⟨L.lm, Int.le_refl _⟩
  constructor
  · intro h
    exact ⟨by simpa using h _ hl, by simpa using h _ hm⟩
  · rintro ⟨h1, h2⟩ x hx h3
    obtain ⟨a, b⟩ := (mem_e L).mp hx
    rcases pt_ends V L a b h3 with z | z
    · rw [h1] at z; cases z
    · rw [h2] at z; cases z
def Vt.both (V : Vt) (L : Lv) (x y : Int) : Bool := L.e.all fun at_ => V.pt x at_ || V.pt y at_
def rowD (x y : Int) : D := .tup [.str "row", .tup [.int x, .int y]]
def Vt.find (V : Vt) (L : Lv) : Option D := L.e.findSome? fun x => L.e.findSome? fun y => if V.both L x y = true then some (rowD x y) else none
def Vt.row (V : Vt) (L : Lv) : D := match V.lone L with
  | [] => (V.find L).getD (rowD L.l L.m)
  | x :: _ => .tup [.str "never", .int x]
theorem lone_filter : (ir L.l (L.m + 1)).filter (fun x => !V.pt L.l x && !V.pt L.m x) = V.lone L := rfl
theorem both_e (x y : Int) : ((ir L.l (L.m + 1)).all fun at_ => V.pt x at_ || V.pt y at_) = V.both L x y := rfl
theorem find_ex (h : V.lone L = []) : ∃ d, V.find L = some d := by
  have hl : L.l ∈ L.e := (mem_e L).mpr ⟨Int.le_refl _, L.lm⟩
  have hm : L.m ∈ L.e := (mem_e L).mpr ⟨L.lm, Int.le_refl _⟩
  have hb : V.both L L.l L.m = true := by
    unfold Vt.both
    refine List.all_eq_true.mpr fun y hy => ?_
    unfold Vt.lone at h
    have := List.filter_eq_nil_iff.mp h y hy
    simp only [Bool.and_eq_true, Bool.not_eq_true', not_and, Bool.not_eq_false] at this
    cases h1 : V.pt L.l y with
    | true => rfl
    | false => simpa using this h1
  cases e : V.find L with
  | some d => exact ⟨d, rfl⟩
  | none =>
    have := List.findSome?_eq_none_iff.mp (List.findSome?_eq_none_iff.mp e _ hl) _ hm
    rw [if_pos hb] at this
    cases this
theorem least58 : M_least_row [V.d, L.d] p = .ok (V.row L) p := by
  refine eq_of_wp ?_
  simp [M_least_row, B_least_row, env0, rg_lm, parts58', lone_filter, sizeLine]
  unfold Vt.row
  cases hl : V.lone L with
  | cons x xs => simp
  | nil =>
    simp
    obtain ⟨dd, hdd⟩ := find_ex V L hl
    refine forL_find D.int (fun x => L.e.findSome? fun y => if V.both L x y = true then some (rowD x y) else none) (fun env => ∃ a b c, env = [some (.p V.d), some (.p L.d), some (.p (.rng L.l (L.m + 1))), some (.p (.lst [])), a, b, c]) _ _ ?_ ⟨_, _, _, rfl⟩ ?_
    · rintro x _ env ⟨a, b, c, rfl⟩
      refine ⟨_, rfl, ?_⟩
      simp [rg_lm]
      refine forL_find D.int (fun y => if V.both L x y = true then some (rowD x y) else none) (fun env => ∃ a c, env = [some (.p V.d), some (.p L.d), some (.p (.rng L.l (L.m + 1))), some (.p (.lst [])), a, some (.p (.int x)), c]) _ _ ?_ ⟨_, _, rfl⟩ ?_
      · rintro y _ env ⟨a, c, rfl⟩
        refine ⟨_, rfl, ?_⟩
        simp [rg_lm, parts58', both_e, sizeLine]
        by_cases hb : V.both L x y = true
        · simp [hb, rowD]
        · simp [hb]
      · cases he : List.findSome? (fun y => if V.both L x y = true then some (rowD x y) else none) (ir L.l (L.m + 1)) with
        | some d => simp
        | none => rintro e ⟨a, c, rfl⟩; exact ⟨rfl, _, rfl, _, _, _, rfl⟩
    · have e : (ir L.l (L.m + 1)).findSome? (fun x => L.e.findSome? fun y => if V.both L x y = true then some (rowD x y) else none) = some dd := hdd
      rw [e, hdd]
      intro e
      simp
end
end VL

namespace VL
open PySem PySem.Spec PyProof.Rows L2 LamX
section
variable (V : Vt) (L : Lv) {p : P3} {n : Nat} {d : D}
/-- any two right as rows are right alike -/
def Alike (V : Vt) (L : Lv) (d : D) (p : P3) : Prop := ∃ b, M_shows_row [V.d, L.d, d] p = .ok (.bl b) p ∧ M__law_is_row [V.d, L.d, .lst (L.e.map D.int), d] p = .ok (.bl b) p
theorem sh2 {ds : List D} {x : D} (h : (D.tup ds).sh n = true) (hx : x ∈ ds) : ∃ m, x.sh m = true := by
  cases n with
  | zero => simp [D.sh] at h
  | succ n =>
    simp only [sh_tup, List.all_eq_true] at h
    exact ⟨n, h x hx⟩
theorem shows58 (h : d.sh n = true) : Alike V L d p := by
  cases d with
  | non => exact ⟨false, by simp [M_shows_row, B_shows_row, env0, tup58 h, isT], by simp [M__law_is_row, B__law_is_row, env0]⟩
  | bl b => exact ⟨false, by simp [M_shows_row, B_shows_row, env0, tup58 h, isT], by simp [M__law_is_row, B__law_is_row, env0]⟩
  | int i => exact ⟨false, by simp [M_shows_row, B_shows_row, env0, tup58 h, isT], by simp [M__law_is_row, B__law_is_row, env0]⟩
  | str x => exact ⟨false, by simp [M_shows_row, B_shows_row, env0, tup58 h, isT], by simp [M__law_is_row, B__law_is_row, env0]⟩
  | lst ds => exact ⟨false, by simp [M_shows_row, B_shows_row, env0, tup58 h, isT], by simp [M__law_is_row, B__law_is_row, env0]⟩
  | tup ds =>
    match ds, h with
    | [], h => exact ⟨false, by simp [M_shows_row, B_shows_row, env0], by simp [M__law_is_row, B__law_is_row, env0]⟩
    | [x], h => exact ⟨false, by simp [M_shows_row, B_shows_row, env0], by simp [M__law_is_row, B__law_is_row, env0]⟩
    | x :: y :: z :: ds, h =>
      have h1 : ¬ ((ds.length : Int) + 1 + 1 + 1 ≤ 2) := by omega
      have h2 : ¬ ((ds.length : Int) + 1 + 1 + 1 = 2) := by omega
      exact ⟨false, by simp [M_shows_row, B_shows_row, env0, h1], by simp [M__law_is_row, B__law_is_row, env0, h2]⟩
    | [x, y], h =>
      obtain ⟨m1, hx⟩ := sh2 h (x := x) (by simp)
      obtain ⟨m2, hy⟩ := sh2 h (x := y) (by simp)
      cases x with
      | non => exact ⟨false, by simp [M_shows_row, B_shows_row, env0], by simp [M__law_is_row, B__law_is_row, env0]⟩
      | bl b => exact ⟨false, by simp [M_shows_row, B_shows_row, env0], by simp [M__law_is_row, B__law_is_row, env0]⟩
      | int i => exact ⟨false, by simp [M_shows_row, B_shows_row, env0], by simp [M__law_is_row, B__law_is_row, env0]⟩
      | lst ds => exact ⟨false, by simp [M_shows_row, B_shows_row, env0], by simp [M__law_is_row, B__law_is_row, env0]⟩
      | tup ds => exact ⟨false, by simp [M_shows_row, B_shows_row, env0], by simp [M__law_is_row, B__law_is_row, env0]⟩
      | str s =>
        by_cases hs : s = Str.ofString "never"
        · subst hs
          have hi := fun a b p => int58 (p := p) hy a b
          have hl := fun a b p => lint58 (p := p) hy a b
          cases y with
          | int i =>
            refine ⟨(decide (L.l ≤ i) && decide (i ≤ L.m)) && !(L.e.any fun one => V.pt one i), ?_, ?_⟩
            · simp [M_shows_row, B_shows_row, env0, rg_lm, parts58']
            · simp [M__law_is_row, B__law_is_row, env0, hl, lparts58']
              by_cases h1 : L.l ≤ i <;> by_cases h2 : i ≤ L.m <;> simp [h1, h2] <;> omega
          | _ => exact ⟨false, by simp [M_shows_row, B_shows_row, env0, hi, isI, rg_lm], by simp [M__law_is_row, B__law_is_row, env0, hl, isI]⟩
        · have hs' : (s == Str.ofString "never") = false := by simpa using hs
          by_cases hr : s = Str.ofString "row"
          · subst hr
            cases y with
            | tup es =>
              match es, hy with
              | [], hy => exact ⟨false, by simp [M_shows_row, B_shows_row, env0, hs', rg_lm], by simp [M__law_is_row, B__law_is_row, env0, hs']⟩
              | [a], hy => exact ⟨false, by simp [M_shows_row, B_shows_row, env0, hs', rg_lm], by simp [M__law_is_row, B__law_is_row, env0, hs']⟩
              | a :: b :: c :: es, hy =>
                have h1 : ¬ ((es.length : Int) + 1 + 1 + 1 ≤ 2) := by omega
                have h2 : ¬ ((es.length : Int) + 1 + 1 + 1 = 2) := by omega
                exact ⟨false, by simp [M_shows_row, B_shows_row, env0, hs', rg_lm, h1], by simp [M__law_is_row, B__law_is_row, env0, hs', h2]⟩
              | [a, b], hy =>
                obtain ⟨m3, ha⟩ := sh2 hy (x := a) (by simp)
                obtain ⟨m4, hb⟩ := sh2 hy (x := b) (by simp)
                have ia := fun u v p => int58 (p := p) ha u v
                have ib := fun u v p => int58 (p := p) hb u v
                have la := fun u v p => lint58 (p := p) ha u v
                have lb := fun u v p => lint58 (p := p) hb u v
                by_cases hab : (isI L.l L.m a && isI L.l L.m b) = true
                · simp only [Bool.and_eq_true] at hab
                  cases a with
                  | int i =>
                    cases b with
                    | int j =>
                      simp only [isI_int, Bool.and_eq_true, decide_eq_true_eq] at hab
                      exact ⟨L.e.all fun at_ => V.pt i at_ || V.pt j at_, by simp [M_shows_row, B_shows_row, env0, hs', rg_lm, lcM_cons, hab, dAll, dAny, D.bools, parts58', bools_map, Function.comp_def], by simp [M__law_is_row, B__law_is_row, env0, hs', lcM_cons, la, lb, isI, hab, dAll, dAny, D.bools, lparts58', bools_map, Function.comp_def]⟩
                    | _ => exact absurd hab.2 (by simp [isI])
                  | _ => exact absurd hab.1 (by simp [isI])
                · exact ⟨false, by simp [M_shows_row, B_shows_row, env0, hs', rg_lm, lcM_cons, ia, ib, dAll, D.bools, hab], by simp [M__law_is_row, B__law_is_row, env0, hs', lcM_cons, la, lb, dAll, D.bools, hab]⟩
            | non => exact ⟨false, by simp [M_shows_row, B_shows_row, env0, hs', rg_lm, tup58 hy, isT], by simp [M__law_is_row, B__law_is_row, env0, hs']⟩
            | bl b => exact ⟨false, by simp [M_shows_row, B_shows_row, env0, hs', rg_lm, tup58 hy, isT], by simp [M__law_is_row, B__law_is_row, env0, hs']⟩
            | int b => exact ⟨false, by simp [M_shows_row, B_shows_row, env0, hs', rg_lm, tup58 hy, isT], by simp [M__law_is_row, B__law_is_row, env0, hs']⟩
            | str b => exact ⟨false, by simp [M_shows_row, B_shows_row, env0, hs', rg_lm, tup58 hy, isT], by simp [M__law_is_row, B__law_is_row, env0, hs']⟩
            | lst b => exact ⟨false, by simp [M_shows_row, B_shows_row, env0, hs', rg_lm, tup58 hy, isT], by simp [M__law_is_row, B__law_is_row, env0, hs']⟩
            | _ => cases m2 <;> simp [D.sh] at hy
          · have hr' : (s == Str.ofString "row") = false := by simpa using hr
            exact ⟨false, by simp [M_shows_row, B_shows_row, env0, hs, hr, rg_lm], by simp [M__law_is_row, B__law_is_row, env0, hs, hr]⟩
      | _ => cases m1 <;> simp [D.sh] at hx
  | _ => cases n <;> simp [D.sh] at h
/-- settings one behind the other -/
theorem told58 {x : Int} {r : List Int} (h1 : V.lo ≤ x) (h2 : x ≤ V.hi) (hr : ∀ i ∈ r, L.l ≤ i ∧ i ≤ L.m) (hl : r.length ≤ 60) : M_is_told [V.d, L.d, .int x, .tup (r.map D.int)] p = .ok (.bl (L.e.all fun at_ => r.any fun one => V.pt one at_)) p := by
  have h3 : ((r.length : Int) ≤ 60) = True := eq_true (by omega)
  have h4 : (r.all fun x => decide (L.l ≤ x) && decide (x ≤ L.m)) = true := List.all_eq_true.mpr fun i hi => by have := hr i hi; simp [this]
  simp [M_is_told, B_is_told, M_check_level, B_check_level, env0, h1, h2, h3, rg_lm, parts58', -List.all_eq_true]
  exact hr
end
end VL

namespace VL
open PySem PySem.Spec PyProof.Rows L2 LamX
def z3 : List Int → List Int → List Int → List (Int × Int × Int)
  | x :: xs, y :: ys, z :: zs => (x, y, z) :: z3 xs ys zs
  | _, _, _ => []
def t3 (t : Int × Int × Int) : D := .tup [.int t.1, .int t.2.1, .int t.2.2]
theorem zip3_ints : ∀ (a b c : List Int), zip3 (a.map D.int) (b.map D.int) (c.map D.int) = (z3 a b c).map t3
  | [], b, c => by simp [zip3, z3]
  | _ :: _, [], c => by simp [zip3, z3]
  | _ :: _, _ :: _, [] => by simp [zip3, z3]
  | x :: a, y :: b, z :: c => by simp [zip3, z3, t3, zip3_ints a b c]
theorem z3_len : ∀ (a b c : List Int), (z3 a b c).length ≤ a.length
  | [], b, c => by simp [z3]
  | _ :: _, [], c => by simp [z3]
  | _ :: _, _ :: _, [] => by simp [z3]
  | x :: a, y :: b, z :: c => by simp [z3]; exact z3_len a b c
theorem filter_fold {α : Type} (t : α → Bool) : ∀ (xs b : List α), xs.foldl (fun b x => if t x = true then b ++ [x] else b) b = b ++ xs.filter t
  | [], b => by simp
  | x :: xs, b => by
    simp only [List.foldl_cons, List.filter_cons]
    rw [filter_fold t xs]
    split <;> simp
section
variable (V : Vt) (L : Lv) {p : P3}
/-- a fault: fine, or stuck at -/
def fd : Option Int → D
  | none => .tup [.str "fine"]
  | some i => .tup [.str "stuck", .int i]
def Vt.fit (V : Vt) (f : Option Int) (t : Int × Int × Int) : Bool := decide ((V.k * t.2.1).fdiv V.u + V.s * (f.getD t.1) + V.a ≤ t.2.2) && decide (t.2.2 ≤ (V.k * t.2.1).fdiv V.u + V.s * (f.getD t.1) + V.b)
theorem fits58 (f : Option Int) (x y z : Int) : M_fits [V.d, fd f, .int x, .int y, .int z] p = .ok (.bl (V.fit f (x, y, z))) p := by
  cases f with
  | none => simp [M_fits, B_fits, env0, fd, lvl58, Vt.fit]
  | some i => simp [M_fits, B_fits, env0, fd, lvl58, Vt.fit]
def Lv.fs (L : Lv) : List (Option Int) := none :: L.e.map some
theorem faults58 : M_all_faults [L.d] p = .ok (.lst (L.fs.map fd)) p := by
  have h : (ir L.l (L.m + 1)).length ≤ 1000 := by simp; have := L.l0; have := L.m1; omega
  simp [M_all_faults, B_all_faults, env0, rg_lm, Lv.fs, fd, Function.comp_def, sizeLine]
  have := L.l0; have := L.m1; omega
def Vt.may (V : Vt) (L : Lv) (told levels : List Int) : List (Option Int) := L.fs.filter fun f => (z3 told levels levels.tail).all (V.fit f)
theorem may58 {told levels : List Int} (h1 : ∀ i ∈ told, L.l ≤ i ∧ i ≤ L.m) (h2 : ∀ i ∈ levels, V.lo ≤ i ∧ i ≤ V.hi) (h3 : levels.length = told.length + 1) (h4 : told.length ≤ 60) :
    M_may_be [V.d, L.d, .tup [.tup (told.map D.int), .tup (levels.map D.int)]] p = .ok (.tup ((V.may L told levels).map fd)) p := by
  refine eq_of_wp ?_
  have h5 : ((told.length : Int) ≤ 60 + 1) = True := eq_true (by omega)
  have h6 : ((levels.length : Int) ≤ 60 + 1) = True := eq_true (by omega)
  have seen : M_is_seen [V.d, L.d, .tup [.tup (told.map D.int), .tup (levels.map D.int)]] p = .ok (.bl true) p := by
    simp [M_is_seen, B_is_seen, env0, lcM_cons, h5, h6, dAll, D.bools, bools_map, Function.comp_def, h3]
    rw [if_neg (by omega), if_neg (by rintro ⟨x, hx, h⟩; have := h1 x hx; omega)]
    congr 2
    exact List.all_eq_true.mpr fun x hx => by have := h2 x hx; simp [this]
  simp [M_may_be, B_may_be, env0, seen, faults58]
  have zz : ∀ p, zip3On [.tup (told.map D.int), .tup (levels.map D.int), .tup (levels.map D.int).tail] p = .ok ((z3 told levels levels.tail).map t3) p := fun p => by
    rw [← zip3_ints]
    have e : (levels.map D.int).tail = levels.tail.map D.int := by simp
    rw [e]
    refine zip3On_ok rfl rfl rfl ?_
    rw [zip3_ints, List.length_map]
    exact Nat.le_trans (z3_len _ _ _) (Nat.le_trans h4 (by decide))
  have hfs : L.fs.length ≤ 200 := by unfold Lv.fs; simp; have := L.l0; have := L.m1; omega
  refine forL_pre fd (fun pre env => ∃ o1 o2 o3 o4, env = [some (.p V.d), some (.p L.d), some (.p (.tup [.tup (told.map D.int), .tup (levels.map D.int)])), some (.l ((pre.filter fun f => (z3 told levels levels.tail).all (V.fit f)).map fd)), o1, o2, o3, o4]) L.fs ?_ ?_ L.fs [] _ rfl ⟨_, _, _, _, rfl⟩
  · rintro e ⟨o1, o2, o3, o4, rfl⟩
    simp
    rfl
  · rintro pre f post env hx ⟨o1, o2, o3, o4, rfl⟩
    refine ⟨_, rfl, ?_⟩
    have hl : (List.map fd (pre.filter fun f => (z3 told levels levels.tail).all (V.fit f))).length < sizeLine := by
      rw [List.length_map]
      have := List.length_filter_le (fun f => (z3 told levels levels.tail).all (V.fit f)) pre
      have : pre.length ≤ L.fs.length := by rw [hx]; simp
      have : sizeLine = 2 ^ 24 := rfl
      omega
    simp [zz, t3, fits58, fApp_ok hl]
    by_cases hA : (z3 told levels levels.tail).all (V.fit f) = true
    · exact (if_pos hA).mpr (by simp only [List.filter_cons, hA, if_true, List.filter_nil, List.map_cons, List.map_nil])
    · refine (if_neg hA).mpr ?_
      simpa using hA
end
end VL

namespace VL
open PySem PySem.Spec PyProof.Rows L2 LamX
theorem of_ints58 {n : Nat} {l : List Int} {p : P3} {Q : D → P3 → Prop} (hp : Pot n p) (hn : n < 2 ^ 60) (he : l ≠ []) (hl : l.length < 2 ^ 60) (q : ∀ i ∈ l, ∀ p', Pot (n + 1) p' → Q (.int i) p') : (M__law_of [.pot, .lst (l.map D.int)] p).wp Q := by
  refine of58 n _ _ p Q (.inl rfl) hp hn (by simpa using he) (by rw [List.length_map]; omega) fun d hd p' hp' => ?_
  obtain ⟨i, hi, rfl⟩ := List.mem_map.mp hd
  exact q i hi p' hp'
/-- what stands behind the second loop -/
def R58b : MS := (sSeq (sNew 20 (mLc [11] (bName 11) (mIter (mVar 4)) (bNot (toB (mN dAny (mCons (mLst (mLc [18] (bName 18) (mIter (mVar 4)) (bTrue) (mCall (M__law_parts) (mCons (mVar 1) (mCons (mVar 18) (mCons (mVar 11) (mNil))))))) (mNil))))) (mVar 11))) (sFreeze 20 (sSeq (xSet [] 15 (mIf (toB (m2 D.ne (mVar 20) (mLst (lenOk (mNil))))) (mTup (mCons (mC (.str "never")) (mCons (m2 D.ix (mVar 20) (mC (.int 0))) (mNil)))) (mC .non))) (sSeq (sFor (eName 18) (mIter (mVar 4)) (sFor (eName 21) (mIter (mVar 4)) (xIf [] (bAnd (toB (m1 D.isNone (mVar 15))) (toB (mN dAll (mCons (mLst (mLc [11] (bName 11) (mIter (mVar 4)) (bTrue) (mOr (mCall (M__law_parts) (mCons (mVar 1) (mCons (mVar 18) (mCons (mVar 11) (mNil))))) (mCall (M__law_parts) (mCons (mVar 1) (mCons (mVar 21) (mCons (mVar 11) (mNil)))))))) (mNil))))) (xSet [] 15 (mTup (mCons (mC (.str "row")) (mCons (mTup (mCons (mVar 18) (mCons (mVar 21) (mNil)))) (mNil))))) (sNil)))) (sSeq (xIf [] (toB (mReprNe (mCall (M_least_row) (mCons (mVar 1) (mCons (mVar 3) (mNil)))) (mVar 15))) (sRet (mC (.bl false))) (sNil)) (sSeq (xNew [] 22 (lenOk (mCons (mVar 15) (mCons (m1 D.rev (mVar 15)) (mCons (mLst (mNL dList2 (mCons (mVar 15) (mNil)))) (mCons (mSl (mVar 15) (oNo) (oSome (mC (.int 1)))) (mCons (mTup (mCons (mC (.str "never")) (mCons (m2 D.ix (mVar 3) (mC (.int 0))) (mNil)))) (mCons (mTup (mCons (mC (.str "row")) (mCons (mVar 3) (mNil)))) (mCons (mTup (mCons (mC (.str "row")) (mCons (m1 D.rev (mVar 3)) (mNil)))) (mNil)))))))))) (sSeq (xApp [] 22 (mCall (M__law_odd) (mCons (mVar 0) (mNil)))) (sSeq (xApp [] 22 (mTup (mCons (mC (.str "row")) (mCons (mTup (mCons (mN dInt (mCons (mCall (M__law_of) (mCons (mVar 0) (mCons (mVar 4) (mNil)))) (mNil))) (mCons (mN dInt (mCons (mCall (M__law_of) (mCons (mVar 0) (mCons (mVar 4) (mNil)))) (mNil))) (mNil)))) (mNil))))) (sSeq (xExt [] 22 (mLst (lenOk (mCons (mTup (mCons (mC (.str "never")) (mCons (mC (.bl true)) (mNil)))) (mCons (mTup (mCons (mC (.str "row")) (mCons (mLst (mNL dList2 (mCons (mVar 3) (mNil)))) (mNil)))) (mNil)))))) (sFreeze 22 (sSeq (sFor (eName 23) (mIter (m2 D.add (mVar 22) (mLst (mLc [10] (bName 10) (mRange1 (mCons (mC (.int 6)) (mNil))) (bTrue) (mCall (M__law_bent 30) (mCons (mVar 0) (mCons (mVar 15) (mNil)))))))) (xIf [] (toB (mReprNe (mCall (M_shows_row) (mCons (mVar 1) (mCons (mVar 3) (mCons (mVar 23) (mNil))))) (mCall (M__law_is_row) (mCons (mVar 1) (mCons (mVar 3) (mCons (mVar 4) (mCons (mVar 23) (mNil)))))))) (sRet (mC (.bl false))) (sNil))) (sSeq (xSet [] 24 (mN dTuple2 (mCons (mLst (mLc [10] (bName 10) (mRange1 (mCons (mCall (M__law_take) (mCons (mVar 0) (mCons (mC (.int 4)) (mNil)))) (mNil))) (bTrue) (mN dInt (mCons (mCall (M__law_of) (mCons (mVar 0) (mCons (mVar 4) (mNil)))) (mNil))))) (mNil)))) (sSeq (xSet [] 15 (mN dAll (mCons (mLst (mLc [11] (bName 11) (mIter (mVar 4)) (bTrue) (mN dAny (mCons (mLst (mLc [18] (bName 18) (mIter (mVar 24)) (bTrue) (mCall (M__law_parts) (mCons (mVar 1) (mCons (mVar 18) (mCons (mVar 11) (mNil))))))) (mNil))))) (mNil)))) (sRet (mReprEq (mCall (M_is_told) (mCons (mVar 1) (mCons (mVar 3) (mCons (m2 D.ix (mVar 7) (mC (.int 0))) (mCons (mVar 24) (mNil)))))) (mVar 15))))))))))))))))
/-- the state behind the second loop -/
def env58b (V : Vt) (L : Lv) (levels told : List Int) (real due : D) (o10 o11 o12 o13 o14 o16 o17 : Option Sl) : En := [some (.p .pot), some (.p V.d), some (.p (.int L.l)), some (.p L.d), some (.p (.lst (L.e.map D.int))), some (.p (.int V.lo)), some (.p (.int V.hi)), some (.p (.lst (levels.map D.int))), some (.p (.lst (told.map D.int))), some (.p real), o10, o11, o12, o13,
    o14, some (.p due), o16, o17, none, none, none, none, none, none, none]
/-- what stands behind the loops for two settings -/
def R58c : MS := (sSeq (xIf [] (toB (mReprNe (mCall (M_least_row) (mCons (mVar 1) (mCons (mVar 3) (mNil)))) (mVar 15))) (sRet (mC (.bl false))) (sNil)) (sSeq (xNew [] 22 (lenOk (mCons (mVar 15) (mCons (m1 D.rev (mVar 15)) (mCons (mLst (mNL dList2 (mCons (mVar 15) (mNil)))) (mCons (mSl (mVar 15) (oNo) (oSome (mC (.int 1)))) (mCons (mTup (mCons (mC (.str "never")) (mCons (m2 D.ix (mVar 3) (mC (.int 0))) (mNil)))) (mCons (mTup (mCons (mC (.str "row")) (mCons (mVar 3) (mNil)))) (mCons (mTup (mCons (mC (.str "row")) (mCons (m1 D.rev (mVar 3)) (mNil)))) (mNil)))))))))) (sSeq (xApp [] 22 (mCall (M__law_odd) (mCons (mVar 0) (mNil)))) (sSeq (xApp [] 22 (mTup (mCons (mC (.str "row")) (mCons (mTup (mCons (mN dInt (mCons (mCall (M__law_of) (mCons (mVar 0) (mCons (mVar 4) (mNil)))) (mNil))) (mCons (mN dInt (mCons (mCall (M__law_of) (mCons (mVar 0) (mCons (mVar 4) (mNil)))) (mNil))) (mNil)))) (mNil))))) (sSeq (xExt [] 22 (mLst (lenOk (mCons (mTup (mCons (mC (.str "never")) (mCons (mC (.bl true)) (mNil)))) (mCons (mTup (mCons (mC (.str "row")) (mCons (mLst (mNL dList2 (mCons (mVar 3) (mNil)))) (mNil)))) (mNil)))))) (sFreeze 22 (sSeq (sFor (eName 23) (mIter (m2 D.add (mVar 22) (mLst (mLc [10] (bName 10) (mRange1 (mCons (mC (.int 6)) (mNil))) (bTrue) (mCall (M__law_bent 30) (mCons (mVar 0) (mCons (mVar 15) (mNil)))))))) (xIf [] (toB (mReprNe (mCall (M_shows_row) (mCons (mVar 1) (mCons (mVar 3) (mCons (mVar 23) (mNil))))) (mCall (M__law_is_row) (mCons (mVar 1) (mCons (mVar 3) (mCons (mVar 4) (mCons (mVar 23) (mNil)))))))) (sRet (mC (.bl false))) (sNil))) (sSeq (xSet [] 24 (mN dTuple2 (mCons (mLst (mLc [10] (bName 10) (mRange1 (mCons (mCall (M__law_take) (mCons (mVar 0) (mCons (mC (.int 4)) (mNil)))) (mNil))) (bTrue) (mN dInt (mCons (mCall (M__law_of) (mCons (mVar 0) (mCons (mVar 4) (mNil)))) (mNil))))) (mNil)))) (sSeq (xSet [] 15 (mN dAll (mCons (mLst (mLc [11] (bName 11) (mIter (mVar 4)) (bTrue) (mN dAny (mCons (mLst (mLc [18] (bName 18) (mIter (mVar 24)) (bTrue) (mCall (M__law_parts) (mCons (mVar 1) (mCons (mVar 18) (mCons (mVar 11) (mNil))))))) (mNil))))) (mNil)))) (sRet (mReprEq (mCall (M_is_told) (mCons (mVar 1) (mCons (mVar 3) (mCons (m2 D.ix (mVar 7) (mC (.int 0))) (mCons (mVar 24) (mNil)))))) (mVar 15))))))))))))
def env58c (V : Vt) (L : Lv) (levels told : List Int) (real due : D) (o10 o11 o12 o13 o14 o16 o17 o18 o20 o21 : Option Sl) : En := [some (.p .pot), some (.p V.d), some (.p (.int L.l)), some (.p L.d), some (.p (.lst (L.e.map D.int))), some (.p (.int V.lo)), some (.p (.int V.hi)), some (.p (.lst (levels.map D.int))), some (.p (.lst (told.map D.int))), some (.p real), o10, o11, o12, o13,
    o14, some (.p due), o16, o17, o18, none, o20, o21, none, none, none]
theorem row_form {V : Vt} {L : Lv} : (∃ x, L.l ≤ x ∧ x ≤ L.m ∧ V.row L = .tup [.str "never", .int x]) ∨ ∃ x y, L.l ≤ x ∧ x ≤ L.m ∧ L.l ≤ y ∧ y ≤ L.m ∧ V.row L = rowD x y := by
  unfold Vt.row
  cases hl : V.lone L with
  | cons x xs =>
    have hx : x ∈ V.lone L := by rw [hl]; exact List.mem_cons_self
    have := (mem_e L).mp (List.mem_filter.mp hx).1
    exact .inl ⟨x, this.1, this.2, rfl⟩
  | nil =>
    obtain ⟨d, hd⟩ := find_ex V L hl
    obtain ⟨a, ha, h1⟩ := List.exists_of_findSome?_eq_some hd
    obtain ⟨b, hb, h2⟩ := List.exists_of_findSome?_eq_some h1
    have m1 := (mem_e L).mp ha
    have m2 := (mem_e L).mp hb
    refine .inr ⟨a, b, m1.1, m1.2, m2.1, m2.2, ?_⟩
    rw [hd]
    split at h2
    · cases h2; rfl
    · cases h2
theorem sm_lv {L : Lv} {x : Int} (h : L.l ≤ x) (h2 : x ≤ L.m) : Sm x := by
  have := L.l0
  have := L.m1
  unfold Sm
  omega
theorem strB_never : strB "never" = true := by decide +kernel
theorem strB_row : strB "row" = true := by decide +kernel
/-- what the row is made of -/
theorem row_two {V : Vt} {L : Lv} : ∃ (w : Str) (y : D), V.row L = .tup [.str w, y] ∧ strB w = true ∧ w.length ≤ 10 ∧ y.nr 2 = true ∧ y.sz ≤ 300 := by
  rcases row_form (V := V) (L := L) with ⟨x, h1, h2, e⟩ | ⟨x, y, h1, h2, h3, h4, e⟩
  · refine ⟨_, _, e, strB_never, by decide, (sm_lv h1 h2).nr 2, ?_⟩
    have := (sm_lv h1 h2).sz
    omega
  · refine ⟨_, _, e, strB_row, by decide, ?_, ?_⟩
    · show List.all _ _ = true
      simp only [List.all_cons, List.all_nil, Bool.and_true, (sm_lv h1 h2).nr, (sm_lv h3 h4).nr]
    · have := (sm_lv h1 h2).sz
      have := (sm_lv h3 h4).sz
      show 3 + (_ + 2 + (_ + 2 + 0)) ≤ _
      omega
theorem rest58c {V : Vt} {L : Lv} {told levels : List Int} {real : D} {o10 o11 o12 o13 o14 o16 o17 o18 o20 o21 : Option Sl} {n m : Nat} {p : P3} (hp : Pot m p) (hm : m ≤ n + 200) (hn : n ≤ 100000)
    (h2 : ∀ i ∈ levels, V.lo ≤ i ∧ i ≤ V.hi) (h3 : levels ≠ []) :
    (R58c (env58c V L levels told real (V.row L) o10 o11 o12 o13 o14 o16 o17 o18 o20 o21) p).wp (wpF fun d p' => d = .bl true ∧ Pot (n + 1000) p') := by
  have hl1 := L.l0
  have hm1 := L.m1
  have hlm := L.lm
  have hel : L.e.length ≤ 200 := by simp; omega
  have he : L.e ≠ [] := by
    intro h
    have : L.l ∈ L.e := (mem_e L).mpr ⟨Int.le_refl _, L.lm⟩
    rw [h] at this
    cases this
  obtain ⟨w, y, erow, hw, hwl, hy, hysz⟩ := row_two (V := V) (L := L)
  have nrow : (V.row L).nr 3 = true := by
    rw [erow]
    show List.all _ _ = true
    simp [hw, hy]
  have szrow : (V.row L).sz ≤ 500 := by
    rw [erow]
    show 3 + (10 * w.length + 2 + 2 + (y.sz + 2 + 0)) ≤ 500
    omega
  have rprow : (V.row L).rp = true := rp_of (sh_le (nr_sh _ _ nrow) (by decide)) (by omega)
  have erev : D.rev (V.row L) = some (.tup [y, .str w]) := by rw [erow]; rfl
  have elst : dList2 [V.row L] = some [.str w, y] := by rw [erow]; rfl
  have ecut : D.slice (V.row L) none (some 1) = some (.tup [.str w]) := by rw [erow]; rfl
  have elrev : D.rev L.d = some (.tup [.int L.m, .int L.l]) := rfl
  have ellst : dList2 [L.d] = some [.int L.l, .int L.m] := rfl
  simp [R58c, env58c, sizeLine, least58, rprow, erev, elst, ecut, elrev]
  refine odd58 m p _ hp (by omega) fun od p1 hod hodz hp1 => ?_
  simp [fApp, sizeLine]
  refine of_ints58 hp1 (by omega) he (by omega) fun a1 ha1 p2 hp2 => ?_
  simp [fApp, sizeLine]
  refine of_ints58 hp2 (by omega) he (by omega) fun a2 ha2 p3 hp3 => ?_
  simp [fApp, fExt, sizeLine, ellst]
  refine ⟨by decide, ?_⟩
  refine lcM_each 60 (fun d => d.sh 34 = true) (N := 1000000) ?_ _ (m + 3) p3 hp3 (by simp; omega) fun bs p4 hb hbl hp4 => ?_
  · intro x n' p hp hn'
    simp only [wp_bind, wp_strict, wp_ok]
    exact bent58 29 n' (V.row L) p _ hp (by omega) (nr_le nrow (by decide)) (by decide) (by omega) fun d p' h1 h2 h3 => ⟨d, rfl, h1, h3⟩
  have hbl' : bs.length = 6 := by simpa using hbl
  rw [add_lst (by simp [hbl'])]
  simp only [ofO_some, wp_ok, iterOn_lst]
  have two : ∀ (s : String) (i : Int), Sm i → (D.tup [.str s, .int i]).sh 40 = true := fun s i hi => by simp [D.sh]; have := hi.log; omega
  have tre : ∀ (s : String) (i j : Int), Sm i → Sm j → (D.tup [.str s, .tup [.int i, .int j]]).sh 40 = true := fun s i j hi hj => by simp [D.sh]; have := hi.log; have := hj.log; omega
  have tre' : ∀ (s : String) (i j : Int), Sm i → Sm j → (D.tup [.str s, .lst [.int i, .int j]]).sh 40 = true := fun s i j hi hj => by simp [D.sh]; have := hi.log; have := hj.log; omega
  have sl : Sm L.l := sm_lv (Int.le_refl _) hlm
  have sm : Sm L.m := sm_lv hlm (Int.le_refl _)
  have s1 : Sm a1 := by have := (mem_e L).mp ha1; exact sm_lv this.1 this.2
  have s2 : Sm a2 := by have := (mem_e L).mp ha2; exact sm_lv this.1 this.2
  have hy1 : y.sh 39 = true := sh_le (nr_sh _ _ hy) (by decide)
  have hw1 : PyData.strOk w = true := by
    unfold strB at hw
    simp only [Bool.and_eq_true] at hw
    exact hw.1.1.2
  refine forL_eachD (fun env => ∃ o22 o23, env = [some (.p .pot), some (.p V.d), some (.p (.int L.l)), some (.p L.d), some (.p (.lst (L.e.map D.int))), some (.p (.int V.lo)), some (.p (.int V.hi)), some (.p (.lst (levels.map D.int))), some (.p (.lst (told.map D.int))), some (.p real), o10, o11, o12, o13,
    o14, some (.p (V.row L)), o16, o17, o18, none, o20, o21, o22, o23, none]) ?_ _ _ ?_ ⟨_, _, rfl⟩
  rotate_left
  · rintro d hd env ⟨o22, o23, rfl⟩
    refine ⟨_, rfl, ?_⟩
    have hsh : ∃ k, d.sh k = true := by
      rcases List.mem_append.mp hd with hd | hd
      · simp only [List.mem_cons, List.not_mem_nil, or_false] at hd
        rcases hd with rfl | rfl | rfl | rfl | rfl | rfl | rfl | rfl | rfl | rfl | rfl
        · exact ⟨_, nr_sh _ _ nrow⟩
        · exact ⟨40, by simp [D.sh, hy1, hw1]⟩
        · exact ⟨40, by simp [D.sh, hy1, hw1]⟩
        · exact ⟨40, by simp [D.sh, hw1]⟩
        · exact ⟨40, two _ _ sl⟩
        · exact ⟨40, tre _ _ _ sl sm⟩
        · exact ⟨40, tre _ _ _ sm sl⟩
        · exact ⟨_, hod⟩
        · exact ⟨40, tre _ _ _ s1 s2⟩
        · exact ⟨40, by simp [D.sh]⟩
        · exact ⟨40, tre' _ _ _ sl sm⟩
      · exact ⟨_, hb d hd⟩
    obtain ⟨k, hk⟩ := hsh
    obtain ⟨b, e1, e2⟩ := shows58 V L (p := p4) hk
    simp [e1, e2]
  · rintro e ⟨o22, o23, rfl⟩
    simp
    refine tk58 (m + 3 + 60 * 6) 4 p4 _ (by simpa using hp4) (by omega) (by decide) (by decide) fun t p5 t0 t1 hp5 => ?_
    have ht : rgOk 0 t = true := rgOk_i (by decide) (by omega) (by omega) t0
    simp [ht]
    refine lcM_each 1 (fun d => ∃ i, d = .int i ∧ L.l ≤ i ∧ i ≤ L.m) (N := 1000000) ?_ _ (m + 3 + 60 * 6 + 1) p5 hp5 (by simp; omega) fun rs p6 hr hrl hp6 => ?_
    · intro x n' p hp hn'
      simp only [wp_bind, wp_strict, wp_ok]
      refine of_ints58 hp (by omega) he (by omega) fun i hi p' hp' => ?_
      have := (mem_e L).mp hi
      simp
      exact ⟨this, hp'⟩
    obtain ⟨r, rfl, hr'⟩ := ints_of rs hr
    obtain ⟨l0, ls, rfl⟩ : ∃ l0 ls, levels = l0 :: ls := by
      cases levels with
      | nil => exact absurd rfl h3
      | cons a b => exact ⟨a, b, rfl⟩
    have hl0 := h2 l0 List.mem_cons_self
    have hrl' : r.length ≤ 3 := by simp at hrl; omega
    simp [told58 V L hl0.1 hl0.2 hr' (by omega), lparts58', -List.all_eq_true, -List.any_eq_true]
    exact hp6.mono (by simp; omega)
/-- what the two loops look for -/
def Vt.G (V : Vt) (L : Lv) (x y : Int) : Option D := if V.both L x y = true then some (rowD x y) else none
def Vt.F (V : Vt) (L : Lv) (x : Int) : Option D := L.e.findSome? (V.G L x)
theorem G_isN {V : Vt} {L : Lv} {x y : Int} {d : D} (h : V.G L x y = some d) : d.isN = false := by
  unfold Vt.G at h
  split at h
  · cases h; rfl
  · cases h
theorem both_e' {V : Vt} {L : Lv} (x y : Int) : (L.e.all fun at_ => V.pt x at_ || V.pt y at_) = V.both L x y := rfl
theorem rest58b {V : Vt} {L : Lv} {told levels : List Int} {real due : D} {o10 o11 o12 o13 o14 o16 o17 : Option Sl} {n m : Nat} {p : P3} (hp : Pot m p) (hm : m ≤ n + 200) (hn : n ≤ 100000)
    (h2 : ∀ i ∈ levels, V.lo ≤ i ∧ i ≤ V.hi) (h3 : levels ≠ []) :
    (R58b (env58b V L levels told real due o10 o11 o12 o13 o14 o16 o17) p).wp (wpF fun d p' => d = .bl true ∧ Pot (n + 1000) p') := by
  have hl1 := L.l0
  have hm1 := L.m1
  have hlm := L.lm
  have hel : L.e.length ≤ 200 := by simp; omega
  simp [R58b, env58b, sizeLine, lparts58', -List.any_eq_true, -List.any_eq_false, lone_eq V L]
  cases hl : V.lone L with
  | cons x xs =>
    have hrow : V.row L = .tup [.str "never", .int x] := by unfold Vt.row; rw [hl]
    simp
    generalize hQ : wpS (wpF fun d p' => d = D.bl true ∧ Pot (n + 1000) p') _ = Q
    have hQ2 := hQ
    clear hQ
    refine forL_each D.int (fun env => ∃ o18 o21, env = env58c V L levels told real (.tup [.str "never", .int x]) o10 o11 o12 o13 o14 o16 o17 o18 (some (.p (.lst ((x :: xs).map D.int)))) o21) ?_ _ _ ?_ ⟨_, _, rfl⟩
    · rintro e ⟨o18, o21, rfl⟩
      rw [← hQ2, ← hrow]
      exact rest58c hp hm hn h2 h3
    · rintro a _ env ⟨o18, o21, rfl⟩
      refine ⟨_, rfl, ?_⟩
      simp [env58c]
      refine forL_each D.int (fun env => ∃ o21, env = env58c V L levels told real (.tup [.str "never", .int x]) o10 o11 o12 o13 o14 o16 o17 (some (.p (.int a))) (some (.p (.lst ((x :: xs).map D.int)))) o21) ?_ _ _ ?_ ⟨_, rfl⟩
      · rintro e ⟨o21, rfl⟩
        exact ⟨rfl, _, _, rfl⟩
      · rintro b _ env ⟨o21, rfl⟩
        refine ⟨_, rfl, ?_⟩
        simp [env58c, D.isN]
  | nil =>
    obtain ⟨dd, hdd⟩ := find_ex V L hl
    have hrow : V.row L = dd := by unfold Vt.row; rw [hl, hdd]; rfl
    simp
    generalize hQ : wpS (wpF fun d p' => d = D.bl true ∧ Pot (n + 1000) p') _ = Q
    have hQ2 := hQ
    clear hQ
    refine forL_pre D.int (fun pre env => ∃ o18 o21, env = env58c V L levels told real ((pre.findSome? (V.F L)).getD .non) o10 o11 o12 o13 o14 o16 o17 o18 (some (.p (.lst []))) o21) L.e ?_ ?_ L.e [] _ rfl ⟨_, _, rfl⟩
    · rintro e ⟨o18, o21, rfl⟩
      have e1 : L.e.findSome? (V.F L) = some dd := hdd
      rw [← hQ2, e1, Option.getD_some, ← hrow]
      exact rest58c hp hm hn h2 h3
    · rintro pre x post env hx ⟨o18, o21, rfl⟩
      refine ⟨_, rfl, ?_⟩
      simp [env58c]
      refine forL_pre D.int (fun pre2 env => ∃ o21, env = env58c V L levels told real (((pre.findSome? (V.F L)).or (pre2.findSome? (V.G L x))).getD .non) o10 o11 o12 o13 o14 o16 o17 (some (.p (.int x))) (some (.p (.lst []))) o21) L.e ?_ ?_ L.e [] _ rfl ⟨o21, by simp [env58c]⟩
      · rintro e ⟨o21, rfl⟩
        refine ⟨rfl, some (.p (.int x)), o21, ?_⟩
        have e1 : (pre ++ [x]).findSome? (V.F L) = (pre.findSome? (V.F L)).or (L.e.findSome? (V.G L x)) := by
          rw [List.findSome?_append]
          simp [Vt.F]
        have e3 : L.e.findSome? (V.G L x) = V.F L x := rfl
        rw [e3]
        simp [env58c]
      · rintro pre2 y post2 env hy ⟨o21, rfl⟩
        refine ⟨_, rfl, ?_⟩
        have e1 : ∀ y, V.G L x y = if V.both L x y = true then some (rowD x y) else none := fun _ => rfl
        have e2 : (pre2 ++ [y]).findSome? (V.G L x) = (pre2.findSome? (V.G L x)).or (V.G L x y) := by
          rw [List.findSome?_append]
          simp
        have nA : ∀ d, pre.findSome? (V.F L) = some d → d.isN = false := fun d hd => by
          obtain ⟨a, _, ha⟩ := List.exists_of_findSome?_eq_some hd
          obtain ⟨b, _, hb⟩ := List.exists_of_findSome?_eq_some ha
          exact G_isN hb
        have nB : ∀ d, pre2.findSome? (V.G L x) = some d → d.isN = false := fun d hd => by
          obtain ⟨b, _, hb⟩ := List.exists_of_findSome?_eq_some hd
          exact G_isN hb
        simp [env58c, sizeLine]
        cases hA : pre.findSome? (V.F L) with
        | some d => simp [nA d hA]
        | none =>
          cases hB : pre2.findSome? (V.G L x) with
          | some d => simp [nB d hB]
          | none =>
            by_cases hb : V.both L x y = true
            · simp [D.isN, lparts58', both_e', hb, e1, rowD, -List.all_eq_true]
            · simp [D.isN, lparts58', both_e', hb, e1, rowD, -List.all_eq_true]
end VL

namespace VL
open PySem PySem.Spec PyProof.Rows L2 LamX
/-- a drawn vat -/
theorem lvat58 {n : Nat} {p : P3} {Q : D → P3 → Prop} (hp : Pot n p) (hn : n + 100 < 2 ^ 60) (q : ∀ (V : Vt) p', Pot (n + 6) p' → Q V.d p') : (M__law_vat [.pot, .bl true] p).wp Q := by
  simp [M__law_vat, B__law_vat, env0, sizeLine]
  refine of58 n _ _ p _ (.inl rfl) hp (by omega) (by simp) (by simp) fun d hd p1 hp1 => ?_
  obtain ⟨k, u, rfl, k0, k1, u0, u1⟩ : ∃ k u : Int, d = .tup [.int k, .int u] ∧ 0 ≤ k ∧ k ≤ 20 ∧ 1 ≤ u ∧ u ≤ 20 := by
    simp only [List.mem_cons, List.not_mem_nil, or_false] at hd
    rcases hd with rfl | rfl | rfl | rfl | rfl | rfl | rfl | rfl
    all_goals exact ⟨_, _, rfl, by decide, by decide, by decide, by decide⟩
  simp [sizeLine]
  refine of58 (n + 1) _ _ p1 _ (.inl rfl) hp1 (by omega) (by simp) (by simp) fun d hd p2 hp2 => ?_
  obtain ⟨s, rfl, s0, s1⟩ : ∃ s : Int, d = .int s ∧ -20 ≤ s ∧ s ≤ 20 := by
    simp only [List.mem_cons, List.not_mem_nil, or_false] at hd
    rcases hd with rfl | rfl | rfl | rfl | rfl | rfl | rfl
    all_goals exact ⟨_, rfl, by decide, by decide⟩
  skip
  refine tk58 (n + 2) 4 p2 _ hp2 (by omega) (by decide) (by decide) fun x p3 x0 x1 hp3 => ?_
  simp [sizeLine]
  refine tk58 (n + 3) 8 p3 _ hp3 (by omega) (by decide) (by decide) fun y p4 y0 y1 hp4 => ?_
  simp [sizeLine]
  refine tk58 (n + 4) 3 p4 _ hp4 (by omega) (by decide) (by decide) fun z p5 z0 z1 hp5 => ?_
  simp [sizeLine]
  refine tk58 (n + 5) 3 p5 _ hp5 (by omega) (by decide) (by decide) fun w p6 w0 w1 hp6 => ?_
  exact q ⟨k, u, s, -x, -x + 2 + y, -z, -z + w, k0, k1, u0, u1, s0, s1, by omega, by omega, by omega, by omega, by omega, by omega⟩ p6 hp6
/-- what stands behind the first loop -/
def R58 : MS := (sSeq (sPar [14, 15] [.inl ([], mTup (mCons (mN dTuple2 (mCons (mVar 8) (mNil))) (mCons (mN dTuple2 (mCons (mVar 7) (mNil))) (mNil)))), .inr (lenOk (mNil))]) (sSeq (sFor (eName 16) (mIter (m2 D.add (mLst (lenOk (mCons (mTup (mCons (mC (.str "fine")) (mNil))) (mNil)))) (mLst (mLc [11] (bName 11) (mIter (mVar 4)) (bTrue) (mTup (mCons (mC (.str "stuck")) (mCons (mVar 11) (mNil)))))))) (sSeq (sNew 17 (mLc [11, 18, 19] (bTup [11, 18, 19]) (mZip3 (mCons (mVar 8) (mCons (mVar 7) (mCons (mSl (mVar 7) (oSome (mC (.int 1))) (oNo)) (mNil))))) (bTrue) (mTup (mCons (mIf (toB (m2 D.eq (mVar 16) (mTup (mCons (mC (.str "fine")) (mNil))))) (mVar 11) (m2 D.ix (mVar 16) (mC (.int 1)))) (mCons (mVar 18) (mCons (mVar 19) (mNil))))))) (sFreeze 17 (xExt [] 15 (mIf (toB (mN dAll (mCons (mLst (mLc [11, 18, 19] (bTup [11, 18, 19]) (mIter (mVar 17)) (bTrue) (m2 D.isin (mVar 19) (mCall (M__law_all_behind) (mCons (mVar 1) (mCons (mVar 18) (mCons (mVar 11) (mNil)))))))) (mNil)))) (mLst (lenOk (mCons (mVar 16) (mNil)))) (mLst (lenOk (mNil)))))))) (sFreeze 15 (sSeq (xIf [] (toB (mReprNe (mCall (M_may_be) (mCons (mVar 1) (mCons (mVar 3) (mCons (mVar 14) (mNil))))) (mN dTuple2 (mCons (mVar 15) (mNil))))) (sRet (mC (.bl false))) (sNil)) (sSeq (sFor (eName 11) (mIter (mVar 4)) (xIf [] (toB (mReprNe (mCall (M_telling) (mCons (mVar 1) (mCons (mVar 3) (mCons (mVar 11) (mNil))))) (mN dTuple2 (mCons (mLst (mLc [18] (bName 18) (mIter (mVar 4)) (toB (mCall (M__law_parts) (mCons (mVar 1) (mCons (mVar 18) (mCons (mVar 11) (mNil)))))) (mVar 18))) (mNil))))) (sRet (mC (.bl false))) (sNil))) (sSeq (sNew 20 (mLc [11] (bName 11) (mIter (mVar 4)) (bNot (toB (mN dAny (mCons (mLst (mLc [18] (bName 18) (mIter (mVar 4)) (bTrue) (mCall (M__law_parts) (mCons (mVar 1) (mCons (mVar 18) (mCons (mVar 11) (mNil))))))) (mNil))))) (mVar 11))) (sFreeze 20 (sSeq (xSet [] 15 (mIf (toB (m2 D.ne (mVar 20) (mLst (lenOk (mNil))))) (mTup (mCons (mC (.str "never")) (mCons (m2 D.ix (mVar 20) (mC (.int 0))) (mNil)))) (mC .non))) (sSeq (sFor (eName 18) (mIter (mVar 4)) (sFor (eName 21) (mIter (mVar 4)) (xIf [] (bAnd (toB (m1 D.isNone (mVar 15))) (toB (mN dAll (mCons (mLst (mLc [11] (bName 11) (mIter (mVar 4)) (bTrue) (mOr (mCall (M__law_parts) (mCons (mVar 1) (mCons (mVar 18) (mCons (mVar 11) (mNil))))) (mCall (M__law_parts) (mCons (mVar 1) (mCons (mVar 21) (mCons (mVar 11) (mNil)))))))) (mNil))))) (xSet [] 15 (mTup (mCons (mC (.str "row")) (mCons (mTup (mCons (mVar 18) (mCons (mVar 21) (mNil)))) (mNil))))) (sNil)))) (sSeq (xIf [] (toB (mReprNe (mCall (M_least_row) (mCons (mVar 1) (mCons (mVar 3) (mNil)))) (mVar 15))) (sRet (mC (.bl false))) (sNil)) (sSeq (xNew [] 22 (lenOk (mCons (mVar 15) (mCons (m1 D.rev (mVar 15)) (mCons (mLst (mNL dList2 (mCons (mVar 15) (mNil)))) (mCons (mSl (mVar 15) (oNo) (oSome (mC (.int 1)))) (mCons (mTup (mCons (mC (.str "never")) (mCons (m2 D.ix (mVar 3) (mC (.int 0))) (mNil)))) (mCons (mTup (mCons (mC (.str "row")) (mCons (mVar 3) (mNil)))) (mCons (mTup (mCons (mC (.str "row")) (mCons (m1 D.rev (mVar 3)) (mNil)))) (mNil)))))))))) (sSeq (xApp [] 22 (mCall (M__law_odd) (mCons (mVar 0) (mNil)))) (sSeq (xApp [] 22 (mTup (mCons (mC (.str "row")) (mCons (mTup (mCons (mN dInt (mCons (mCall (M__law_of) (mCons (mVar 0) (mCons (mVar 4) (mNil)))) (mNil))) (mCons (mN dInt (mCons (mCall (M__law_of) (mCons (mVar 0) (mCons (mVar 4) (mNil)))) (mNil))) (mNil)))) (mNil))))) (sSeq (xExt [] 22 (mLst (lenOk (mCons (mTup (mCons (mC (.str "never")) (mCons (mC (.bl true)) (mNil)))) (mCons (mTup (mCons (mC (.str "row")) (mCons (mLst (mNL dList2 (mCons (mVar 3) (mNil)))) (mNil)))) (mNil)))))) (sFreeze 22 (sSeq (sFor (eName 23) (mIter (m2 D.add (mVar 22) (mLst (mLc [10] (bName 10) (mRange1 (mCons (mC (.int 6)) (mNil))) (bTrue) (mCall (M__law_bent 30) (mCons (mVar 0) (mCons (mVar 15) (mNil)))))))) (xIf [] (toB (mReprNe (mCall (M_shows_row) (mCons (mVar 1) (mCons (mVar 3) (mCons (mVar 23) (mNil))))) (mCall (M__law_is_row) (mCons (mVar 1) (mCons (mVar 3) (mCons (mVar 4) (mCons (mVar 23) (mNil)))))))) (sRet (mC (.bl false))) (sNil))) (sSeq (xSet [] 24 (mN dTuple2 (mCons (mLst (mLc [10] (bName 10) (mRange1 (mCons (mCall (M__law_take) (mCons (mVar 0) (mCons (mC (.int 4)) (mNil)))) (mNil))) (bTrue) (mN dInt (mCons (mCall (M__law_of) (mCons (mVar 0) (mCons (mVar 4) (mNil)))) (mNil))))) (mNil)))) (sSeq (xSet [] 15 (mN dAll (mCons (mLst (mLc [11] (bName 11) (mIter (mVar 4)) (bTrue) (mN dAny (mCons (mLst (mLc [18] (bName 18) (mIter (mVar 24)) (bTrue) (mCall (M__law_parts) (mCons (mVar 1) (mCons (mVar 18) (mCons (mVar 11) (mNil))))))) (mNil))))) (mNil)))) (sRet (mReprEq (mCall (M_is_told) (mCons (mVar 1) (mCons (mVar 3) (mCons (m2 D.ix (mVar 7) (mC (.int 0))) (mCons (mVar 24) (mNil)))))) (mVar 15)))))))))))))))))))))
def env58 (V : Vt) (L : Lv) (levels told : Sl) (real : D) (o10 o11 o12 o13 : Option Sl) : En := [some (.p .pot), some (.p V.d), some (.p (.int L.l)), some (.p L.d), some (.p (.lst (L.e.map D.int))), some (.p (.int V.lo)), some (.p (.int V.hi)), some levels, some told, some (.p real), o10, o11, o12, o13, none, none, none, none, none, none, none, none, none, none, none]
theorem fs_eq (L : Lv) : D.tup [.str "fine"] :: L.e.map (fun x => D.tup [.str "stuck", .int x]) = L.fs.map fd := by
  unfold Lv.fs
  simp [fd]
theorem fs_len (L : Lv) : L.fs.length ≤ 200 := by unfold Lv.fs; simp; have := L.l0; have := L.m1; omega
theorem fd_ok {L : Lv} {f : Option Int} (h : f ∈ L.fs) : (fd f).sh 5 = true ∧ (fd f).sz ≤ 1000 := by
  cases f with
  | none => exact ⟨by simp [fd], by simp only [fd]; decide⟩
  | some i =>
    have hi : i ∈ L.e := by
      unfold Lv.fs at h
      rcases List.mem_cons.mp h with h | h
      · cases h
      · obtain ⟨j, hj, e⟩ := List.mem_map.mp h
        cases e
        exact hj
    have := (mem_e L).mp hi
    have := L.l0
    have := L.m1
    have sm : Sm i := by unfold Sm; omega
    have e : (Str.ofString "stuck").length = 5 := by decide
    refine ⟨?_, ?_⟩
    · show List.all _ _ = true
      simp only [List.all_cons, List.all_nil, Bool.and_true, sm.sh]
      simp
    · show 3 + (10 * (Str.ofString "stuck").length + 2 + 2 + ((D.int i).sz + 2 + 0)) ≤ 1000
      have := sm.sz
      omega
theorem mem_bh {V : Vt} {x y i : Int} : i ∈ V.bh x y ↔ (V.k * x).fdiv V.u + V.s * y + V.a ≤ i ∧ i ≤ (V.k * x).fdiv V.u + V.s * y + V.b := by
  unfold Vt.bh
  simp only [List.mem_map, mem_ir]
  constructor
  · rintro ⟨w, h, rfl⟩
    omega
  · intro h
    exact ⟨i - ((V.k * x).fdiv V.u + V.s * y), by omega, by omega⟩
theorem eq_fd (f : Option Int) : D.eq (fd f) (.tup [.str "fine"]) = some (.bl f.isNone) := by
  cases f with
  | none => simp [fd, D.eq, D.eqP, D.plain, D.eqv, D.py, D.pys, PyData.eqv, PyData.eqvAll]
  | some i => simp [fd, D.eq, D.eqP, D.plain, D.eqv, D.py, D.pys, PyData.eqv, PyData.eqvAll]
/-- a row of the law's look at a fault -/
def rowOf (f : Option Int) (t : Int × Int × Int) : D := .tup [.int (f.getD t.1), .int t.2.1, .int t.2.2]
theorem rest58 {V : Vt} {L : Lv} {told levels : List Int} {real : D} {o10 o11 o12 o13 : Option Sl} {n m : Nat} {p : P3} (hp : Pot m p) (hm : m ≤ n + 200) (hn : n ≤ 100000)
    (h1 : ∀ i ∈ told, L.l ≤ i ∧ i ≤ L.m) (h2 : ∀ i ∈ levels, V.lo ≤ i ∧ i ≤ V.hi) (h3 : levels.length = told.length + 1) (h4 : told.length ≤ 60) :
    (R58 (env58 V L (.p (.lst (levels.map D.int))) (.p (.lst (told.map D.int))) real o10 o11 o12 o13) p).wp (wpF fun d p' => d = .bl true ∧ Pot (n + 1000) p') := by
  have hel : L.e.length ≤ 200 := by simp; have := L.l0; have := L.m1; omega
  have hadd : ∀ p, ofO (D.add (.lst [.tup [.str "fine"]]) (.lst (L.e.map fun x => D.tup [.str "stuck", .int x]))) p = .ok (.lst (L.fs.map fd)) p := fun p => by
    rw [add_lst (by simp; have := L.l0; have := L.m1; omega)]
    simp [fs_eq]
  have zz : ∀ p, zip3On [.lst (told.map D.int), .lst (levels.map D.int), .lst (levels.map D.int).tail] p = .ok ((z3 told levels levels.tail).map t3) p := fun p => by
    rw [← zip3_ints]
    have e : (levels.map D.int).tail = levels.tail.map D.int := by simp
    rw [e]
    refine zip3On_ok rfl rfl rfl ?_
    rw [zip3_ints, List.length_map]
    exact Nat.le_trans (z3_len _ _ _) (Nat.le_trans h4 (by decide))
  simp [R58, env58, sizeLine, hadd, Function.comp_def]
  generalize hQ : wpS (wpF fun d p' => d = D.bl true ∧ Pot (n + 1000) p') _ = Q
  have hQ2 := hQ
  clear hQ
  let ok : Option Int → Bool := fun f => (z3 told levels levels.tail).all (V.fit f)
  have alleq : ∀ f : Option Int, ((z3 told levels levels.tail).all fun x => decide (x.2.2 ∈ V.bh x.2.1 (f.getD x.1))) = ok f := fun f => by
    show _ = List.all _ _
    congr 1
    funext x
    rw [Bool.eq_iff_iff]
    simp only [Vt.fit, Bool.and_eq_true, decide_eq_true_eq, mem_bh]
  refine forL_pre fd (fun pre env => ∃ o16 o17, env = [some (.p .pot), some (.p V.d), some (.p (.int L.l)), some (.p L.d), some (.p (.lst (L.e.map D.int))), some (.p (.int V.lo)), some (.p (.int V.hi)), some (.p (.lst (levels.map D.int))), some (.p (.lst (told.map D.int))), some (.p real), o10, o11, o12, o13,
    some (.p (.tup [.tup (told.map D.int), .tup (levels.map D.int)])), some (.l ((pre.filter ok).map fd)), o16, o17, none, none, none, none, none, none, none]) L.fs ?_ ?_ L.fs [] _ rfl ⟨_, _, rfl⟩
  rotate_left
  · rintro pre f post env hx ⟨o16, o17, rfl⟩
    refine ⟨_, rfl, ?_⟩
    have hl : ∀ c : List D, c.length ≤ 1 → fExt ((pre.filter ok).map fd) (.lst c) = some ((pre.filter ok).map fd ++ c) := fun c hc => fExt_ok (by
      rw [List.length_map]
      have := List.length_filter_le ok pre
      have : pre.length ≤ L.fs.length := by rw [hx]; simp
      have := fs_len L
      have : sizeLine = 2 ^ 24 := rfl
      omega)
    have h0 := hl [] (by simp)
    have h1 := hl [fd f] (by simp)
    have a := alleq f
    have fin : ∀ b : Bool, b = ok f → (if b = true then (List.map fd (List.filter ok pre) ++ [fd f]) else List.map fd (List.filter ok pre) ++ []) = List.map fd (List.filter ok (pre ++ [f])) := fun b hb => by
      subst hb
      cases hk : ok f <;> simp [hk]
    cases f with
    | none =>
      simp only [Option.getD_none] at a
      simp [zz, t3, eq_fd, Function.comp_def, behind58, isin_ints, sizeLine, a, -List.all_eq_true]
      cases hk : ok none <;> simp [hk, h0, h1]
    | some i =>
      simp only [Option.getD_some] at a
      have e1 : D.ix (fd (some i)) (.int 1) = some (.int i) := by simp [fd]
      simp [zz, t3, eq_fd, e1, Function.comp_def, behind58, isin_ints, sizeLine, a, -List.all_eq_true]
      cases hk : ok (some i) <;> simp [hk, h0, h1]
  rintro e ⟨o16, o17, rfl⟩
  rw [← hQ2]
  have hmay : (L.fs.filter ok) = V.may L told levels := rfl
  have hml : (V.may L told levels).length ≤ 200 := Nat.le_trans (List.length_filter_le _ _) (fs_len L)
  have rp1 : (D.tup ((V.may L told levels).map fd)).rp = true := rp_tup_map (n := 5) (m := 1000) (fun f hf => (fd_ok ((List.mem_filter.mp hf).1)).1) (by decide) (fun f hf => (fd_ok ((List.mem_filter.mp hf).1)).2) (by omega)
  simp [hmay, may58 V L h1 h2 h3 h4, rp1]
  refine forL_each D.int (fun env => ∃ o11, env = env58b V L levels told real (.lst (List.map fd (V.may L told levels))) o10 o11 o12 o13 (some (.p (.tup [.tup (told.map D.int), .tup (levels.map D.int)]))) o16 o17) ?_ _ _ ?_ ⟨o11, rfl⟩
  · rintro e ⟨o11, rfl⟩
    simp only [wpS_nx]
    exact rest58b hp hm hn h2 (by intro h; rw [h] at h3; cases h3)
  · rintro x hx env ⟨o11, rfl⟩
    refine ⟨_, rfl, ?_⟩
    obtain ⟨x1, x2⟩ := (mem_e L).mp hx
    have rp2 : (D.tup ((L.e.filter fun y => V.pt y x).map D.int)).rp = true := rp_ints (fun i hi => by have := (mem_e L).mp ((List.mem_filter.mp hi).1); have := L.l0; have := L.m1; unfold Sm; omega) (Nat.le_trans (List.length_filter_le _ _) (by omega))
    simp [env58b, telling58 V L x1 x2, lparts58', rp2]
/-- what the first loop keeps -/
def Lp58 (V : Vt) (L : Lv) (real : D) (i : Nat) (env : En) : Prop := ∃ (told levels : List Int) (o10 o11 o12 o13 : Option Sl), env = env58 V L (.l (levels.map D.int)) (.l (told.map D.int)) real o10 o11 o12 o13 ∧ (∀ i ∈ told, L.l ≤ i ∧ i ≤ L.m) ∧ (∀ i ∈ levels, V.lo ≤ i ∧ i ≤ V.hi) ∧ levels.length = told.length + 1 ∧ told.length ≤ i
theorem lp_more {V : Vt} {L : Lv} {real : D} {i : Nat} {told levels : List Int} {at_ new : Int} {o10 o11 o12 o13 : Option Sl} (h1 : ∀ i ∈ told, L.l ≤ i ∧ i ≤ L.m) (h2 : ∀ i ∈ levels, V.lo ≤ i ∧ i ≤ V.hi) (h3 : levels.length = told.length + 1) (h4 : told.length ≤ i) (a1 : L.l ≤ at_) (a2 : at_ ≤ L.m) (g1 : V.lo ≤ new) (g2 : new ≤ V.hi) :
    Lp58 V L real (i + 1) (env58 V L (.l (levels.map D.int ++ [.int new])) (.l (told.map D.int ++ [.int at_])) real o10 o11 o12 o13) := by
  refine ⟨told ++ [at_], levels ++ [new], o10, o11, o12, o13, by rw [snoc_ints, snoc_ints], ?_, ?_, by simp [h3], by simp; omega⟩
  · intro j hj
    rcases List.mem_append.mp hj with hj | hj
    · exact h1 j hj
    · rw [List.mem_singleton.mp hj]; exact ⟨a1, a2⟩
  · intro j hj
    rcases List.mem_append.mp hj with hj | hj
    · exact h2 j hj
    · rw [List.mem_singleton.mp hj]; exact ⟨g1, g2⟩
theorem right58 {n : Nat} {p : P3} (hp : Pot n p) (hn : n ≤ 100000) : (M__law_is_stuck_right [.pot] p).wp fun d p' => d = .bl true ∧ Pot (n + 1000) p' := by
  simp [M__law_is_stuck_right, B__law_is_stuck_right, env0, sizeLine]
  refine lvat58 hp (by omega) fun V p1 hp1 => ?_
  simp [sizeLine]
  refine tk58 (n + 6) 5 p1 _ hp1 (by omega) (by decide) (by decide) fun x p2 x0 x1 hp2 => ?_
  simp [sizeLine]
  refine tk58 (n + 7) 7 p2 _ hp2 (by omega) (by decide) (by decide) fun y p3 y0 y1 hp3 => ?_
  simp [sizeLine]
  obtain ⟨L, hl, hm⟩ : ∃ L : Lv, -x = L.l ∧ -x + y = L.m := ⟨⟨-x, -x + y, by omega, by omega, by omega⟩, rfl, rfl⟩
  rw [hm, hl]
  have hLd : D.tup [.int L.l, .int L.m] = L.d := rfl
  have he : L.e ≠ [] := by
    intro h
    have : L.l ∈ L.e := (mem_e L).mpr ⟨Int.le_refl _, L.lm⟩
    rw [h] at this
    cases this
  have hle : L.e.length < 2 ^ 60 := by simp; have := L.l0; have := L.m1; omega
  simp only [hLd]
  refine ⟨rg_lm L, ?_⟩
  have hlo := V.lo0
  have hlh := V.lh
  have hhi := V.hi1
  refine tk58 (n + 8) _ p3 _ hp3 (by omega) (by omega) (by omega) fun z p4 z0 z1 hp4 => ?_
  simp [sizeLine]
  refine of_ints58 hp4 (by omega) he hle fun r0 hr0 p5 hp5 => ?_
  simp
  refine of58 (n + 10) _ _ p5 _ (.inl rfl) hp5 (by omega) (by simp) (by simp) fun real hreal p6 hp6 => ?_
  skip
  refine tk58 (n + 11) 5 p6 _ hp6 (by omega) (by decide) (by decide) fun laps p7 l0 l1 hp7 => ?_
  have hlaps : rgOk 0 laps = true := rgOk_i (by decide) (by omega) (by omega) l0
  simp [hlaps]
  have hreal' : real = .non ∨ ∃ r, real = .int r := by
    simp only [List.mem_cons, List.not_mem_nil, or_false] at hreal
    rcases hreal with rfl | rfl | rfl
    · exact .inl rfl
    · exact .inl rfl
    · exact .inr ⟨r0, rfl⟩
  generalize hQ : wpS (wpF fun d p' => d = D.bl true ∧ Pot (n + 1000) p') _ = Q
  have hQ2 := hQ
  clear hQ
  have hwne : ir V.a (V.b + 1) ≠ [] := by
    intro h
    have : V.a ∈ ir V.a (V.b + 1) := mem_ir.mpr ⟨Int.le_refl _, by have := V.ab; omega⟩
    rw [h] at this
    cases this
  have hwl : (ir V.a (V.b + 1)).length < 2 ^ 60 := by simp; have := V.a0; have := V.b1; omega
  refine forL_draw 5 (n + 100) 20 (Lp58 V L real) _ 0 (n + 12) _ _ (by simp; omega) ?_ ⟨[], [V.lo + z], none, none, none, none, rfl, by simp, by simp; omega, rfl, Nat.le_refl _⟩ hp7 ?_ ?_
  · rintro d hd i n' env p hi ⟨told, levels, o10, o11, o12, o13, rfl, h1, h2, h3, h4⟩ hp hn'
    refine ⟨_, rfl, ?_⟩
    simp [env58]
    refine of_ints58 hp (by omega) he hle fun at_ hat p8 hp8 => ?_
    simp [rg_wab]
    refine of_ints58 hp8 (by omega) hwne hwl fun w hw p9 hp9 => ?_
    obtain ⟨lv, hlv, elv⟩ := ix_last (l := levels) (by intro h; rw [h] at h3; cases h3)
    obtain ⟨ha1, ha2⟩ := (mem_e L).mp hat
    have ft : (told.map D.int).length < sizeLine := by rw [List.length_map]; have : sizeLine = 2 ^ 24 := rfl; omega
    have fl : (levels.map D.int).length < sizeLine := by rw [List.length_map]; have : sizeLine = 2 ^ 24 := rfl; omega
    rcases hreal' with rfl | ⟨r, rfl⟩
    all_goals
      simp [elv, D.isN, llv58, D.noL]
      split
      · rename_i g
        obtain ⟨g1, g2⟩ := g
        simp [fApp_ok ft]
        refine tk58 (n' + 2) 9 p9 _ (hp9.mono (by omega)) (by omega) (by decide) (by decide) fun u p10 u0 u1 hp10 => ?_
        simp
        split
        · rename_i g3
          obtain ⟨g3, g4, g5⟩ := g3
          simp [sizeLine]
          refine of58 (n' + 3) _ _ p10 _ (.inl rfl) (hp10.mono (by omega)) (by omega) (by simp) (by simp) fun d hd p11 hp11 => ?_
          simp only [List.mem_cons, List.not_mem_nil, or_false] at hd
          rcases hd with rfl | rfl | rfl
          all_goals
            simp [fApp_ok fl]
            exact ⟨lp_more (o10 := some _) (o11 := some _) (o12 := some _) (o13 := some _) h1 h2 h3 h4 ha1 ha2 (by omega) (by omega), hp11.mono (by omega)⟩
        · simp [fApp_ok fl]
          exact ⟨lp_more (o10 := some _) (o11 := some _) (o12 := some _) (o13 := some _) h1 h2 h3 h4 ha1 ha2 (by omega) (by omega), hp10.mono (by omega)⟩
      · exact ⟨⟨told, levels, _, _, _, _, rfl, h1, h2, h3, by omega⟩, hp9.mono (by omega)⟩
  · simp; omega
  · rintro e p8 ⟨told, levels, o10, o11, o12, o13, rfl, h1, h2, h3, h4⟩ hp8
    have hla : (List.map D.int (ir 0 laps)).length ≤ 5 := by simp; omega
    rw [← hQ2]
    simp only [wpS_nx]
    have := rest58 (real := real) (o10 := o10) (o11 := o11) (o12 := o12) (o13 := o13) (n := n) (V := V) (L := L) hp8 (by omega) hn h1 h2 h3 (by omega)
    exact this
end VL

namespace VL
open PySem PySem.Spec PyProof.Rows L2 LamX
theorem law_math : ∀ ns : List Int, ns.length ≤ 63 → (∀ z ∈ ns, Builtin.Int.intBits z ≤ 1048576) → ∃ p, M_law [.scr ns] none = .ok (.bl true) p := fun ns h _ =>
  law_ok (ref := mCall M__law_are_refused mNil) (pl := M__law_places) (pt := M__law_pot) (right := M__law_is_stuck_right) (most := 3) (laps := 5) 1000 (fun vw => refused58) (fun ns p h => pl_ok h (by decide) (by decide)) pot58 (by decide) (by decide) (by decide) (fun n p hp hn => right58 hp (by omega)) ns h
end VL

namespace VL
open PySem PySem.Spec PyProof.Rows L2 LamX
/-- the statement at place i of the program -/
def top (i : Nat) : Stmt := PySem.Challenge.pw_steeredback_k58_whole_stuck_levers.main.body.getD i (.Pass ⟨0, 0, 0, 0⟩)
abbrev s_is_tuple : Stmt := top 1
abbrev s_is_whole : Stmt := top 2
abbrev s_is_integer : Stmt := top 3
abbrev s_is_between : Stmt := top 20
abbrev s_is_vat : Stmt := top 21
abbrev s_check_vat : Stmt := top 22
abbrev s_check_level : Stmt := top 23
abbrev s_level_by : Stmt := top 24
abbrev s_check_bounds : Stmt := top 33
abbrev s_all_faults : Stmt := top 34
abbrev s_is_seen : Stmt := top 35
abbrev s_fits : Stmt := top 36
abbrev s_may_be : Stmt := top 37
abbrev s_width_of : Stmt := top 38
abbrev s_parts : Stmt := top 39
abbrev s_telling : Stmt := top 40
abbrev s_least_row : Stmt := top 41
abbrev s_shows_row : Stmt := top 42
abbrev s_is_told : Stmt := top 43
abbrev s__law_pot : Stmt := top 45
abbrev s__law_take : Stmt := top 46
abbrev s__law_of : Stmt := top 47
abbrev s__law_places : Stmt := top 48
abbrev s__law_heard : Stmt := top 49
abbrev s__law_odd : Stmt := top 50
abbrev s__law_is_int : Stmt := top 51
abbrev s__law_bent : Stmt := top 52
abbrev s__law_vat : Stmt := top 53
abbrev s__law_level : Stmt := top 54
abbrev s__law_all_behind : Stmt := top 55
abbrev s__law_parts : Stmt := top 56
abbrev s__law_is_row : Stmt := top 58
abbrev s__law_is_stuck_right : Stmt := top 57
abbrev s__law_is_refused : Stmt := top 59
abbrev s__law_are_refused : Stmt := top 60
abbrev s_law : Stmt := top 61
structure Facts (P : Program) (w : World) (base : Heap) (g : Gx) : Prop where
  bt : Bt g.mg
  c_PAIR_vats : IntG g "PAIR_vats" 2
  c_FIVE : IntG g "FIVE" 5
  c_MOST_KEEPS : IntG g "MOST_KEEPS" 20
  c_MOST_UNDER : IntG g "MOST_UNDER" 20
  c_MOST_STRENGTH : IntG g "MOST_STRENGTH" 20
  c_MOST_LEVEL : IntG g "MOST_LEVEL" 200
  c_TRIPLE_vats : IntG g "TRIPLE_vats" 3
  c_MOST_WEATHER : IntG g "MOST_WEATHER" 50
  c_MOST_LEVER : IntG g "MOST_LEVER" 50
  c_STUCK : StrG g "STUCK" "stuck"
  c_FINE : StrG g "FINE" "fine"
  c_PAIR_stuck : IntG g "PAIR_stuck" 2
  c_MOST_SEEN : IntG g "MOST_SEEN" 60
  c_TRIPLE_stuck : IntG g "TRIPLE_stuck" 3
  c_NEVER : StrG g "NEVER" "never"
  c_ROW : StrG g "ROW" "row"
  e_BadVat : ErrC P w base g "BadVat"
  e_BadLevel : ErrC P w base g "BadLevel"
  e_BadLever : ErrC P w base g "BadLever"
  e_BadReadings : ErrC P w base g "BadReadings"
  isc_BadLever : IsC g exs "BadLever" sub_BadLever
  isc_BadVat : IsC g exs "BadVat" sub_BadVat
  isc_BadLevel : IsC g exs "BadLevel" sub_BadLevel
  isc_BadReadings : IsC g exs "BadReadings" sub_BadReadings
  cat_LeverError : CatC g exs "LeverError"
  val : ValC g exs
  d_is_tuple : DefAt g "is_tuple" s_is_tuple
  d_is_whole : DefAt g "is_whole" s_is_whole
  d_is_integer : DefAt g "is_integer" s_is_integer
  d_is_between : DefAt g "is_between" s_is_between
  d_is_vat : DefAt g "is_vat" s_is_vat
  d_check_vat : DefAt g "check_vat" s_check_vat
  d_check_level : DefAt g "check_level" s_check_level
  d_level_by : DefAt g "level_by" s_level_by
  d_check_bounds : DefAt g "check_bounds" s_check_bounds
  d_all_faults : DefAt g "all_faults" s_all_faults
  d_is_seen : DefAt g "is_seen" s_is_seen
  d_fits : DefAt g "fits" s_fits
  d_may_be : DefAt g "may_be" s_may_be
  d_width_of : DefAt g "width_of" s_width_of
  d_parts : DefAt g "parts" s_parts
  d_telling : DefAt g "telling" s_telling
  d_least_row : DefAt g "least_row" s_least_row
  d_shows_row : DefAt g "shows_row" s_shows_row
  d_is_told : DefAt g "is_told" s_is_told
  d__law_pot : DefAt g "_law_pot" s__law_pot
  d__law_take : DefAt g "_law_take" s__law_take
  d__law_of : DefAt g "_law_of" s__law_of
  d__law_places : DefAt g "_law_places" s__law_places
  d__law_heard : DefAt g "_law_heard" s__law_heard
  d__law_odd : DefAt g "_law_odd" s__law_odd
  d__law_is_int : DefAt g "_law_is_int" s__law_is_int
  d__law_bent : DefAt g "_law_bent" s__law_bent
  d__law_vat : DefAt g "_law_vat" s__law_vat
  d__law_level : DefAt g "_law_level" s__law_level
  d__law_all_behind : DefAt g "_law_all_behind" s__law_all_behind
  d__law_parts : DefAt g "_law_parts" s__law_parts
  d__law_is_row : DefAt g "_law_is_row" s__law_is_row
  d__law_is_stuck_right : DefAt g "_law_is_stuck_right" s__law_is_stuck_right
  d__law_is_refused : DefAt g "_law_is_refused" s__law_is_refused
  k__law_are_refused : MakerAt base g "_law_are_refused" s__law_are_refused
  d_law : DefAt g "law" s_law
def lam_0 : Lam := lamAt "_law_are_refused" s__law_are_refused 0 ["first"]
def lam_1 : Lam := lamAt "_law_are_refused" s__law_are_refused 1 ["first"]
def lam_2 : Lam := lamAt "_law_are_refused" s__law_are_refused 2 ["first"]
def lam_3 : Lam := lamAt "_law_are_refused" s__law_are_refused 3 ["first"]
def lam_4 : Lam := lamAt "_law_are_refused" s__law_are_refused 4 ["first"]
def lam_5 : Lam := lamAt "_law_are_refused" s__law_are_refused 5 ["vat", "value"]
def lam_6 : Lam := lamAt "_law_are_refused" s__law_are_refused 6 ["vat", "value"]
def lam_7 : Lam := lamAt "_law_are_refused" s__law_are_refused 7 ["vat", "value"]
def lam_8 : Lam := lamAt "_law_are_refused" s__law_are_refused 8 ["vat"]
def lams : Lams
  | 0 => some lam_0
  | 1 => some lam_1
  | 2 => some lam_2
  | 3 => some lam_3
  | 4 => some lam_4
  | 5 => some lam_5
  | 6 => some lam_6
  | 7 => some lam_7
  | 8 => some lam_8
  | _ => none
section
variable {P : Program} {w : World} {base : Heap} {g : Gx}
theorem sc_is_tuple : FnScope ["value", "least", "most"] ["value", "least", "most"] (L2.defScope s_is_tuple) := ⟨rfl, rfl, rfl, by decide +kernel, rfl, by decide +kernel, by decide +kernel⟩
theorem c_is_tuple (f : Facts P w base g)  : Cal P w base g 3 "is_tuple" ["value", "least", "most"] M_is_tuple :=
  cal_of (k := 2) (N := ["value", "least", "most"]) (m := B_is_tuple) f.d_is_tuple sc_is_tuple (fun _ _ _ _ _ _ us hl => match us, hl with | [_, _, _], _ => rfl) f.bt fun f0 cdv A outer s H E F =>
    (vss_one (vs_ret F.x.F (have F := F.x; (ve_and (x_isi F F.bt.tuple (by decide +kernel) (ve_var 0)) (ve_b1 (x_chain o_le o_le (ve_var 1) (x_len F (va_cons (ve_var 0) va_nil)) (ve_var 2)))))))
theorem sc_is_whole : FnScope ["value"] ["value"] (L2.defScope s_is_whole) := ⟨rfl, rfl, rfl, by decide +kernel, rfl, by decide +kernel, by decide +kernel⟩
theorem c_is_whole (f : Facts P w base g)  : Cal P w base g 3 "is_whole" ["value"] M_is_whole :=
  cal_of (k := 2) (N := ["value"]) (m := B_is_whole) f.d_is_whole sc_is_whole (fun _ _ _ _ _ _ us hl => match us, hl with | [_], _ => rfl) f.bt fun f0 cdv A outer s H E F =>
    (vss_one (vs_ret F.x.F (have F := F.x; (ve_and (x_isi F F.bt.int (by decide +kernel) (ve_var 0)) (ve_b1 (ve_not (x_isi F F.bt.bool (by decide +kernel) (ve_var 0))))))))
theorem sc_is_integer : FnScope ["value", "low", "high"] ["value", "low", "high"] (L2.defScope s_is_integer) := ⟨rfl, rfl, rfl, by decide +kernel, rfl, by decide +kernel, by decide +kernel⟩
theorem c_is_integer (f : Facts P w base g) (cal_is_whole : Cal P w base g 3 "is_whole" ["value"] M_is_whole) : Cal P w base g 4 "is_integer" ["value", "low", "high"] M_is_integer :=
  cal_of (k := 3) (N := ["value", "low", "high"]) (m := B_is_integer) f.d_is_integer sc_is_integer (fun _ _ _ _ _ _ us hl => match us, hl with | [_, _, _], _ => rfl) f.bt fun f0 cdv A outer s H E F =>
    (vss_one (vs_ret F.x.F (have F := F.x; (ve_and (ve_call (cal_is_whole) F.F (by omega) (va_cons (ve_var 0) va_nil)) (ve_b1 (x_chain o_le o_le (ve_var 1) (ve_var 0) (ve_var 2)))))))
theorem sc_is_between : FnScope ["value", "most"] ["value", "most"] (L2.defScope s_is_between) := ⟨rfl, rfl, rfl, by decide +kernel, rfl, by decide +kernel, by decide +kernel⟩
theorem c_is_between (f : Facts P w base g) (cal_is_tuple : Cal P w base g 3 "is_tuple" ["value", "least", "most"] M_is_tuple) (cal_is_integer : Cal P w base g 4 "is_integer" ["value", "low", "high"] M_is_integer) : Cal P w base g 5 "is_between" ["value", "most"] M_is_between :=
  cal_of (k := 4) (N := ["value", "most"]) (m := B_is_between) f.d_is_between sc_is_between (fun _ _ _ _ _ _ us hl => match us, hl with | [_, _], _ => rfl) f.bt fun f0 cdv A outer s H E F =>
    (vss_cons (vx_if (have F := F.x; (PW.pt (vw_or (vt_not (vt_val (ve_call (cal_is_tuple) F.F (by omega) (va_cons (ve_var 0) (va_cons (x_gint F f.c_PAIR_vats) (va_cons (x_gint F f.c_PAIR_vats) va_nil)))))) (vw_or1 (vt_not (vt_val (ve_call (cal_is_integer) F.F (by omega) (va_cons (x_ix F (ve_var 0) ve_int) (va_cons (ve_neg (ve_var 1)) (va_cons (ve_var 1) va_nil)))))))))) (vss_one (vs_ret F.x.F ve_bl)) vss_nil) (vss_one (vs_ret F.x.F (have F := F.x; (ve_call (cal_is_integer) F.F (by omega) (va_cons (x_ix F (ve_var 0) ve_int) (va_cons (x_ix F (ve_var 0) ve_int) (va_cons (ve_var 1) va_nil))))))))
theorem sc_is_vat : FnScope ["value"] ["value"] (L2.defScope s_is_vat) := ⟨rfl, rfl, rfl, by decide +kernel, rfl, by decide +kernel, by decide +kernel⟩
theorem c_is_vat (f : Facts P w base g) (cal_is_tuple : Cal P w base g 3 "is_tuple" ["value", "least", "most"] M_is_tuple) (cal_is_integer : Cal P w base g 4 "is_integer" ["value", "low", "high"] M_is_integer) (cal_is_between : Cal P w base g 5 "is_between" ["value", "most"] M_is_between) : Cal P w base g 6 "is_vat" ["value"] M_is_vat :=
  cal_of (k := 5) (N := ["value"]) (m := B_is_vat) f.d_is_vat sc_is_vat (fun _ _ _ _ _ _ us hl => match us, hl with | [_], _ => rfl) f.bt fun f0 cdv A outer s H E F =>
    (vss_cons (vx_if (have F := F.x; (PW.pt (vw_or (vt_not (vt_val (ve_call (cal_is_tuple) F.F (by omega) (va_cons (ve_var 0) (va_cons (x_gint F f.c_FIVE) (va_cons (x_gint F f.c_FIVE) va_nil)))))) (vw_or1 (vt_not (vt_val (ve_call (cal_is_integer) F.F (by omega) (va_cons (x_ix F (ve_var 0) ve_int) (va_cons ve_int (va_cons (x_gint F f.c_MOST_KEEPS) va_nil)))))))))) (vss_one (vs_ret F.x.F ve_bl)) vss_nil) (vss_cons (vx_if (have F := F.x; (PW.pt (vw_or (vt_not (vt_val (ve_call (cal_is_integer) F.F (by omega) (va_cons (x_ix F (ve_var 0) ve_int) (va_cons ve_int (va_cons (x_gint F f.c_MOST_UNDER) va_nil)))))) (vw_or1 (vt_not (vt_val (ve_call (cal_is_integer) F.F (by omega) (va_cons (x_ix F (ve_var 0) (x_gint F f.c_PAIR_vats)) (va_cons (ve_neg (x_gint F f.c_MOST_STRENGTH)) (va_cons (x_gint F f.c_MOST_STRENGTH) va_nil)))))))))) (vss_one (vs_ret F.x.F ve_bl)) vss_nil) (vss_one (vs_ret F.x.F (have F := F.x; (ve_and (ve_call (cal_is_between) F.F (by omega) (va_cons (x_ix F (ve_var 0) (x_gint F f.c_TRIPLE_vats)) (va_cons (x_gint F f.c_MOST_LEVEL) va_nil))) (ve_b1 (ve_call (cal_is_between) F.F (by omega) (va_cons (x_ix F (ve_var 0) (x_add F (x_gint F f.c_TRIPLE_vats) ve_int)) (va_cons (x_gint F f.c_MOST_WEATHER) va_nil))))))))))
theorem sc_check_vat : FnScope ["value"] ["value"] (L2.defScope s_check_vat) := ⟨rfl, rfl, rfl, by decide +kernel, rfl, by decide +kernel, by decide +kernel⟩
theorem c_check_vat (f : Facts P w base g) (cal_is_vat : Cal P w base g 6 "is_vat" ["value"] M_is_vat) : Cal P w base g 7 "check_vat" ["value"] M_check_vat :=
  cal_of (k := 6) (N := ["value"]) (m := B_check_vat) f.d_check_vat sc_check_vat (fun _ _ _ _ _ _ us hl => match us, hl with | [_], _ => rfl) f.bt fun f0 cdv A outer s H E F =>
    (vss_one (vx_if (have F := F.x; (vt_not (vt_val (ve_call (cal_is_vat) F.F (by omega) (va_cons (ve_var 0) va_nil))))) (vss_one (vx_raise F.x.F (by omega) f.e_BadVat (ve_var 0))) vss_nil))
theorem sc_check_level : FnScope ["vat", "value"] ["vat", "value"] (L2.defScope s_check_level) := ⟨rfl, rfl, rfl, by decide +kernel, rfl, by decide +kernel, by decide +kernel⟩
theorem c_check_level (f : Facts P w base g) (cal_is_integer : Cal P w base g 4 "is_integer" ["value", "low", "high"] M_is_integer) (cal_check_vat : Cal P w base g 7 "check_vat" ["value"] M_check_vat) : Cal P w base g 8 "check_level" ["vat", "value"] M_check_level :=
  cal_of (k := 7) (N := ["vat", "value"]) (m := B_check_level) f.d_check_level sc_check_level (fun _ _ _ _ _ _ us hl => match us, hl with | [_, _], _ => rfl) f.bt fun f0 cdv A outer s H E F =>
    (vss_cons (vx_expr (have F := F.x; (ve_call (cal_check_vat) F.F (by omega) (va_cons (ve_var 0) va_nil)))) (vss_one (vx_if (have F := F.x; (vt_not (vt_val (ve_call (cal_is_integer) F.F (by omega) (va_cons (ve_var 1) (va_cons (x_ix F (x_ix F (ve_var 0) (x_gint F f.c_TRIPLE_vats)) ve_int) (va_cons (x_ix F (x_ix F (ve_var 0) (x_gint F f.c_TRIPLE_vats)) ve_int) va_nil))))))) (vss_one (vx_raise F.x.F (by omega) f.e_BadLevel (ve_var 1))) vss_nil)))
theorem sc_level_by : FnScope ["vat", "level", "lever", "weather"] ["vat", "level", "lever", "weather"] (L2.defScope s_level_by) := ⟨rfl, rfl, rfl, by decide +kernel, rfl, by decide +kernel, by decide +kernel⟩
theorem c_level_by (f : Facts P w base g)  : Cal P w base g 3 "level_by" ["vat", "level", "lever", "weather"] M_level_by :=
  cal_of (k := 2) (N := ["vat", "level", "lever", "weather"]) (m := B_level_by) f.d_level_by sc_level_by (fun _ _ _ _ _ _ us hl => match us, hl with | [_, _, _, _], _ => rfl) f.bt fun f0 cdv A outer s H E F =>
    (vss_one (vs_ret F.x.F (have F := F.x; (x_add F (x_add F (ve_fdiv (x_mul F (x_ix F (ve_var 0) ve_int) (ve_var 1)) (x_ix F (ve_var 0) ve_int)) (x_mul F (x_ix F (ve_var 0) (x_gint F f.c_PAIR_vats)) (ve_var 2))) (ve_var 3)))))
theorem sc_check_bounds : FnScope ["vat", "bounds"] ["vat", "bounds"] (L2.defScope s_check_bounds) := ⟨rfl, rfl, rfl, by decide +kernel, rfl, by decide +kernel, by decide +kernel⟩
theorem c_check_bounds (f : Facts P w base g) (cal_is_between : Cal P w base g 5 "is_between" ["value", "most"] M_is_between) (cal_check_vat : Cal P w base g 7 "check_vat" ["value"] M_check_vat) : Cal P w base g 8 "check_bounds" ["vat", "bounds"] M_check_bounds :=
  cal_of (k := 7) (N := ["vat", "bounds"]) (m := B_check_bounds) f.d_check_bounds sc_check_bounds (fun _ _ _ _ _ _ us hl => match us, hl with | [_, _], _ => rfl) f.bt fun f0 cdv A outer s H E F =>
    (vss_cons (vx_expr (have F := F.x; (ve_call (cal_check_vat) F.F (by omega) (va_cons (ve_var 0) va_nil)))) (vss_one (vx_if (have F := F.x; (vt_not (vt_val (ve_call (cal_is_between) F.F (by omega) (va_cons (ve_var 1) (va_cons (x_gint F f.c_MOST_LEVER) va_nil)))))) (vss_one (vx_raise F.x.F (by omega) f.e_BadLever (ve_var 1))) vss_nil)))
theorem sc_all_faults : FnScope ["bounds", "at"] ["bounds"] (L2.defScope s_all_faults) := ⟨rfl, rfl, rfl, by decide +kernel, rfl, by decide +kernel, by decide +kernel⟩
theorem c_all_faults (f : Facts P w base g)  : Cal P w base g 3 "all_faults" ["bounds"] M_all_faults :=
  cal_of (k := 2) (N := ["bounds", "at"]) (m := B_all_faults) f.d_all_faults sc_all_faults (fun _ _ _ _ _ _ us hl => match us, hl with | [_], _ => rfl) f.bt fun f0 cdv A outer s H E F =>
    (vss_one (vs_ret F.x.F (have F := F.x; (ve_new (vn_lst (va_cons (ve_tup (va_cons (x_gstr F f.c_FINE) va_nil)) (va_seq F (ve_new (n_lc [("at", 1)] F (vi_range2 F.bt.range (va_cons (x_ix F (ve_var 0) ve_int) (va_cons (x_add F (x_ix F (ve_var 0) ve_int) ve_int) va_nil))) (tg_name F) (fun _ _ _ _ _ F => pts_none) (fun _ _ _ _ _ F => (ve_tup (va_cons (x_gstr F f.c_STUCK) (va_cons (ve_var 1) va_nil)))))) va_nil)))))))
theorem sc_is_seen : FnScope ["vat", "bounds", "value", "one", "at", "level"] ["vat", "bounds", "value"] (L2.defScope s_is_seen) := ⟨rfl, rfl, rfl, by decide +kernel, rfl, by decide +kernel, by decide +kernel⟩
theorem c_is_seen (f : Facts P w base g) (cal_is_tuple : Cal P w base g 3 "is_tuple" ["value", "least", "most"] M_is_tuple) (cal_is_integer : Cal P w base g 4 "is_integer" ["value", "low", "high"] M_is_integer) : Cal P w base g 5 "is_seen" ["vat", "bounds", "value"] M_is_seen :=
  cal_of (k := 4) (N := ["vat", "bounds", "value", "one", "at", "level"]) (m := B_is_seen) f.d_is_seen sc_is_seen (fun _ _ _ _ _ _ us hl => match us, hl with | [_, _, _], _ => rfl) f.bt fun f0 cdv A outer s H E F =>
    (vss_cons (vx_if (have F := F.x; (PW.pt (vw_or (vt_not (vt_val (ve_call (cal_is_tuple) F.F (by omega) (va_cons (ve_var 2) (va_cons (x_gint F f.c_PAIR_stuck) (va_cons (x_gint F f.c_PAIR_stuck) va_nil)))))) (vw_or1 (vt_not (vt_val (x_all F (va_cons (ve_new (n_lc [("one", 3)] F (i_seq F (ve_var 2)) (tg_name F) (fun _ _ _ _ _ F => pts_none) (fun _ _ _ _ _ F => (ve_call (cal_is_tuple) F.F (by omega) (va_cons (ve_var 3) (va_cons ve_int (va_cons (x_add F (x_gint F f.c_MOST_SEEN) ve_int) va_nil))))))) va_nil)))))))) (vss_one (vs_ret F.x.F ve_bl)) vss_nil) (vss_cons (vx_if (have F := F.x; (PW.pt (vw_or (t_cmp (o_ne F) (x_len F (va_cons (x_ix F (ve_var 2) ve_int) va_nil)) (x_add F (x_len F (va_cons (x_ix F (ve_var 2) ve_int) va_nil)) ve_int)) (vw_or1 (vt_not (vt_val (x_all F (va_cons (ve_new (n_lc [("at", 4)] F (i_seq F (x_ix F (ve_var 2) ve_int)) (tg_name F) (fun _ _ _ _ _ F => pts_none) (fun _ _ _ _ _ F => (ve_call (cal_is_integer) F.F (by omega) (va_cons (ve_var 4) (va_cons (x_ix F (ve_var 1) ve_int) (va_cons (x_ix F (ve_var 1) ve_int) va_nil))))))) va_nil)))))))) (vss_one (vs_ret F.x.F ve_bl)) vss_nil) (vss_one (vs_ret F.x.F (have F := F.x; (x_all F (va_cons (ve_new (n_lc [("level", 5)] F (i_seq F (x_ix F (ve_var 2) ve_int)) (tg_name F) (fun _ _ _ _ _ F => pts_none) (fun _ _ _ _ _ F => (ve_call (cal_is_integer) F.F (by omega) (va_cons (ve_var 5) (va_cons (x_ix F (x_ix F (ve_var 0) (x_gint F f.c_TRIPLE_stuck)) ve_int) (va_cons (x_ix F (x_ix F (ve_var 0) (x_gint F f.c_TRIPLE_stuck)) ve_int) va_nil))))))) va_nil)))))))
theorem sc_fits : FnScope ["vat", "fault", "at", "one", "other", "real", "low", "high"] ["vat", "fault", "at", "one", "other"] (L2.defScope s_fits) := ⟨rfl, rfl, rfl, by decide +kernel, rfl, by decide +kernel, by decide +kernel⟩
theorem c_fits (f : Facts P w base g) (cal_level_by : Cal P w base g 3 "level_by" ["vat", "level", "lever", "weather"] M_level_by) : Cal P w base g 4 "fits" ["vat", "fault", "at", "one", "other"] M_fits :=
  cal_of (k := 3) (N := ["vat", "fault", "at", "one", "other", "real", "low", "high"]) (m := B_fits) f.d_fits sc_fits (fun _ _ _ _ _ _ us hl => match us, hl with | [_, _, _, _, _], _ => rfl) f.bt fun f0 cdv A outer s H E F =>
    (vss_cons (vx_set F.x.nd (have F := F.x; (ve_if (t_cmp (o_eq F) (x_ix F (ve_var 1) ve_int) (x_gstr F f.c_FINE)) (ve_var 2) (x_ix F (ve_var 1) ve_int)))) (vss_cons (vx_tup F.x.F.calm F.x.K (tn_cons F.x.nd (tn_cons F.x.nd tn_nil)) (have F := F.x; (x_ix F (ve_var 0) (x_add F (x_gint F f.c_TRIPLE_stuck) ve_int)))) (vss_one (vs_ret F.x.F (have F := F.x; (x_chain o_le o_le (ve_call (cal_level_by) F.F (by omega) (va_cons (ve_var 0) (va_cons (ve_var 3) (va_cons (ve_var 5) (va_cons (ve_var 6) va_nil))))) (ve_var 4) (ve_call (cal_level_by) F.F (by omega) (va_cons (ve_var 0) (va_cons (ve_var 3) (va_cons (ve_var 5) (va_cons (ve_var 7) va_nil)))))))))))
theorem sc_may_be : FnScope ["vat", "bounds", "seen", "found", "fault", "at", "one", "other"] ["vat", "bounds", "seen"] (L2.defScope s_may_be) := ⟨rfl, rfl, rfl, by decide +kernel, rfl, by decide +kernel, by decide +kernel⟩
theorem c_may_be (f : Facts P w base g) (cal_check_bounds : Cal P w base g 8 "check_bounds" ["vat", "bounds"] M_check_bounds) (cal_all_faults : Cal P w base g 3 "all_faults" ["bounds"] M_all_faults) (cal_is_seen : Cal P w base g 5 "is_seen" ["vat", "bounds", "value"] M_is_seen) (cal_fits : Cal P w base g 4 "fits" ["vat", "fault", "at", "one", "other"] M_fits) : Cal P w base g 9 "may_be" ["vat", "bounds", "seen"] M_may_be :=
  cal_of (k := 8) (N := ["vat", "bounds", "seen", "found", "fault", "at", "one", "other"]) (m := B_may_be) f.d_may_be sc_may_be (fun _ _ _ _ _ _ us hl => match us, hl with | [_, _, _], _ => rfl) f.bt fun f0 cdv A outer s H E F =>
    (vss_cons (vx_expr (have F := F.x; (ve_call (cal_check_bounds) F.F (by omega) (va_cons (ve_var 0) (va_cons (ve_var 1) va_nil))))) (vss_cons (vx_if (have F := F.x; (vt_not (vt_val (ve_call (cal_is_seen) F.F (by omega) (va_cons (ve_var 0) (va_cons (ve_var 1) (va_cons (ve_var 2) va_nil))))))) (vss_one (vx_raise F.x.F (by omega) f.e_BadReadings (ve_var 2))) vss_nil) (vss_cons (vx_new F.x.nd (vn_lst va_nil)) (vss_cons (vs_for F.own F.x.F.calm (have F := F.x; (i_seq F (ve_call (cal_all_faults) F.F (by omega) (va_cons (ve_var 1) va_nil)))) (pg_name F.x.nd rfl (by first | exact Or.inl rfl | exact Or.inr rfl) (by first | exact .inl rfl | exact .inr rfl)) be_name (vss_one (vx_if (have F := F.x; (vt_val (x_all F (va_cons (ve_new (n_lc [("at", 5), ("one", 6), ("other", 7)] F (i_zip3 F (va_cons (x_ix F (ve_var 2) ve_int) (va_cons (x_ix F (ve_var 2) ve_int) (va_cons (x_slice F (x_ix F (ve_var 2) ve_int) (vo_some ve_int) vo_no) va_nil)))) (tg_tup F (tgn_cons F (tgn_cons F (tgn_cons F TgN.nil)))) (fun _ _ _ _ _ F => pts_none) (fun _ _ _ _ _ F => (ve_call (cal_fits) F.F (by omega) (va_cons (ve_var 0) (va_cons (ve_var 4) (va_cons (ve_var 5) (va_cons (ve_var 6) (va_cons (ve_var 7) va_nil))))))))) va_nil)))) (vss_one (vx_app (ve_var 4))) vss_nil))) (vss_freeze 3 (vss_one (vs_ret F.x.F (have F := F.x; (x_tuple2 F (va_cons (ve_var 3) va_nil))))))))))
theorem sc_width_of : FnScope ["vat"] ["vat"] (L2.defScope s_width_of) := ⟨rfl, rfl, rfl, by decide +kernel, rfl, by decide +kernel, by decide +kernel⟩
theorem c_width_of (f : Facts P w base g)  : Cal P w base g 3 "width_of" ["vat"] M_width_of :=
  cal_of (k := 2) (N := ["vat"]) (m := B_width_of) f.d_width_of sc_width_of (fun _ _ _ _ _ _ us hl => match us, hl with | [_], _ => rfl) f.bt fun f0 cdv A outer s H E F =>
    (vss_one (vs_ret F.x.F (have F := F.x; (ve_sub (x_ix F (x_ix F (ve_var 0) (x_add F (x_gint F f.c_TRIPLE_stuck) ve_int)) ve_int) (x_ix F (x_ix F (ve_var 0) (x_add F (x_gint F f.c_TRIPLE_stuck) ve_int)) ve_int)))))
theorem sc_parts : FnScope ["vat", "at", "other"] ["vat", "at", "other"] (L2.defScope s_parts) := ⟨rfl, rfl, rfl, by decide +kernel, rfl, by decide +kernel, by decide +kernel⟩
theorem c_parts (f : Facts P w base g) (cal_width_of : Cal P w base g 3 "width_of" ["vat"] M_width_of) : Cal P w base g 4 "parts" ["vat", "at", "other"] M_parts :=
  cal_of (k := 3) (N := ["vat", "at", "other"]) (m := B_parts) f.d_parts sc_parts (fun _ _ _ _ _ _ us hl => match us, hl with | [_, _, _], _ => rfl) f.bt fun f0 cdv A outer s H E F =>
    (vss_one (vs_ret F.x.F (have F := F.x; (x_cmp o_gt (x_abs F (va_cons (x_mul F (x_ix F (ve_var 0) (x_gint F f.c_PAIR_stuck)) (ve_sub (ve_var 1) (ve_var 2))) va_nil)) (ve_call (cal_width_of) F.F (by omega) (va_cons (ve_var 0) va_nil))))))
theorem sc_telling : FnScope ["vat", "bounds", "at", "one"] ["vat", "bounds", "at"] (L2.defScope s_telling) := ⟨rfl, rfl, rfl, by decide +kernel, rfl, by decide +kernel, by decide +kernel⟩
theorem c_telling (f : Facts P w base g) (cal_is_integer : Cal P w base g 4 "is_integer" ["value", "low", "high"] M_is_integer) (cal_check_bounds : Cal P w base g 8 "check_bounds" ["vat", "bounds"] M_check_bounds) (cal_parts : Cal P w base g 4 "parts" ["vat", "at", "other"] M_parts) : Cal P w base g 9 "telling" ["vat", "bounds", "at"] M_telling :=
  cal_of (k := 8) (N := ["vat", "bounds", "at", "one"]) (m := B_telling) f.d_telling sc_telling (fun _ _ _ _ _ _ us hl => match us, hl with | [_, _, _], _ => rfl) f.bt fun f0 cdv A outer s H E F =>
    (vss_cons (vx_expr (have F := F.x; (ve_call (cal_check_bounds) F.F (by omega) (va_cons (ve_var 0) (va_cons (ve_var 1) va_nil))))) (vss_cons (vx_if (have F := F.x; (vt_not (vt_val (ve_call (cal_is_integer) F.F (by omega) (va_cons (ve_var 2) (va_cons (x_ix F (ve_var 1) ve_int) (va_cons (x_ix F (ve_var 1) ve_int) va_nil))))))) (vss_one (vx_raise F.x.F (by omega) f.e_BadLever (ve_var 2))) vss_nil) (vss_one (vs_ret F.x.F (have F := F.x; (x_tuple2 F (va_cons (ve_new (n_lc [("one", 3)] F (vi_range2 F.bt.range (va_cons (x_ix F (ve_var 1) ve_int) (va_cons (x_add F (x_ix F (ve_var 1) ve_int) ve_int) va_nil))) (tg_name F) (fun _ _ _ _ _ F => pts_one (vt_val (ve_call (cal_parts) F.F (by omega) (va_cons (ve_var 0) (va_cons (ve_var 3) (va_cons (ve_var 2) va_nil)))))) (fun _ _ _ _ _ F => (ve_var 3)))) va_nil)))))))
theorem sc_least_row : FnScope ["vat", "bounds", "every", "lone", "at", "one", "other"] ["vat", "bounds"] (L2.defScope s_least_row) := ⟨rfl, rfl, rfl, by decide +kernel, rfl, by decide +kernel, by decide +kernel⟩
theorem c_least_row (f : Facts P w base g) (cal_check_bounds : Cal P w base g 8 "check_bounds" ["vat", "bounds"] M_check_bounds) (cal_parts : Cal P w base g 4 "parts" ["vat", "at", "other"] M_parts) : Cal P w base g 9 "least_row" ["vat", "bounds"] M_least_row :=
  cal_of (k := 8) (N := ["vat", "bounds", "every", "lone", "at", "one", "other"]) (m := B_least_row) f.d_least_row sc_least_row (fun _ _ _ _ _ _ us hl => match us, hl with | [_, _], _ => rfl) f.bt fun f0 cdv A outer s H E F =>
    (vss_cons (vx_expr (have F := F.x; (ve_call (cal_check_bounds) F.F (by omega) (va_cons (ve_var 0) (va_cons (ve_var 1) va_nil))))) (vss_cons (vx_set F.x.nd (have F := F.x; (x_range F (va_cons (x_ix F (ve_var 1) ve_int) (va_cons (x_add F (x_ix F (ve_var 1) ve_int) ve_int) va_nil))))) (vss_cons (s_newLc [("at", 4)] F.x (have F := F.x; (i_seq F (ve_var 2))) (tg_name F.x) (fun _ _ _ _ _ F => pts_one (PW.pt (vw_and (vt_not (vt_val (ve_call (cal_parts) F.F (by omega) (va_cons (ve_var 0) (va_cons (x_ix F (ve_var 1) ve_int) (va_cons (ve_var 4) va_nil)))))) (vw_and1 (vt_not (vt_val (ve_call (cal_parts) F.F (by omega) (va_cons (ve_var 0) (va_cons (x_ix F (ve_var 1) ve_int) (va_cons (ve_var 4) va_nil)))))))))) (fun _ _ _ _ _ F => (ve_var 4))) (vss_freeze 3 (vss_cons (vx_if (have F := F.x; (t_cmp (o_ne F) (ve_var 3) (ve_new (vn_lst va_nil)))) (vss_one (vs_ret F.x.F (have F := F.x; (ve_tup (va_cons (x_gstr F f.c_NEVER) (va_cons (x_ix F (ve_var 3) ve_int) va_nil)))))) vss_nil) (vss_cons (vs_for F.own F.x.F.calm (have F := F.x; (i_seq F (ve_var 2))) (pg_name F.x.nd rfl (by first | exact Or.inl rfl | exact Or.inr rfl) (by first | exact .inl rfl | exact .inr rfl)) be_name (vss_one (vs_for F.own F.x.F.calm (have F := F.x; (i_seq F (ve_var 2))) (pg_name F.x.nd rfl (by first | exact Or.inl rfl | exact Or.inr rfl) (by first | exact .inl rfl | exact .inr rfl)) be_name (vss_one (vx_if (have F := F.x; (vt_val (x_all F (va_cons (ve_new (n_lc [("at", 4)] F (i_seq F (ve_var 2)) (tg_name F) (fun _ _ _ _ _ F => pts_none) (fun _ _ _ _ _ F => (ve_or (ve_call (cal_parts) F.F (by omega) (va_cons (ve_var 0) (va_cons (ve_var 5) (va_cons (ve_var 4) va_nil)))) (ve_b1 (ve_call (cal_parts) F.F (by omega) (va_cons (ve_var 0) (va_cons (ve_var 6) (va_cons (ve_var 4) va_nil))))))))) va_nil)))) (vss_one (vs_ret F.x.F (have F := F.x; (ve_tup (va_cons (x_gstr F f.c_ROW) (va_cons (ve_tup (va_cons (ve_var 5) (va_cons (ve_var 6) va_nil))) va_nil)))))) vss_nil))))) (vss_one (vs_ret F.x.F (have F := F.x; (ve_tup (va_cons (x_gstr F f.c_ROW) (va_cons (ve_tup (va_cons (x_ix F (ve_var 1) ve_int) (va_cons (x_ix F (ve_var 1) ve_int) va_nil))) va_nil))))))))))))
theorem sc_shows_row : FnScope ["vat", "bounds", "value", "every", "one", "at"] ["vat", "bounds", "value"] (L2.defScope s_shows_row) := ⟨rfl, rfl, rfl, by decide +kernel, rfl, by decide +kernel, by decide +kernel⟩
theorem c_shows_row (f : Facts P w base g) (cal_is_tuple : Cal P w base g 3 "is_tuple" ["value", "least", "most"] M_is_tuple) (cal_is_integer : Cal P w base g 4 "is_integer" ["value", "low", "high"] M_is_integer) (cal_check_bounds : Cal P w base g 8 "check_bounds" ["vat", "bounds"] M_check_bounds) (cal_parts : Cal P w base g 4 "parts" ["vat", "at", "other"] M_parts) : Cal P w base g 9 "shows_row" ["vat", "bounds", "value"] M_shows_row :=
  cal_of (k := 8) (N := ["vat", "bounds", "value", "every", "one", "at"]) (m := B_shows_row) f.d_shows_row sc_shows_row (fun _ _ _ _ _ _ us hl => match us, hl with | [_, _, _], _ => rfl) f.bt fun f0 cdv A outer s H E F =>
    (vss_cons (vx_expr (have F := F.x; (ve_call (cal_check_bounds) F.F (by omega) (va_cons (ve_var 0) (va_cons (ve_var 1) va_nil))))) (vss_cons (vx_if (have F := F.x; (PW.pt (vw_or (vt_not (vt_val (ve_call (cal_is_tuple) F.F (by omega) (va_cons (ve_var 2) (va_cons (x_gint F f.c_PAIR_stuck) (va_cons (x_gint F f.c_PAIR_stuck) va_nil)))))) (vw_or1 (vt_not (vt_val (x_isi F F.bt.str (by decide +kernel) (x_ix F (ve_var 2) ve_int)))))))) (vss_one (vs_ret F.x.F ve_bl)) vss_nil) (vss_cons (vx_set F.x.nd (have F := F.x; (x_range F (va_cons (x_ix F (ve_var 1) ve_int) (va_cons (x_add F (x_ix F (ve_var 1) ve_int) ve_int) va_nil))))) (vss_cons (vx_if (have F := F.x; (t_cmp (o_eq F) (x_ix F (ve_var 2) ve_int) (x_gstr F f.c_NEVER))) (vss_one (vs_ret F.x.F (have F := F.x; (ve_and (ve_call (cal_is_integer) F.F (by omega) (va_cons (x_ix F (ve_var 2) ve_int) (va_cons (x_ix F (ve_var 1) ve_int) (va_cons (x_ix F (ve_var 1) ve_int) va_nil)))) (ve_b1 (ve_not (x_any F (va_cons (ve_new (n_lc [("one", 4)] F (i_seq F (ve_var 3)) (tg_name F) (fun _ _ _ _ _ F => pts_none) (fun _ _ _ _ _ F => (ve_call (cal_parts) F.F (by omega) (va_cons (ve_var 0) (va_cons (ve_var 4) (va_cons (x_ix F (ve_var 2) ve_int) va_nil))))))) va_nil)))))))) vss_nil) (vss_cons (vx_if (have F := F.x; (PW.pt (vw_or (t_cmp (o_ne F) (x_ix F (ve_var 2) ve_int) (x_gstr F f.c_ROW)) (vw_or1 (vt_not (vt_val (ve_call (cal_is_tuple) F.F (by omega) (va_cons (x_ix F (ve_var 2) ve_int) (va_cons (x_gint F f.c_PAIR_stuck) (va_cons (x_gint F f.c_PAIR_stuck) va_nil)))))))))) (vss_one (vs_ret F.x.F ve_bl)) vss_nil) (vss_cons (vx_if (have F := F.x; (vt_not (vt_val (x_all F (va_cons (ve_new (n_lc [("one", 4)] F (i_seq F (x_ix F (ve_var 2) ve_int)) (tg_name F) (fun _ _ _ _ _ F => pts_none) (fun _ _ _ _ _ F => (ve_call (cal_is_integer) F.F (by omega) (va_cons (ve_var 4) (va_cons (x_ix F (ve_var 1) ve_int) (va_cons (x_ix F (ve_var 1) ve_int) va_nil))))))) va_nil))))) (vss_one (vs_ret F.x.F ve_bl)) vss_nil) (vss_one (vs_ret F.x.F (have F := F.x; (x_all F (va_cons (ve_new (n_lc [("at", 5)] F (i_seq F (ve_var 3)) (tg_name F) (fun _ _ _ _ _ F => pts_none) (fun _ _ _ _ _ F => (x_any F (va_cons (ve_new (n_lc [("one", 4)] F (i_seq F (x_ix F (ve_var 2) ve_int)) (tg_name F) (fun _ _ _ _ _ F => pts_none) (fun _ _ _ _ _ F => (ve_call (cal_parts) F.F (by omega) (va_cons (ve_var 0) (va_cons (ve_var 4) (va_cons (ve_var 5) va_nil))))))) va_nil))))) va_nil)))))))))))
theorem sc_is_told : FnScope ["vat", "bounds", "level", "settings", "at", "one"] ["vat", "bounds", "level", "settings"] (L2.defScope s_is_told) := ⟨rfl, rfl, rfl, by decide +kernel, rfl, by decide +kernel, by decide +kernel⟩
theorem c_is_told (f : Facts P w base g) (cal_is_tuple : Cal P w base g 3 "is_tuple" ["value", "least", "most"] M_is_tuple) (cal_is_integer : Cal P w base g 4 "is_integer" ["value", "low", "high"] M_is_integer) (cal_check_level : Cal P w base g 8 "check_level" ["vat", "value"] M_check_level) (cal_check_bounds : Cal P w base g 8 "check_bounds" ["vat", "bounds"] M_check_bounds) (cal_parts : Cal P w base g 4 "parts" ["vat", "at", "other"] M_parts) : Cal P w base g 9 "is_told" ["vat", "bounds", "level", "settings"] M_is_told :=
  cal_of (k := 8) (N := ["vat", "bounds", "level", "settings", "at", "one"]) (m := B_is_told) f.d_is_told sc_is_told (fun _ _ _ _ _ _ us hl => match us, hl with | [_, _, _, _], _ => rfl) f.bt fun f0 cdv A outer s H E F =>
    (vss_cons (vx_expr (have F := F.x; (ve_call (cal_check_bounds) F.F (by omega) (va_cons (ve_var 0) (va_cons (ve_var 1) va_nil))))) (vss_cons (vx_expr (have F := F.x; (ve_call (cal_check_level) F.F (by omega) (va_cons (ve_var 0) (va_cons (ve_var 2) va_nil))))) (vss_cons (vx_if (have F := F.x; (PW.pt (vw_or (vt_not (vt_val (ve_call (cal_is_tuple) F.F (by omega) (va_cons (ve_var 3) (va_cons ve_int (va_cons (x_gint F f.c_MOST_SEEN) va_nil)))))) (vw_or1 (vt_not (vt_val (x_all F (va_cons (ve_new (n_lc [("at", 4)] F (i_seq F (ve_var 3)) (tg_name F) (fun _ _ _ _ _ F => pts_none) (fun _ _ _ _ _ F => (ve_call (cal_is_integer) F.F (by omega) (va_cons (ve_var 4) (va_cons (x_ix F (ve_var 1) ve_int) (va_cons (x_ix F (ve_var 1) ve_int) va_nil))))))) va_nil)))))))) (vss_one (vx_raise F.x.F (by omega) f.e_BadReadings (ve_var 3))) vss_nil) (vss_one (vs_ret F.x.F (have F := F.x; (x_all F (va_cons (ve_new (n_lc [("at", 4)] F (vi_range2 F.bt.range (va_cons (x_ix F (ve_var 1) ve_int) (va_cons (x_add F (x_ix F (ve_var 1) ve_int) ve_int) va_nil))) (tg_name F) (fun _ _ _ _ _ F => pts_none) (fun _ _ _ _ _ F => (x_any F (va_cons (ve_new (n_lc [("one", 5)] F (i_seq F (ve_var 3)) (tg_name F) (fun _ _ _ _ _ F => pts_none) (fun _ _ _ _ _ F => (ve_call (cal_parts) F.F (by omega) (va_cons (ve_var 0) (va_cons (ve_var 5) (va_cons (ve_var 4) va_nil))))))) va_nil))))) va_nil))))))))
theorem sc__law_pot : FnScope ["script", "place", "cell", "own", "small"] ["script", "place"] (L2.defScope s__law_pot) := ⟨rfl, rfl, rfl, by decide +kernel, rfl, by decide +kernel, by decide +kernel⟩
theorem c__law_pot (f : Facts P w base g)  : CalN P w base g 3 "_law_pot" ["script", "place"] M__law_pot :=
  caln_of (k := 2) (N := ["script", "place", "cell", "own", "small"]) (m := B__law_pot) f.d__law_pot sc__law_pot (fun _ _ _ _ _ _ us hl => match us, hl with | [_, _], _ => rfl) f.bt fun f0 cdv A outer s H E F =>
    (vss_cons (vx_set F.x.nd (have F := F.x; (ve_if (t_cmp o_lt (ve_var 1) (x_len F (va_cons (ve_var 0) va_nil))) (x_ix F (ve_var 0) (ve_var 1)) (x_add F (x_add F (ve_mod (x_sum F (va_cons (x_slice F (ve_var 0) vo_no (vo_some ve_int)) va_nil)) ve_int) (x_mul F ve_int (ve_var 1))) ve_int)))) (vss_cons (vx_set F.x.nd (have F := F.x; (x_mul F (ve_mod (x_int F (va_cons (x_abs F (va_cons (ve_var 2) va_nil)) va_nil)) (ve_powW (ve_powW ve_int ve_int) ve_int)) (x_int F (va_cons (x_cmp o_ge (x_abs F (va_cons (ve_var 2) va_nil)) (ve_powW ve_int ve_int)) va_nil))))) (vss_cons (vx_set F.x.nd (have F := F.x; (ve_mod (x_int F (va_cons (ve_var 2) va_nil)) ve_int))) (vss_one (vs_retNew F.x.F (have F := F.x; (vn_lst (va_cons (ve_var 3) (va_cons (ve_mod (x_int F (va_cons (x_add F (x_add F (x_mul F (ve_var 4) ve_int) (x_mul F (x_mul F ve_int (ve_var 1)) (ve_var 1))) ve_int) va_nil)) ve_int) (va_cons ve_int va_nil))))))))))
theorem sc__law_take : FnScope ["pot", "upto", "digit", "prime", "blend"] ["pot", "upto"] (L2.defScope s__law_take) := ⟨rfl, rfl, rfl, by decide +kernel, rfl, by decide +kernel, by decide +kernel⟩
theorem c__law_take (f : Facts P w base g)  : Cal P w base g 3 "_law_take" ["pot", "upto"] M__law_take :=
  cal_of (k := 2) (N := ["pot", "upto", "digit", "prime", "blend"]) (m := B__law_take) f.d__law_take sc__law_take (fun _ _ _ _ _ _ us hl => match us, hl with | [_, _], _ => rfl) f.bt fun f0 cdv A outer s H E F =>
    (vss_cons (vx_if (t_cmp o_gt (ve_potIx (k := 0) (ve_var 0) (by intro _ _; rfl)) ve_int) (vss_cons (vx_set F.x.nd (have F := F.x; (ve_mod (x_int F (va_cons (ve_potIx (k := 0) (ve_var 0) (by intro _ _; rfl)) va_nil)) (ve_var 1)))) (vss_cons (vs_potSet (k := 0) (ve_fdiv (ve_potIx (k := 0) (ve_var 0) (by intro _ _; rfl)) (ve_var 1))) (vss_one (vs_ret F.x.F (ve_var 2))))) vss_nil) (vss_cons (vs_potSet (k := 2) (have F := F.x; (x_add F (ve_potIx (k := 2) (ve_var 0) (by intro _ _; rfl)) ve_int))) (vss_cons (vx_set F.x.nd (have F := F.x; (x_ix F (ve_new (vn_lst (va_cons ve_int (va_cons ve_int (va_cons ve_int (va_cons ve_int (va_cons ve_int va_nil))))))) (ve_mod (x_int F (va_cons (ve_potIx (k := 2) (ve_var 0) (by intro _ _; rfl)) va_nil)) ve_int)))) (vss_cons (vx_set F.x.nd (have F := F.x; (ve_mod (x_int F (va_cons (ve_powW (x_int F (va_cons (x_add F (x_add F (ve_potIx (k := 1) (ve_var 0) (by intro _ _; rfl)) (x_mul F (x_mul F ve_int (ve_potIx (k := 2) (ve_var 0) (by intro _ _; rfl))) (ve_potIx (k := 2) (ve_var 0) (by intro _ _; rfl)))) ve_int) va_nil)) ve_int) va_nil)) (ve_var 3)))) (vss_cons (vx_set F.x.nd (have F := F.x; (ve_mod (x_int F (va_cons (x_mul F (ve_var 4) (x_add F (ve_mod (x_int F (va_cons (ve_var 4) va_nil)) ve_int) (x_mul F ve_int (ve_potIx (k := 2) (ve_var 0) (by intro _ _; rfl))))) va_nil)) ve_int))) (vss_one (vs_ret F.x.F (have F := F.x; (ve_mod (x_int F (va_cons (ve_fdiv (ve_var 4) ve_int) va_nil)) (ve_var 1))))))))))
theorem sc__law_of : FnScope ["pot", "some"] ["pot", "some"] (L2.defScope s__law_of) := ⟨rfl, rfl, rfl, by decide +kernel, rfl, by decide +kernel, by decide +kernel⟩
theorem c__law_of (f : Facts P w base g) (cal__law_take : Cal P w base g 3 "_law_take" ["pot", "upto"] M__law_take) : Cal P w base g 4 "_law_of" ["pot", "some"] M__law_of :=
  cal_of (k := 3) (N := ["pot", "some"]) (m := B__law_of) f.d__law_of sc__law_of (fun _ _ _ _ _ _ us hl => match us, hl with | [_, _], _ => rfl) f.bt fun f0 cdv A outer s H E F =>
    (vss_one (vs_ret F.x.F (have F := F.x; (x_ix F (ve_var 1) (ve_call (cal__law_take) F.F (by omega) (va_cons (ve_var 0) (va_cons (x_len F (va_cons (ve_var 1) va_nil)) va_nil)))))))
theorem sc__law_places : FnScope ["script", "most"] ["script", "most"] (L2.defScope s__law_places) := ⟨rfl, rfl, rfl, by decide +kernel, rfl, by decide +kernel, by decide +kernel⟩
theorem c__law_places (f : Facts P w base g)  : Cal P w base g 3 "_law_places" ["script", "most"] M__law_places :=
  cal_of (k := 2) (N := ["script", "most"]) (m := B__law_places) f.d__law_places sc__law_places (fun _ _ _ _ _ _ us hl => match us, hl with | [_, _], _ => rfl) f.bt fun f0 cdv A outer s H E F =>
    (vss_one (vs_ret F.x.F (have F := F.x; (ve_new (n_list2 F (va_cons (x_range F (va_cons (x_max2 F (va_cons ve_int (va_cons (x_min2 F (va_cons (ve_var 1) (va_cons (x_len F (va_cons (ve_var 0) va_nil)) va_nil))) va_nil))) va_nil)) va_nil))))))
theorem l_0 (f : Facts P w base g) (cal_may_be : Cal P w base g 9 "may_be" ["vat", "bounds", "seen"] M_may_be) : LamP P w base g 10 lam_0 (mls 0) :=
  lam_ok (k := 9) (m := m_lam_0) f.bt (NdefX.nscope_by (by kernel_rfl)) (fun _ _ _ _ _ => rfl) fun f0 c0 cl A outer s H E F =>
    (ve_call (cal_may_be) F.F (by omega) (va_cons (x_ix F (ve_var 0) ve_int) (va_cons (x_ix F (ve_var 0) ve_int) (va_cons ve_non va_nil))))
theorem l_1 (f : Facts P w base g) (cal_telling : Cal P w base g 9 "telling" ["vat", "bounds", "at"] M_telling) : LamP P w base g 10 lam_1 (mls 1) :=
  lam_ok (k := 9) (m := m_lam_1) f.bt (NdefX.nscope_by (by kernel_rfl)) (fun _ _ _ _ _ => rfl) fun f0 c0 cl A outer s H E F =>
    (ve_call (cal_telling) F.F (by omega) (va_cons (x_ix F (ve_var 0) ve_int) (va_cons (x_ix F (ve_var 0) ve_int) (va_cons ve_non va_nil))))
theorem l_2 (f : Facts P w base g) (cal_least_row : Cal P w base g 9 "least_row" ["vat", "bounds"] M_least_row) : LamP P w base g 10 lam_2 (mls 2) :=
  lam_ok (k := 9) (m := m_lam_2) f.bt (NdefX.nscope_by (by kernel_rfl)) (fun _ _ _ _ _ => rfl) fun f0 c0 cl A outer s H E F =>
    (ve_call (cal_least_row) F.F (by omega) (va_cons (x_ix F (ve_var 0) ve_int) (va_cons (x_ix F (ve_var 0) ve_int) va_nil)))
theorem l_3 (f : Facts P w base g) (cal_shows_row : Cal P w base g 9 "shows_row" ["vat", "bounds", "value"] M_shows_row) : LamP P w base g 10 lam_3 (mls 3) :=
  lam_ok (k := 9) (m := m_lam_3) f.bt (NdefX.nscope_by (by kernel_rfl)) (fun _ _ _ _ _ => rfl) fun f0 c0 cl A outer s H E F =>
    (ve_call (cal_shows_row) F.F (by omega) (va_cons (x_ix F (ve_var 0) ve_int) (va_cons (x_ix F (ve_var 0) ve_int) (va_cons ve_non va_nil))))
theorem l_4 (f : Facts P w base g) (cal_is_told : Cal P w base g 9 "is_told" ["vat", "bounds", "level", "settings"] M_is_told) : LamP P w base g 10 lam_4 (mls 4) :=
  lam_ok (k := 9) (m := m_lam_4) f.bt (NdefX.nscope_by (by kernel_rfl)) (fun _ _ _ _ _ => rfl) fun f0 c0 cl A outer s H E F =>
    (ve_call (cal_is_told) F.F (by omega) (va_cons (x_ix F (ve_var 0) ve_int) (va_cons (x_ix F (ve_var 0) ve_int) (va_cons ve_non (va_cons ve_non va_nil)))))
theorem l_5 (f : Facts P w base g) (cal_may_be : Cal P w base g 9 "may_be" ["vat", "bounds", "seen"] M_may_be) : LamP P w base g 10 lam_5 (mls 5) :=
  lam_ok (k := 9) (m := m_lam_5) f.bt (NdefX.nscope_by (by kernel_rfl)) (fun _ _ _ _ _ => rfl) fun f0 c0 cl A outer s H E F =>
    (ve_call (cal_may_be) F.F (by omega) (va_cons (ve_var 0) (va_cons (ve_tup (va_cons (ve_neg ve_int) (va_cons ve_int va_nil))) (va_cons (ve_var 1) va_nil))))
theorem l_6 (f : Facts P w base g) (cal_telling : Cal P w base g 9 "telling" ["vat", "bounds", "at"] M_telling) : LamP P w base g 10 lam_6 (mls 6) :=
  lam_ok (k := 9) (m := m_lam_6) f.bt (NdefX.nscope_by (by kernel_rfl)) (fun _ _ _ _ _ => rfl) fun f0 c0 cl A outer s H E F =>
    (ve_call (cal_telling) F.F (by omega) (va_cons (ve_var 0) (va_cons (ve_tup (va_cons (ve_neg ve_int) (va_cons ve_int va_nil))) (va_cons (ve_var 1) va_nil))))
theorem l_7 (f : Facts P w base g) (cal_is_told : Cal P w base g 9 "is_told" ["vat", "bounds", "level", "settings"] M_is_told) : LamP P w base g 10 lam_7 (mls 7) :=
  lam_ok (k := 9) (m := m_lam_7) f.bt (NdefX.nscope_by (by kernel_rfl)) (fun _ _ _ _ _ => rfl) fun f0 c0 cl A outer s H E F =>
    (ve_call (cal_is_told) F.F (by omega) (va_cons (ve_var 0) (va_cons (ve_tup (va_cons (ve_neg ve_int) (va_cons ve_int va_nil))) (va_cons ve_int (va_cons (ve_var 1) va_nil)))))
theorem l_8 (f : Facts P w base g) (cal_is_told : Cal P w base g 9 "is_told" ["vat", "bounds", "level", "settings"] M_is_told) : LamP P w base g 10 lam_8 (mls 8) :=
  lam_ok (k := 9) (m := m_lam_8) f.bt (NdefX.nscope_by (by kernel_rfl)) (fun _ _ _ _ _ => rfl) fun f0 c0 cl A outer s H E F =>
    (ve_call (cal_is_told) F.F (by omega) (va_cons (ve_var 0) (va_cons (ve_tup (va_cons (ve_neg ve_int) (va_cons ve_int va_nil))) (va_cons ve_int (va_cons ve_non va_nil)))))
theorem l_all (f : Facts P w base g) (cal_may_be : Cal P w base g 9 "may_be" ["vat", "bounds", "seen"] M_may_be) (cal_telling : Cal P w base g 9 "telling" ["vat", "bounds", "at"] M_telling) (cal_least_row : Cal P w base g 9 "least_row" ["vat", "bounds"] M_least_row) (cal_shows_row : Cal P w base g 9 "shows_row" ["vat", "bounds", "value"] M_shows_row) (cal_is_told : Cal P w base g 9 "is_told" ["vat", "bounds", "level", "settings"] M_is_told) : ∀ i L, lams i = some L → LamP P w base g 10 L (mls i) := fun i L h => by
  unfold lams at h
  split at h
  · cases h; exact l_0 f cal_may_be
  · cases h; exact l_1 f cal_telling
  · cases h; exact l_2 f cal_least_row
  · cases h; exact l_3 f cal_shows_row
  · cases h; exact l_4 f cal_is_told
  · cases h; exact l_5 f cal_may_be
  · cases h; exact l_6 f cal_telling
  · cases h; exact l_7 f cal_is_told
  · cases h; exact l_8 f cal_is_told
  · cases h
theorem sc__law_heard : FnScope ["call", "caught", "back", "error"] ["call"] (L2.defScope s__law_heard) := ⟨rfl, rfl, rfl, by decide +kernel, rfl, by decide +kernel, by decide +kernel⟩
theorem v__law_heard (f : Facts P w base g)  (hL : ∀ i L, lams i = some L → LamP P w base g 10 L (mls i)) : CalV P w base g lams 11 "_law_heard" ["call"] M__law_heard := by
  obtain ⟨CL, hCL, hexs⟩ := f.cat_LeverError.ex
  exact calv_of (k := 10) (N := ["call", "caught", "back", "error"]) (m := B__law_heard) f.d__law_heard sc__law_heard (fun _ _ _ _ _ _ us hl => match us, hl with | [_], _ => rfl) f.bt fun f0 cdv A outer s H E F =>
    (vss_cons (vs_tupEl F.x.F.calm (tn_cons F.x.nd (tn_cons F.x.nd tn_nil)) (pels_p ve_non (pels_p ve_non PEls.nil)) rfl (by decide)) (vss_cons (vs_heard F.x.nd (fun W pn xe tk => have F := F.x.tr tk; (ve_callC (lams := lams) F.F hL)) (nm_by (CL := CL) hCL) hexs (by decide)) (vss_one (vs_retV (ve_tup (va_cons (ve_var 1) (va_cons (ve_var 2) va_nil)))))))
theorem sc__law_odd : FnScope ["pot", "some"] ["pot"] (L2.defScope s__law_odd) := ⟨rfl, rfl, rfl, by decide +kernel, rfl, by decide +kernel, by decide +kernel⟩
theorem c__law_odd (f : Facts P w base g) (cal__law_of : Cal P w base g 4 "_law_of" ["pot", "some"] M__law_of) : Cal P w base g 5 "_law_odd" ["pot"] M__law_odd :=
  cal_of (k := 4) (N := ["pot", "some"]) (m := B__law_odd) f.d__law_odd sc__law_odd (fun _ _ _ _ _ _ us hl => match us, hl with | [_], _ => rfl) f.bt fun f0 cdv A outer s H E F =>
    (vss_cons (vx_set F.x.nd (ve_new (vn_lst (va_cons ve_non (va_cons ve_bl (va_cons ve_bl (va_cons ve_int (va_cons ve_int (va_cons (ve_neg ve_int) (va_cons ve_int (va_cons ve_int (va_cons ve_str (va_cons ve_str (va_cons ve_str (va_cons ve_str (va_cons (ve_tup va_nil) (va_cons (ve_new (vn_lst va_nil)) (va_cons (ve_tup (va_cons ve_int va_nil)) (va_cons (ve_tup (va_cons (ve_tup va_nil) va_nil)) (va_cons (ve_new (vn_lst (va_cons ve_int va_nil))) (va_cons (ve_tup (va_cons ve_bl va_nil)) (va_cons (ve_tup (va_cons ve_non va_nil)) va_nil)))))))))))))))))))))) (vss_cons (vx_set F.x.nd (have F := F.x; (x_add F (ve_var 1) (ve_new (vn_lst (va_cons (ve_tup (va_cons ve_str va_nil)) (va_cons (ve_tup (va_cons (ve_tup (va_cons ve_int va_nil)) (va_cons (ve_tup va_nil) va_nil))) (va_cons (ve_tup (va_cons ve_int va_nil)) (va_cons (ve_tup (va_cons ve_int (va_cons (ve_new (vn_lst (va_cons ve_int va_nil))) va_nil))) (va_cons (ve_tup (va_cons (ve_tup (va_cons ve_int va_nil)) (va_cons (ve_tup (va_cons (ve_tup (va_cons ve_int (va_cons ve_int va_nil))) va_nil)) va_nil))) (va_cons (ve_new (vn_lst (va_cons (ve_tup (va_cons ve_int va_nil)) (va_cons (ve_tup (va_cons (ve_tup (va_cons ve_int (va_cons ve_int va_nil))) va_nil)) va_nil)))) (va_cons ve_str (va_cons (ve_powW ve_int ve_int) va_nil))))))))))))) (vss_one (vs_ret F.x.F (have F := F.x; (ve_call (cal__law_of) F.F (by omega) (va_cons (ve_var 0) (va_cons (ve_var 1) va_nil))))))))
theorem sc__law_is_int : FnScope ["value", "low", "high"] ["value", "low", "high"] (L2.defScope s__law_is_int) := ⟨rfl, rfl, rfl, by decide +kernel, rfl, by decide +kernel, by decide +kernel⟩
theorem c__law_is_int (f : Facts P w base g)  : Cal P w base g 3 "_law_is_int" ["value", "low", "high"] M__law_is_int :=
  cal_of (k := 2) (N := ["value", "low", "high"]) (m := B__law_is_int) f.d__law_is_int sc__law_is_int (fun _ _ _ _ _ _ us hl => match us, hl with | [_, _, _], _ => rfl) f.bt fun f0 cdv A outer s H E F =>
    (vss_one (vs_ret F.x.F (have F := F.x; (ve_and (x_isi F F.bt.int (by decide +kernel) (ve_var 0)) (ve_and (ve_not (x_isi F F.bt.bool (by decide +kernel) (ve_var 0))) (ve_b1 (x_chain o_le o_le (ve_var 1) (ve_var 0) (ve_var 2))))))))
theorem sc__law_bent : FnScope ["pot", "value", "at", "some"] ["pot", "value"] (L2.defScope s__law_bent) := ⟨rfl, rfl, rfl, by decide +kernel, rfl, by decide +kernel, by decide +kernel⟩
theorem c__law_bent (f : Facts P w base g) (cal__law_take : Cal P w base g 3 "_law_take" ["pot", "upto"] M__law_take) (cal__law_of : Cal P w base g 4 "_law_of" ["pot", "some"] M__law_of) (cal__law_odd : Cal P w base g 5 "_law_odd" ["pot"] M__law_odd) : ∀ n : Nat, Cal P w base g (6 + n) "_law_bent" ["pot", "value"] (M__law_bent n)
  | 0 => cal_bad f.d__law_bent (fun _ _ _ _ _ _ us hl => match us, hl with | [_, _], _ => rfl)
  | n + 1 => by
    have cal__law_bent := c__law_bent f cal__law_take cal__law_of cal__law_odd n
    exact cal_of (k := 6 + n) (N := ["pot", "value", "at", "some"]) (m := B__law_bent (M__law_bent n)) f.d__law_bent sc__law_bent (fun _ _ _ _ _ _ us hl => match us, hl with | [_, _], _ => rfl) f.bt fun f0 cdv A outer s H E F =>
      (vss_cons (vx_if (have F := F.x; (PW.pt (vw_and (vt_val (x_isi F F.bt.tuple (by decide +kernel) (ve_var 1))) (vw_and (t_cmp (o_ne F) (ve_var 1) (ve_tup va_nil)) (vw_and1 (t_cmp o_gt (ve_call (cal__law_take) F.F (by omega) (va_cons (ve_var 0) (va_cons ve_int va_nil))) ve_int)))))) (vss_cons (vx_set F.x.nd (have F := F.x; (ve_call (cal__law_take) F.F (by omega) (va_cons (ve_var 0) (va_cons (x_len F (va_cons (ve_var 1) va_nil)) va_nil))))) (vss_one (vs_ret F.x.F (have F := F.x; (x_add F (x_add F (x_slice F (ve_var 1) vo_no (vo_some (ve_var 2))) (ve_tup (va_cons (ve_call (cal__law_bent) F.F (by omega) (va_cons (ve_var 0) (va_cons (x_ix F (ve_var 1) (ve_var 2)) va_nil))) va_nil))) (x_slice F (ve_var 1) (vo_some (x_add F (ve_var 2) ve_int)) vo_no)))))) vss_nil) (vss_cons (vx_if (have F := F.x; (vt_val (x_isi F F.bt.tuple (by decide +kernel) (ve_var 1)))) (vss_one (vs_ret F.x.F (have F := F.x; (ve_call (cal__law_of) F.F (by omega) (va_cons (ve_var 0) (va_cons (ve_new (vn_lst (va_cons (ve_new (n_list2 F (va_cons (ve_var 1) va_nil))) (va_cons (x_slice F (ve_var 1) (vo_some ve_int) vo_no) (va_cons (x_slice F (ve_var 1) vo_no (vo_some (ve_neg ve_int))) (va_cons (x_add F (ve_var 1) (x_slice F (ve_var 1) (vo_some (ve_neg ve_int)) vo_no)) (va_cons (x_rev F (ve_var 1)) (va_cons (ve_tup va_nil) (va_cons ve_non va_nil))))))))) va_nil)))))) vss_nil) (vss_cons (vx_if (have F := F.x; (vt_val (x_isi F F.bt.bool (by decide +kernel) (ve_var 1)))) (vss_one (vs_ret F.x.F (have F := F.x; (ve_call (cal__law_of) F.F (by omega) (va_cons (ve_var 0) (va_cons (ve_new (vn_lst (va_cons (ve_not (ve_var 1)) (va_cons (x_int F (va_cons (ve_var 1) va_nil)) (va_cons ve_non va_nil))))) va_nil)))))) vss_nil) (vss_cons (vx_if (have F := F.x; (vt_val (x_isi F F.bt.int (by decide +kernel) (ve_var 1)))) (vss_one (vs_ret F.x.F (have F := F.x; (ve_call (cal__law_of) F.F (by omega) (va_cons (ve_var 0) (va_cons (ve_new (vn_lst (va_cons (x_add F (ve_var 1) ve_int) (va_cons (ve_sub (ve_var 1) ve_int) (va_cons (ve_neg (ve_var 1)) (va_cons (x_str F (va_cons (ve_var 1) va_nil)) (va_cons ve_non (va_cons (x_cmp (o_eq F) (ve_var 1) ve_int) (va_cons (ve_tup (va_cons (ve_var 1) va_nil)) va_nil))))))))) va_nil)))))) vss_nil) (vss_cons (vx_if (have F := F.x; (vt_val (x_isi F F.bt.str (by decide +kernel) (ve_var 1)))) (vss_cons (vx_set F.x.nd (have F := F.x; (ve_new (vn_lst (va_cons (x_add F (ve_var 1) ve_str) (va_cons (x_slice F (ve_var 1) vo_no (vo_some (ve_neg ve_int))) (va_cons (ve_upper (ve_var 1)) (va_cons (ve_new (vn_lst (va_cons (ve_var 1) va_nil))) (va_cons ve_str (va_cons ve_non (va_cons ve_int (va_cons ve_str (va_cons (x_add F ve_str (ve_var 1)) (va_cons (x_add F (ve_var 1) ve_str) va_nil)))))))))))))) (vss_one (vs_ret F.x.F (have F := F.x; (ve_call (cal__law_of) F.F (by omega) (va_cons (ve_var 0) (va_cons (ve_var 3) va_nil))))))) vss_nil) (vss_one (vs_ret F.x.F (have F := F.x; (ve_call (cal__law_odd) F.F (by omega) (va_cons (ve_var 0) va_nil))))))))))
theorem sc__law_vat : FnScope ["pot", "small", "keeps", "under", "strength", "low", "high", "least"] ["pot", "small"] (L2.defScope s__law_vat) := ⟨rfl, rfl, rfl, by decide +kernel, rfl, by decide +kernel, by decide +kernel⟩
theorem c__law_vat (f : Facts P w base g) (cal__law_take : Cal P w base g 3 "_law_take" ["pot", "upto"] M__law_take) (cal__law_of : Cal P w base g 4 "_law_of" ["pot", "some"] M__law_of) : Cal P w base g 5 "_law_vat" ["pot", "small"] M__law_vat :=
  cal_of (k := 4) (N := ["pot", "small", "keeps", "under", "strength", "low", "high", "least"]) (m := B__law_vat) f.d__law_vat sc__law_vat (fun _ _ _ _ _ _ us hl => match us, hl with | [_, _], _ => rfl) f.bt fun f0 cdv A outer s H E F =>
    (vss_cons (vx_tup F.x.F.calm F.x.K (tn_cons F.x.nd (tn_cons F.x.nd tn_nil)) (have F := F.x; (ve_call (cal__law_of) F.F (by omega) (va_cons (ve_var 0) (va_cons (ve_new (vn_lst (va_cons (ve_tup (va_cons ve_int (va_cons ve_int va_nil))) (va_cons (ve_tup (va_cons ve_int (va_cons ve_int va_nil))) (va_cons (ve_tup (va_cons ve_int (va_cons ve_int va_nil))) (va_cons (ve_tup (va_cons ve_int (va_cons ve_int va_nil))) (va_cons (ve_tup (va_cons ve_int (va_cons ve_int va_nil))) (va_cons (ve_tup (va_cons ve_int (va_cons ve_int va_nil))) (va_cons (ve_tup (va_cons ve_int (va_cons ve_int va_nil))) (va_cons (ve_tup (va_cons ve_int (va_cons ve_int va_nil))) va_nil)))))))))) va_nil))))) (vss_cons (vx_set F.x.nd (have F := F.x; (ve_call (cal__law_of) F.F (by omega) (va_cons (ve_var 0) (va_cons (ve_new (vn_lst (va_cons ve_int (va_cons ve_int (va_cons ve_int (va_cons ve_int (va_cons (ve_neg ve_int) (va_cons (ve_neg ve_int) (va_cons ve_int va_nil))))))))) va_nil))))) (vss_cons (vx_set F.x.nd (have F := F.x; (ve_neg (ve_call (cal__law_take) F.F (by omega) (va_cons (ve_var 0) (va_cons (ve_if (vt_val (ve_var 1)) ve_int ve_int) va_nil)))))) (vss_cons (vx_set F.x.nd (have F := F.x; (x_add F (x_add F (ve_var 5) ve_int) (ve_call (cal__law_take) F.F (by omega) (va_cons (ve_var 0) (va_cons (ve_if (vt_val (ve_var 1)) ve_int ve_int) va_nil)))))) (vss_cons (vx_set F.x.nd (have F := F.x; (ve_neg (ve_call (cal__law_take) F.F (by omega) (va_cons (ve_var 0) (va_cons ve_int va_nil)))))) (vss_one (vs_ret F.x.F (have F := F.x; (ve_tup (va_cons (ve_var 2) (va_cons (ve_var 3) (va_cons (ve_var 4) (va_cons (ve_tup (va_cons (ve_var 5) (va_cons (ve_var 6) va_nil))) (va_cons (ve_tup (va_cons (ve_var 7) (va_cons (x_add F (ve_var 7) (ve_call (cal__law_take) F.F (by omega) (va_cons (ve_var 0) (va_cons (ve_if (vt_val (ve_var 1)) ve_int ve_int) va_nil)))) va_nil))) va_nil))))))))))))))
theorem sc__law_level : FnScope ["vat", "level", "at", "weather"] ["vat", "level", "at", "weather"] (L2.defScope s__law_level) := ⟨rfl, rfl, rfl, by decide +kernel, rfl, by decide +kernel, by decide +kernel⟩
theorem c__law_level (f : Facts P w base g)  : Cal P w base g 3 "_law_level" ["vat", "level", "at", "weather"] M__law_level :=
  cal_of (k := 2) (N := ["vat", "level", "at", "weather"]) (m := B__law_level) f.d__law_level sc__law_level (fun _ _ _ _ _ _ us hl => match us, hl with | [_, _, _, _], _ => rfl) f.bt fun f0 cdv A outer s H E F =>
    (vss_one (vs_ret F.x.F (have F := F.x; (x_add F (x_add F (ve_fdiv (x_mul F (x_ix F (ve_var 0) ve_int) (ve_var 1)) (x_ix F (ve_var 0) ve_int)) (x_mul F (x_ix F (ve_var 0) ve_int) (ve_var 2))) (ve_var 3)))))
theorem sc__law_all_behind : FnScope ["vat", "level", "at", "weather"] ["vat", "level", "at"] (L2.defScope s__law_all_behind) := ⟨rfl, rfl, rfl, by decide +kernel, rfl, by decide +kernel, by decide +kernel⟩
theorem c__law_all_behind (f : Facts P w base g) (cal__law_level : Cal P w base g 3 "_law_level" ["vat", "level", "at", "weather"] M__law_level) : Cal P w base g 4 "_law_all_behind" ["vat", "level", "at"] M__law_all_behind :=
  cal_of (k := 3) (N := ["vat", "level", "at", "weather"]) (m := B__law_all_behind) f.d__law_all_behind sc__law_all_behind (fun _ _ _ _ _ _ us hl => match us, hl with | [_, _, _], _ => rfl) f.bt fun f0 cdv A outer s H E F =>
    (vss_one (vs_ret F.x.F (have F := F.x; (ve_new (n_lc [("weather", 3)] F (vi_range2 F.bt.range (va_cons (x_ix F (x_ix F (ve_var 0) ve_int) ve_int) (va_cons (x_add F (x_ix F (x_ix F (ve_var 0) ve_int) ve_int) ve_int) va_nil))) (tg_name F) (fun _ _ _ _ _ F => pts_none) (fun _ _ _ _ _ F => (ve_call (cal__law_level) F.F (by omega) (va_cons (ve_var 0) (va_cons (ve_var 1) (va_cons (ve_var 2) (va_cons (ve_var 3) va_nil)))))))))))
theorem sc__law_parts : FnScope ["vat", "one", "other", "mine", "its", "level"] ["vat", "one", "other"] (L2.defScope s__law_parts) := ⟨rfl, rfl, rfl, by decide +kernel, rfl, by decide +kernel, by decide +kernel⟩
theorem c__law_parts (f : Facts P w base g) (cal__law_all_behind : Cal P w base g 4 "_law_all_behind" ["vat", "level", "at"] M__law_all_behind) : Cal P w base g 5 "_law_parts" ["vat", "one", "other"] M__law_parts :=
  cal_of (k := 4) (N := ["vat", "one", "other", "mine", "its", "level"]) (m := B__law_parts) f.d__law_parts sc__law_parts (fun _ _ _ _ _ _ us hl => match us, hl with | [_, _, _], _ => rfl) f.bt fun f0 cdv A outer s H E F =>
    (vss_cons (vs_tupEl F.x.F.calm (tn_cons F.x.nd (tn_cons F.x.nd tn_nil)) (pels_p (have F := F.x; (ve_call (cal__law_all_behind) F.F (by omega) (va_cons (ve_var 0) (va_cons ve_int (va_cons (ve_var 1) va_nil))))) (pels_p (have F := F.x; (ve_call (cal__law_all_behind) F.F (by omega) (va_cons (ve_var 0) (va_cons ve_int (va_cons (ve_var 2) va_nil))))) PEls.nil)) rfl (by decide)) (vss_one (vs_ret F.x.F (have F := F.x; (ve_not (x_any F (va_cons (ve_new (n_lc [("level", 5)] F (i_seq F (ve_var 3)) (tg_name F) (fun _ _ _ _ _ F => pts_none) (fun _ _ _ _ _ F => (x_cmp (o_in F) (ve_var 5) (ve_var 4))))) va_nil)))))))
theorem sc__law_is_row : FnScope ["vat", "bounds", "every", "value", "one", "at"] ["vat", "bounds", "every", "value"] (L2.defScope s__law_is_row) := ⟨rfl, rfl, rfl, by decide +kernel, rfl, by decide +kernel, by decide +kernel⟩
theorem c__law_is_row (f : Facts P w base g) (cal__law_is_int : Cal P w base g 3 "_law_is_int" ["value", "low", "high"] M__law_is_int) (cal__law_parts : Cal P w base g 5 "_law_parts" ["vat", "one", "other"] M__law_parts) : Cal P w base g 6 "_law_is_row" ["vat", "bounds", "every", "value"] M__law_is_row :=
  cal_of (k := 5) (N := ["vat", "bounds", "every", "value", "one", "at"]) (m := B__law_is_row) f.d__law_is_row sc__law_is_row (fun _ _ _ _ _ _ us hl => match us, hl with | [_, _, _, _], _ => rfl) f.bt fun f0 cdv A outer s H E F =>
    (vss_cons (vx_if (have F := F.x; (PW.pt (vw_or (vt_not (vt_val (x_isi F F.bt.tuple (by decide +kernel) (ve_var 3)))) (vw_or (t_cmp (o_ne F) (x_len F (va_cons (ve_var 3) va_nil)) ve_int) (vw_or1 (vt_not (vt_val (x_isi F F.bt.str (by decide +kernel) (x_ix F (ve_var 3) ve_int))))))))) (vss_one (vs_ret F.x.F ve_bl)) vss_nil) (vss_cons (vx_if (have F := F.x; (t_cmp (o_eq F) (x_ix F (ve_var 3) ve_int) ve_str)) (vss_cons (vx_if (have F := F.x; (vt_not (vt_val (ve_call (cal__law_is_int) F.F (by omega) (va_cons (x_ix F (ve_var 3) ve_int) (va_cons (x_ix F (ve_var 1) ve_int) (va_cons (x_ix F (ve_var 1) ve_int) va_nil))))))) (vss_one (vs_ret F.x.F ve_bl)) vss_nil) (vss_one (vs_ret F.x.F (have F := F.x; (ve_not (x_any F (va_cons (ve_new (n_lc [("one", 4)] F (i_seq F (ve_var 2)) (tg_name F) (fun _ _ _ _ _ F => pts_none) (fun _ _ _ _ _ F => (ve_call (cal__law_parts) F.F (by omega) (va_cons (ve_var 0) (va_cons (ve_var 4) (va_cons (x_ix F (ve_var 3) ve_int) va_nil))))))) va_nil))))))) vss_nil) (vss_cons (vx_if (have F := F.x; (PW.pt (vw_or (t_cmp (o_ne F) (x_ix F (ve_var 3) ve_int) ve_str) (vw_or (vt_not (vt_val (x_isi F F.bt.tuple (by decide +kernel) (x_ix F (ve_var 3) ve_int)))) (vw_or1 (t_cmp (o_ne F) (x_len F (va_cons (x_ix F (ve_var 3) ve_int) va_nil)) ve_int)))))) (vss_one (vs_ret F.x.F ve_bl)) vss_nil) (vss_cons (vx_if (have F := F.x; (vt_not (vt_val (x_all F (va_cons (ve_new (n_lc [("one", 4)] F (i_seq F (x_ix F (ve_var 3) ve_int)) (tg_name F) (fun _ _ _ _ _ F => pts_none) (fun _ _ _ _ _ F => (ve_call (cal__law_is_int) F.F (by omega) (va_cons (ve_var 4) (va_cons (x_ix F (ve_var 1) ve_int) (va_cons (x_ix F (ve_var 1) ve_int) va_nil))))))) va_nil))))) (vss_one (vs_ret F.x.F ve_bl)) vss_nil) (vss_one (vs_ret F.x.F (have F := F.x; (x_all F (va_cons (ve_new (n_lc [("at", 5)] F (i_seq F (ve_var 2)) (tg_name F) (fun _ _ _ _ _ F => pts_none) (fun _ _ _ _ _ F => (x_any F (va_cons (ve_new (n_lc [("one", 4)] F (i_seq F (x_ix F (ve_var 3) ve_int)) (tg_name F) (fun _ _ _ _ _ F => pts_none) (fun _ _ _ _ _ F => (ve_call (cal__law_parts) F.F (by omega) (va_cons (ve_var 0) (va_cons (ve_var 4) (va_cons (ve_var 5) va_nil))))))) va_nil))))) va_nil)))))))))
theorem sc__law_is_stuck_right : FnScope ["pot", "vat", "least", "bounds", "every", "low", "high", "levels", "told", "real", "lap", "at", "weather", "new", "seen", "due", "fault", "rows", "one", "to", "lone", "other", "values", "value", "row"] ["pot"] (L2.defScope s__law_is_stuck_right) := ⟨rfl, rfl, rfl, by decide +kernel, rfl, by decide +kernel, by decide +kernel⟩
theorem c__law_is_stuck_right (f : Facts P w base g) (cal_may_be : Cal P w base g 9 "may_be" ["vat", "bounds", "seen"] M_may_be) (cal_telling : Cal P w base g 9 "telling" ["vat", "bounds", "at"] M_telling) (cal_least_row : Cal P w base g 9 "least_row" ["vat", "bounds"] M_least_row) (cal_shows_row : Cal P w base g 9 "shows_row" ["vat", "bounds", "value"] M_shows_row) (cal_is_told : Cal P w base g 9 "is_told" ["vat", "bounds", "level", "settings"] M_is_told) (cal__law_take : Cal P w base g 3 "_law_take" ["pot", "upto"] M__law_take) (cal__law_of : Cal P w base g 4 "_law_of" ["pot", "some"] M__law_of) (cal__law_odd : Cal P w base g 5 "_law_odd" ["pot"] M__law_odd) (cal__law_bent : Cal P w base g 36 "_law_bent" ["pot", "value"] (M__law_bent 30)) (cal__law_vat : Cal P w base g 5 "_law_vat" ["pot", "small"] M__law_vat) (cal__law_level : Cal P w base g 3 "_law_level" ["vat", "level", "at", "weather"] M__law_level) (cal__law_all_behind : Cal P w base g 4 "_law_all_behind" ["vat", "level", "at"] M__law_all_behind) (cal__law_parts : Cal P w base g 5 "_law_parts" ["vat", "one", "other"] M__law_parts) (cal__law_is_row : Cal P w base g 6 "_law_is_row" ["vat", "bounds", "every", "value"] M__law_is_row) : Cal P w base g 37 "_law_is_stuck_right" ["pot"] M__law_is_stuck_right :=
  cal_of (k := 36) (N := ["pot", "vat", "least", "bounds", "every", "low", "high", "levels", "told", "real", "lap", "at", "weather", "new", "seen", "due", "fault", "rows", "one", "to", "lone", "other", "values", "value", "row"]) (m := B__law_is_stuck_right) f.d__law_is_stuck_right sc__law_is_stuck_right (fun _ _ _ _ _ _ us hl => match us, hl with | [_], _ => rfl) f.bt fun f0 cdv A outer s H E F =>
    (vss_cons (vs_tupEl F.x.F.calm (tn_cons F.x.nd (tn_cons F.x.nd tn_nil)) (pels_p (have F := F.x; (ve_call (cal__law_vat) F.F (by omega) (va_cons (ve_var 0) (va_cons ve_bl va_nil)))) (pels_p (have F := F.x; (ve_neg (x_int F (va_cons (ve_call (cal__law_take) F.F (by omega) (va_cons (ve_var 0) (va_cons ve_int va_nil))) va_nil)))) PEls.nil)) rfl (by decide)) (vss_cons (vx_set F.x.nd (have F := F.x; (ve_tup (va_cons (ve_var 2) (va_cons (x_add F (ve_var 2) (x_int F (va_cons (ve_call (cal__law_take) F.F (by omega) (va_cons (ve_var 0) (va_cons ve_int va_nil))) va_nil))) va_nil))))) (vss_cons (vs_tupEl F.x.F.calm (tn_cons F.x.nd (tn_cons F.x.nd (tn_cons F.x.nd tn_nil))) (pels_p (have F := F.x; (ve_new (n_list2 F (va_cons (x_range F (va_cons (x_ix F (ve_var 3) ve_int) (va_cons (x_add F (x_ix F (ve_var 3) ve_int) ve_int) va_nil))) va_nil)))) (pels_p (have F := F.x; (x_ix F (x_ix F (ve_var 1) ve_int) ve_int)) (pels_p (have F := F.x; (x_ix F (x_ix F (ve_var 1) ve_int) ve_int)) PEls.nil))) rfl (by decide)) (vss_cons (vs_par2 F.x.F.calm F.x.nd (pels_l (have F := F.x; (vn_lst (va_cons (x_int F (va_cons (x_add F (ve_var 5) (ve_call (cal__law_take) F.F (by omega) (va_cons (ve_var 0) (va_cons (x_add F (ve_sub (ve_var 6) (ve_var 5)) ve_int) va_nil)))) va_nil)) va_nil))) (pels_l (vn_lst va_nil) PEls.nil)) (by decide)) (vss_cons (vx_set F.x.nd (have F := F.x; (ve_call (cal__law_of) F.F (by omega) (va_cons (ve_var 0) (va_cons (ve_new (vn_lst (va_cons ve_non (va_cons ve_non (va_cons (x_int F (va_cons (ve_call (cal__law_of) F.F (by omega) (va_cons (ve_var 0) (va_cons (ve_var 4) va_nil))) va_nil)) va_nil))))) va_nil))))) (vss_cons (vs_for F.own F.x.F.calm (have F := F.x; (vi_range1 F.bt.range (va_cons (ve_call (cal__law_take) F.F (by omega) (va_cons (ve_var 0) (va_cons ve_int va_nil))) va_nil))) (pg_name F.x.nd rfl (by first | exact Or.inl rfl | exact Or.inr rfl) (by first | exact .inl rfl | exact .inr rfl)) be_name (vss_cons (vx_set F.x.nd (have F := F.x; (x_int F (va_cons (ve_call (cal__law_of) F.F (by omega) (va_cons (ve_var 0) (va_cons (ve_var 4) va_nil))) va_nil)))) (vss_cons (vx_set F.x.nd (have F := F.x; (x_int F (va_cons (ve_call (cal__law_of) F.F (by omega) (va_cons (ve_var 0) (va_cons (ve_new (n_list2 F (va_cons (x_range F (va_cons (x_ix F (x_ix F (ve_var 1) ve_int) ve_int) (va_cons (x_add F (x_ix F (x_ix F (ve_var 1) ve_int) ve_int) ve_int) va_nil))) va_nil))) va_nil))) va_nil)))) (vss_cons (vx_set F.x.nd (have F := F.x; (ve_call (cal__law_level) F.F (by omega) (va_cons (ve_var 1) (va_cons (x_ix F (ve_var 7) (ve_neg ve_int)) (va_cons (ve_if (vt_isN (ve_var 9)) (ve_var 11) (ve_var 9)) (va_cons (ve_var 12) va_nil))))))) (vss_one (vx_if (t_chain o_le o_le (ve_var 5) (ve_var 13) (ve_var 6)) (vss_cons (vx_app (ve_var 11)) (vss_one (vx_app (have F := F.x; (x_int F (va_cons (x_add F (ve_var 13) (ve_if (PW.pt (vw_and (t_cmp (o_eq F) (ve_call (cal__law_take) F.F (by omega) (va_cons (ve_var 0) (va_cons ve_int va_nil))) ve_int) (vw_and1 (t_chain o_lt o_lt (ve_var 5) (ve_var 13) (ve_var 6))))) (ve_call (cal__law_of) F.F (by omega) (va_cons (ve_var 0) (va_cons (ve_new (vn_lst (va_cons ve_int (va_cons ve_int (va_cons (ve_neg ve_int) va_nil))))) va_nil))) ve_int)) va_nil)))))) vss_nil)))))) (vss_freeze 7 (vss_freeze 8 (vss_cons (vs_tupEl F.x.F.calm (tn_cons F.x.nd (tn_cons F.x.nd tn_nil)) (pels_p (have F := F.x; (ve_tup (va_cons (x_tuple2 F (va_cons (ve_var 8) va_nil)) (va_cons (x_tuple2 F (va_cons (ve_var 7) va_nil)) va_nil)))) (pels_l (vn_lst va_nil) PEls.nil)) rfl (by decide)) (vss_cons (vs_for F.own F.x.F.calm (have F := F.x; (i_seq F (x_add F (ve_new (vn_lst (va_cons (ve_tup (va_cons ve_str va_nil)) va_nil))) (ve_new (n_lc [("at", 11)] F (i_seq F (ve_var 4)) (tg_name F) (fun _ _ _ _ _ F => pts_none) (fun _ _ _ _ _ F => (ve_tup (va_cons ve_str (va_cons (ve_var 11) va_nil))))))))) (pg_name F.x.nd rfl (by first | exact Or.inl rfl | exact Or.inr rfl) (by first | exact .inl rfl | exact .inr rfl)) be_name (vss_cons (s_newLc [("at", 11), ("one", 18), ("to", 19)] F.x (have F := F.x; (i_zip3 F (va_cons (ve_var 8) (va_cons (ve_var 7) (va_cons (x_slice F (ve_var 7) (vo_some ve_int) vo_no) va_nil))))) (tg_tup F.x (tgn_cons F.x (tgn_cons F.x (tgn_cons F.x TgN.nil)))) (fun _ _ _ _ _ F => pts_none) (fun _ _ _ _ _ F => (ve_tup (va_cons (ve_if (t_cmp (o_eq F) (ve_var 16) (ve_tup (va_cons ve_str va_nil))) (ve_var 11) (x_ix F (ve_var 16) ve_int)) (va_cons (ve_var 18) (va_cons (ve_var 19) va_nil)))))) (vss_freeze 17 (vss_one (vx_ext (have F := F.x; (ve_if (vt_val (x_all F (va_cons (ve_new (n_lc [("at", 11), ("one", 18), ("to", 19)] F (i_seq F (ve_var 17)) (tg_tup F (tgn_cons F (tgn_cons F (tgn_cons F TgN.nil)))) (fun _ _ _ _ _ F => pts_none) (fun _ _ _ _ _ F => (x_cmp (o_in F) (ve_var 19) (ve_call (cal__law_all_behind) F.F (by omega) (va_cons (ve_var 1) (va_cons (ve_var 18) (va_cons (ve_var 11) va_nil)))))))) va_nil))) (ve_new (vn_lst (va_cons (ve_var 16) va_nil))) (ve_new (vn_lst va_nil))))))))) (vss_freeze 15 (vss_cons (vx_if (have F := F.x; (vt_rpNe (t_cmp (o_ne F) (x_repr F (va_cons (ve_call (cal_may_be) F.F (by omega) (va_cons (ve_var 1) (va_cons (ve_var 3) (va_cons (ve_var 14) va_nil)))) va_nil)) (x_repr F (va_cons (x_tuple2 F (va_cons (ve_var 15) va_nil)) va_nil))))) (vss_one (vs_ret F.x.F ve_bl)) vss_nil) (vss_cons (vs_for F.own F.x.F.calm (have F := F.x; (i_seq F (ve_var 4))) (pg_name F.x.nd rfl (by first | exact Or.inl rfl | exact Or.inr rfl) (by first | exact .inl rfl | exact .inr rfl)) be_name (vss_one (vx_if (have F := F.x; (vt_rpNe (t_cmp (o_ne F) (x_repr F (va_cons (ve_call (cal_telling) F.F (by omega) (va_cons (ve_var 1) (va_cons (ve_var 3) (va_cons (ve_var 11) va_nil)))) va_nil)) (x_repr F (va_cons (x_tuple2 F (va_cons (ve_new (n_lc [("one", 18)] F (i_seq F (ve_var 4)) (tg_name F) (fun _ _ _ _ _ F => pts_one (vt_val (ve_call (cal__law_parts) F.F (by omega) (va_cons (ve_var 1) (va_cons (ve_var 18) (va_cons (ve_var 11) va_nil)))))) (fun _ _ _ _ _ F => (ve_var 18)))) va_nil)) va_nil))))) (vss_one (vs_ret F.x.F ve_bl)) vss_nil))) (vss_cons (s_newLc [("at", 11)] F.x (have F := F.x; (i_seq F (ve_var 4))) (tg_name F.x) (fun _ _ _ _ _ F => pts_one (vt_not (vt_val (x_any F (va_cons (ve_new (n_lc [("one", 18)] F (i_seq F (ve_var 4)) (tg_name F) (fun _ _ _ _ _ F => pts_none) (fun _ _ _ _ _ F => (ve_call (cal__law_parts) F.F (by omega) (va_cons (ve_var 1) (va_cons (ve_var 18) (va_cons (ve_var 11) va_nil))))))) va_nil))))) (fun _ _ _ _ _ F => (ve_var 11))) (vss_freeze 20 (vss_cons (vx_set F.x.nd (have F := F.x; (ve_if (t_cmp (o_ne F) (ve_var 20) (ve_new (vn_lst va_nil))) (ve_tup (va_cons ve_str (va_cons (x_ix F (ve_var 20) ve_int) va_nil))) ve_non))) (vss_cons (vs_for F.own F.x.F.calm (have F := F.x; (i_seq F (ve_var 4))) (pg_name F.x.nd rfl (by first | exact Or.inl rfl | exact Or.inr rfl) (by first | exact .inl rfl | exact .inr rfl)) be_name (vss_one (vs_for F.own F.x.F.calm (have F := F.x; (i_seq F (ve_var 4))) (pg_name F.x.nd rfl (by first | exact Or.inl rfl | exact Or.inr rfl) (by first | exact .inl rfl | exact .inr rfl)) be_name (vss_one (vx_if (have F := F.x; (PW.pt (vw_and (vt_isN (ve_var 15)) (vw_and1 (vt_val (x_all F (va_cons (ve_new (n_lc [("at", 11)] F (i_seq F (ve_var 4)) (tg_name F) (fun _ _ _ _ _ F => pts_none) (fun _ _ _ _ _ F => (ve_or (ve_call (cal__law_parts) F.F (by omega) (va_cons (ve_var 1) (va_cons (ve_var 18) (va_cons (ve_var 11) va_nil)))) (ve_b1 (ve_call (cal__law_parts) F.F (by omega) (va_cons (ve_var 1) (va_cons (ve_var 21) (va_cons (ve_var 11) va_nil))))))))) va_nil))))))) (vss_one (vx_set F.x.nd (ve_tup (va_cons ve_str (va_cons (ve_tup (va_cons (ve_var 18) (va_cons (ve_var 21) va_nil))) va_nil))))) vss_nil))))) (vss_cons (vx_if (have F := F.x; (vt_rpNe (t_cmp (o_ne F) (x_repr F (va_cons (ve_call (cal_least_row) F.F (by omega) (va_cons (ve_var 1) (va_cons (ve_var 3) va_nil))) va_nil)) (x_repr F (va_cons (ve_var 15) va_nil))))) (vss_one (vs_ret F.x.F ve_bl)) vss_nil) (vss_cons (vx_new F.x.nd (have F := F.x; (vn_lst (va_cons (ve_var 15) (va_cons (x_rev F (ve_var 15)) (va_cons (ve_new (n_list2 F (va_cons (ve_var 15) va_nil))) (va_cons (x_slice F (ve_var 15) vo_no (vo_some ve_int)) (va_cons (ve_tup (va_cons ve_str (va_cons (x_ix F (ve_var 3) ve_int) va_nil))) (va_cons (ve_tup (va_cons ve_str (va_cons (ve_var 3) va_nil))) (va_cons (ve_tup (va_cons ve_str (va_cons (x_rev F (ve_var 3)) va_nil))) va_nil)))))))))) (vss_cons (vx_app (have F := F.x; (ve_call (cal__law_odd) F.F (by omega) (va_cons (ve_var 0) va_nil)))) (vss_cons (vx_app (have F := F.x; (ve_tup (va_cons ve_str (va_cons (ve_tup (va_cons (x_int F (va_cons (ve_call (cal__law_of) F.F (by omega) (va_cons (ve_var 0) (va_cons (ve_var 4) va_nil))) va_nil)) (va_cons (x_int F (va_cons (ve_call (cal__law_of) F.F (by omega) (va_cons (ve_var 0) (va_cons (ve_var 4) va_nil))) va_nil)) va_nil))) va_nil))))) (vss_cons (vx_ext (have F := F.x; (ve_new (vn_lst (va_cons (ve_tup (va_cons ve_str (va_cons ve_bl va_nil))) (va_cons (ve_tup (va_cons ve_str (va_cons (ve_new (n_list2 F (va_cons (ve_var 3) va_nil))) va_nil))) va_nil)))))) (vss_freeze 22 (vss_cons (vs_for F.own F.x.F.calm (have F := F.x; (i_seq F (x_add F (ve_var 22) (ve_new (n_lc [("lap", 10)] F (vi_range1 F.bt.range (va_cons ve_int va_nil)) (tg_name F) (fun _ _ _ _ _ F => pts_none) (fun _ _ _ _ _ F => (ve_call (cal__law_bent) F.F (by omega) (va_cons (ve_var 0) (va_cons (ve_var 15) va_nil))))))))) (pg_name F.x.nd rfl (by first | exact Or.inl rfl | exact Or.inr rfl) (by first | exact .inl rfl | exact .inr rfl)) be_name (vss_one (vx_if (have F := F.x; (vt_rpNe (t_cmp (o_ne F) (x_repr F (va_cons (ve_call (cal_shows_row) F.F (by omega) (va_cons (ve_var 1) (va_cons (ve_var 3) (va_cons (ve_var 23) va_nil)))) va_nil)) (x_repr F (va_cons (ve_call (cal__law_is_row) F.F (by omega) (va_cons (ve_var 1) (va_cons (ve_var 3) (va_cons (ve_var 4) (va_cons (ve_var 23) va_nil))))) va_nil))))) (vss_one (vs_ret F.x.F ve_bl)) vss_nil))) (vss_cons (vx_set F.x.nd (have F := F.x; (x_tuple2 F (va_cons (ve_new (n_lc [("lap", 10)] F (vi_range1 F.bt.range (va_cons (ve_call (cal__law_take) F.F (by omega) (va_cons (ve_var 0) (va_cons ve_int va_nil))) va_nil)) (tg_name F) (fun _ _ _ _ _ F => pts_none) (fun _ _ _ _ _ F => (x_int F (va_cons (ve_call (cal__law_of) F.F (by omega) (va_cons (ve_var 0) (va_cons (ve_var 4) va_nil))) va_nil))))) va_nil)))) (vss_cons (vx_set F.x.nd (have F := F.x; (x_all F (va_cons (ve_new (n_lc [("at", 11)] F (i_seq F (ve_var 4)) (tg_name F) (fun _ _ _ _ _ F => pts_none) (fun _ _ _ _ _ F => (x_any F (va_cons (ve_new (n_lc [("one", 18)] F (i_seq F (ve_var 24)) (tg_name F) (fun _ _ _ _ _ F => pts_none) (fun _ _ _ _ _ F => (ve_call (cal__law_parts) F.F (by omega) (va_cons (ve_var 1) (va_cons (ve_var 18) (va_cons (ve_var 11) va_nil))))))) va_nil))))) va_nil)))) (vss_one (vs_ret F.x.F (have F := F.x; (ve_rpEq (x_cmp (o_eq F) (x_repr F (va_cons (ve_call (cal_is_told) F.F (by omega) (va_cons (ve_var 1) (va_cons (ve_var 3) (va_cons (x_ix F (ve_var 7) ve_int) (va_cons (ve_var 24) va_nil))))) va_nil)) (x_repr F (va_cons (ve_var 15) va_nil)))))))))))))))))))))))))))))))))
theorem sc__law_is_refused : FnScope ["call", "name", "value", "caught", "told", "kinds", "is_kind", "word"] ["call", "name", "value"] (L2.defScope s__law_is_refused) := ⟨rfl, rfl, rfl, by decide +kernel, rfl, by decide +kernel, by decide +kernel⟩
theorem v__law_is_refused (f : Facts P w base g) (calv__law_heard : CalV P w base g lams 11 "_law_heard" ["call"] M__law_heard) : CalV P w base g lams 12 "_law_is_refused" ["call", "name", "value"] M__law_is_refused := by
  exact calv_of (k := 11) (N := ["call", "name", "value", "caught", "told", "kinds", "is_kind", "word"]) (m := B__law_is_refused) f.d__law_is_refused sc__law_is_refused (fun _ _ _ _ _ _ us hl => match us, hl with | [_, _, _], _ => rfl) f.bt fun f0 cdv A outer s H E F =>
    (vss_cons (vx_tup F.x.F.calm F.x.K (tn_cons F.x.nd (tn_cons F.x.nd tn_nil)) (have F := F.x; (ve_callV (lams := lams) caps__law_is_refused calv__law_heard F.F (by omega) (va_cons (ve_var 0) va_nil) ct_nil))) (vss_cons (vx_new F.x.nd (have F := F.x; (vn_lst (va_cons (ve_tup (va_cons (x_isE F f.isc_BadVat (ve_var 3)) (va_cons ve_str va_nil))) (va_cons (ve_tup (va_cons (x_isE F f.isc_BadLever (ve_var 3)) (va_cons ve_str va_nil))) va_nil))))) (vss_cons (vx_ext (have F := F.x; (ve_new (vn_lst (va_cons (ve_tup (va_cons (x_isE F f.isc_BadReadings (ve_var 3)) (va_cons ve_str va_nil))) (va_cons (ve_tup (va_cons (x_isE F f.isc_BadLevel (ve_var 3)) (va_cons ve_str va_nil))) va_nil)))))) (vss_freeze 5 (vss_one (vs_retV (have F := F.x; (ve_and (x_cmp (o_eq F) (ve_new (n_lc [("is_kind", 6), ("word", 7)] F (i_seq F (ve_var 5)) (tg_tup F (tgn_cons F (tgn_cons F TgN.nil))) (fun _ _ _ _ _ F => pts_one (vt_val (ve_var 6))) (fun _ _ _ _ _ F => (ve_var 7)))) (ve_new (vn_lst (va_cons (ve_var 1) va_nil)))) (ve_b1 (ve_rpEq (x_cmp (o_eq F) (x_repr F (va_cons (x_val F f.val (ve_var 3)) va_nil)) (x_repr F (va_cons (ve_var 2) va_nil)))))))))))))
theorem ct__law_are_refused {f : Addr} {cdv : Value} {A : Around} {outer : List Env} {s : Shared} {H : Hp} {E : XK} : CapTOk lams (vX P w g base ["vat", "name", "some", "value", "first", "calls", "call"] "_law_are_refused" s__law_are_refused f cdv A outer s H E) caps__law_are_refused := (ct_cons (i := 0) (js := [4]) (L := lam_0) rfl (cap_by (by kernel_rfl)) (ct_cons (i := 1) (js := [4]) (L := lam_1) rfl (cap_by (by kernel_rfl)) (ct_cons (i := 2) (js := [4]) (L := lam_2) rfl (cap_by (by kernel_rfl)) (ct_cons (i := 3) (js := [4]) (L := lam_3) rfl (cap_by (by kernel_rfl)) (ct_cons (i := 4) (js := [4]) (L := lam_4) rfl (cap_by (by kernel_rfl)) (ct_cons (i := 5) (js := [0, 3]) (L := lam_5) rfl (cap_by (by kernel_rfl)) (ct_cons (i := 6) (js := [0, 3]) (L := lam_6) rfl (cap_by (by kernel_rfl)) (ct_cons (i := 7) (js := [0, 3]) (L := lam_7) rfl (cap_by (by kernel_rfl)) (ct_cons (i := 8) (js := [0]) (L := lam_8) rfl (cap_by (by kernel_rfl)) ct_nil)))))))))
theorem sc__law_are_refused : FnScope ["vat", "name", "some", "value", "first", "calls", "call"] [] (L2.defScope s__law_are_refused) := ⟨rfl, rfl, rfl, by decide +kernel, rfl, by decide +kernel, by decide +kernel⟩
theorem v__law_are_refused (f : Facts P w base g) (cal_may_be : Cal P w base g 9 "may_be" ["vat", "bounds", "seen"] M_may_be) (cal_telling : Cal P w base g 9 "telling" ["vat", "bounds", "at"] M_telling) (cal_least_row : Cal P w base g 9 "least_row" ["vat", "bounds"] M_least_row) (cal_shows_row : Cal P w base g 9 "shows_row" ["vat", "bounds", "value"] M_shows_row) (cal_is_told : Cal P w base g 9 "is_told" ["vat", "bounds", "level", "settings"] M_is_told) (calv__law_is_refused : CalV P w base g lams 12 "_law_is_refused" ["call", "name", "value"] M__law_is_refused) : CalV P w base g lams 13 "_law_are_refused" [] M__law_are_refused := by
  exact calm_of (k := 12) (N := ["vat", "name", "some", "value", "first", "calls", "call"]) (m := B__law_are_refused) f.k__law_are_refused sc__law_are_refused (fun _ _ _ _ _ _ us hl => match us, hl with | [], _ => rfl) f.bt fun f0 c Pt A outer s H E TB hTm hTu F =>
    (vss_cons (vx_set F.x.nd (ve_tup (va_cons ve_int (va_cons ve_int (va_cons ve_int (va_cons (ve_tup (va_cons (ve_neg ve_int) (va_cons ve_int va_nil))) (va_cons (ve_tup (va_cons (ve_neg ve_int) (va_cons ve_int va_nil))) va_nil))))))) (vss_cons (vs_for2 F.own F.x.F.calm (have F := F.x; (i_seq F (ve_tup (va_cons (ve_tup (va_cons ve_str (va_cons (ve_tup (va_cons ve_non (va_cons ve_int (va_cons (x_slice F (ve_var 0) vo_no (vo_some ve_int)) va_nil)))) va_nil))) (va_cons (ve_tup (va_cons ve_str (va_cons (ve_tup (va_cons ve_non (va_cons (ve_tup (va_cons ve_int (va_cons ve_int va_nil))) (va_cons (ve_tup (va_cons ve_int (va_cons ve_int va_nil))) (va_cons (ve_new (vn_lst (va_cons ve_int (va_cons ve_int va_nil)))) va_nil))))) va_nil))) va_nil))))) (f_tup F.x.F.calm F.x.K (tn_cons F.x.nd (tn_cons F.x.nd tn_nil))) (vss_one (vs_for F.own F.x.F.calm (have F := F.x; (i_seq F (ve_var 2))) (pg_name F.x.nd rfl (by first | exact Or.inl rfl | exact Or.inr rfl) (by first | exact .inl rfl | exact .inr rfl)) be_name (vss_cons (vx_set F.x.nd (have F := F.x; (ve_if (t_cmp (o_eq F) (ve_var 1) ve_str) (ve_new (vn_lst (va_cons (ve_var 3) (va_cons ve_non va_nil)))) (ve_new (vn_lst (va_cons (ve_var 0) (va_cons (ve_var 3) va_nil))))))) (vss_cons (vx_new F.x.nd (vn_lst (va_cons (ve_lam (L := lam_0) TB rfl hTm hTu rfl (by kernel_rfl) (by kernel_rfl) (by kernel_rfl) (by kernel_rfl) rfl (lamfree_by (by kernel_rfl))) va_nil))) (vss_cons (vx_app (ve_lam (L := lam_1) TB rfl hTm hTu rfl (by kernel_rfl) (by kernel_rfl) (by kernel_rfl) (by kernel_rfl) rfl (lamfree_by (by kernel_rfl)))) (vss_cons (vx_app (ve_lam (L := lam_2) TB rfl hTm hTu rfl (by kernel_rfl) (by kernel_rfl) (by kernel_rfl) (by kernel_rfl) rfl (lamfree_by (by kernel_rfl)))) (vss_cons (vx_app (ve_lam (L := lam_3) TB rfl hTm hTu rfl (by kernel_rfl) (by kernel_rfl) (by kernel_rfl) (by kernel_rfl) rfl (lamfree_by (by kernel_rfl)))) (vss_cons (vx_app (ve_lam (L := lam_4) TB rfl hTm hTu rfl (by kernel_rfl) (by kernel_rfl) (by kernel_rfl) (by kernel_rfl) rfl (lamfree_by (by kernel_rfl)))) (vss_freeze 5 (vss_one (vx_if (have F := F.x; (vt_not (vt_val (x_all F (va_cons (ve_new (vn_lcV [("call", 6)] caps__law_are_refused F (i_seq F (ve_var 5)) (fun _ _ _ _ _ hx F => (ve_callV (lams := lams) [] calv__law_is_refused F.F (by omega) (va_cons (ve_var 6) (va_cons (ve_var 1) (va_cons (ve_var 3) va_nil))) ct_nil (hx := hx))) ct__law_are_refused)) va_nil))))) (vss_one (vs_retV ve_bl)) vss_nil)))))))))))) (vss_cons (vs_for F.own F.x.F.calm (have F := F.x; (i_seq F (ve_tup (va_cons ve_non (va_cons (ve_tup va_nil) (va_cons (ve_tup (va_cons (ve_tup va_nil) (va_cons (ve_tup va_nil) va_nil))) (va_cons (ve_tup (va_cons (ve_tup (va_cons ve_int va_nil)) (va_cons (ve_tup (va_cons ve_int va_nil)) va_nil))) (va_cons (ve_tup (va_cons (ve_tup (va_cons ve_int va_nil)) (va_cons (ve_tup (va_cons ve_int (va_cons ve_int va_nil))) va_nil))) (va_cons (ve_tup (va_cons (ve_tup (va_cons ve_int va_nil)) (va_cons (ve_tup (va_cons ve_int (va_cons ve_int va_nil))) va_nil))) (va_cons (ve_tup (va_cons (ve_tup (va_cons ve_bl va_nil)) (va_cons (ve_tup (va_cons ve_int (va_cons ve_int va_nil))) va_nil))) (va_cons (ve_new (vn_lst (va_cons (ve_tup va_nil) (va_cons (ve_tup (va_cons ve_int va_nil)) va_nil)))) va_nil))))))))))) (pg_name F.x.nd rfl (by first | exact Or.inl rfl | exact Or.inr rfl) (by first | exact .inl rfl | exact .inr rfl)) be_name (vss_one (vx_if (have F := F.x; (vt_not (vt_val (ve_callV (lams := lams) caps__law_are_refused calv__law_is_refused F.F (by omega) (va_cons (ve_lam (L := lam_5) TB rfl hTm hTu rfl (by kernel_rfl) (by kernel_rfl) (by kernel_rfl) (by kernel_rfl) rfl (lamfree_by (by kernel_rfl))) (va_cons ve_str (va_cons (ve_var 3) va_nil))) ct__law_are_refused)))) (vss_one (vs_retV ve_bl)) vss_nil))) (vss_cons (vs_for F.own F.x.F.calm (have F := F.x; (i_seq F (ve_tup (va_cons ve_non (va_cons ve_int (va_cons (ve_neg ve_int) (va_cons ve_bl va_nil))))))) (pg_name F.x.nd rfl (by first | exact Or.inl rfl | exact Or.inr rfl) (by first | exact .inl rfl | exact .inr rfl)) be_name (vss_one (vx_if (have F := F.x; (vt_not (vt_val (ve_callV (lams := lams) caps__law_are_refused calv__law_is_refused F.F (by omega) (va_cons (ve_lam (L := lam_6) TB rfl hTm hTu rfl (by kernel_rfl) (by kernel_rfl) (by kernel_rfl) (by kernel_rfl) rfl (lamfree_by (by kernel_rfl))) (va_cons ve_str (va_cons (ve_var 3) va_nil))) ct__law_are_refused)))) (vss_one (vs_retV ve_bl)) vss_nil))) (vss_cons (vs_for F.own F.x.F.calm (have F := F.x; (i_seq F (ve_tup (va_cons ve_non (va_cons (ve_tup (va_cons ve_int va_nil)) (va_cons (ve_new (vn_lst (va_cons ve_int va_nil))) (va_cons (ve_tup (va_cons ve_bl va_nil)) (va_cons (x_mul F (ve_tup (va_cons ve_int va_nil)) ve_int) va_nil)))))))) (pg_name F.x.nd rfl (by first | exact Or.inl rfl | exact Or.inr rfl) (by first | exact .inl rfl | exact .inr rfl)) be_name (vss_one (vx_if (have F := F.x; (vt_not (vt_val (ve_callV (lams := lams) caps__law_are_refused calv__law_is_refused F.F (by omega) (va_cons (ve_lam (L := lam_7) TB rfl hTm hTu rfl (by kernel_rfl) (by kernel_rfl) (by kernel_rfl) (by kernel_rfl) rfl (lamfree_by (by kernel_rfl))) (va_cons ve_str (va_cons (ve_var 3) va_nil))) ct__law_are_refused)))) (vss_one (vs_retV ve_bl)) vss_nil))) (vss_cons (vx_if (have F := F.x; (vt_not (vt_val (ve_callV (lams := lams) caps__law_are_refused calv__law_is_refused F.F (by omega) (va_cons (ve_lam (L := lam_8) TB rfl hTm hTu rfl (by kernel_rfl) (by kernel_rfl) (by kernel_rfl) (by kernel_rfl) rfl (lamfree_by (by kernel_rfl))) (va_cons ve_str (va_cons ve_int va_nil))) ct__law_are_refused)))) (vss_one (vs_retV ve_bl)) vss_nil) (vss_one (vs_retV (have F := F.x; (x_cmp (o_eq F) (ve_callP cal_least_row F.F (by omega) (va_cons (ve_var 0) (va_cons (ve_tup (va_cons (ve_neg ve_int) (va_cons ve_int va_nil))) va_nil))) (ve_tup (va_cons ve_str (va_cons (ve_tup (va_cons (ve_neg ve_int) (va_cons ve_int va_nil))) va_nil)))))))))))))
theorem sc_law : FnScope ["script", "place", "pot", "lap"] ["script"] (L2.defScope s_law) := ⟨rfl, rfl, rfl, by decide +kernel, rfl, by decide +kernel, by decide +kernel⟩
theorem c_law (f : Facts P w base g) (cal__law_pot : CalN P w base g 3 "_law_pot" ["script", "place"] M__law_pot) (cal__law_places : Cal P w base g 3 "_law_places" ["script", "most"] M__law_places) (cal__law_is_stuck_right : Cal P w base g 37 "_law_is_stuck_right" ["pot"] M__law_is_stuck_right) (cal__law_are_refused : Cal P w base g 13 "_law_are_refused" [] M__law_are_refused) (fp : ∀ a, Facts P w base (g.at_ a)) (calp__law_places : ∀ a, Cal P w base (g.at_ a) 3 "_law_places" ["script", "most"] M__law_places) (calp__law_is_stuck_right : ∀ a, Cal P w base (g.at_ a) 37 "_law_is_stuck_right" ["pot"] M__law_is_stuck_right) (calp__law_are_refused : ∀ a, Cal P w base (g.at_ a) 13 "_law_are_refused" [] M__law_are_refused) (hpa : g.pa = none) : Cal P w base g 38 "law" ["script"] M_law :=
  cal_of (k := 37) (N := ["script", "place", "pot", "lap"]) (m := B_law) f.d_law sc_law (fun _ _ _ _ _ _ us hl => match us, hl with | [_], _ => rfl) f.bt fun f0 cdv A outer s H E F =>
    (vss_cons (vx_if (have F := F.x; (vt_not (vt_val (ve_call0 (cal__law_are_refused) F.F (by omega))))) (vss_one (vs_ret F.x.F ve_bl)) vss_nil) (vss_cons (vs_for F.own F.x.F.calm (have F := F.x; (i_seq F (ve_call (cal__law_places) F.F (by omega) (va_cons (ve_var 0) (va_cons ve_int va_nil))))) (pg_name F.x.nd rfl (by first | exact Or.inl rfl | exact Or.inr rfl) (by first | exact .inl rfl | exact .inr rfl)) be_name (vss_pot hpa F.x.nd (vn_call cal__law_pot F.x.F (by omega) (va_cons (ve_var 0) (va_cons (ve_var 1) va_nil))) (fun a => have F := F.at_ (a := a); (vss_one (vx_if (have F := F.x; (vt_not (vt_val (x_all F (va_cons (ve_new (n_lc [("lap", 3)] F (vi_range1 F.bt.range (va_cons ve_int va_nil)) (tg_name F) (fun _ _ _ _ _ F => pts_none) (fun _ _ _ _ _ F => (ve_call ((calp__law_is_stuck_right a)) F.F (by omega) (va_cons (ve_var 2) va_nil))))) va_nil))))) (vss_one (vs_ret F.x.F ve_bl)) vss_nil))))) (vss_one (vs_ret F.x.F ve_bl))))
end
theorem law_cal {P : Program} {w : World} {base : Heap} {K : PySem.W.Frag} {mg : Str → Option Value} {T : List (Addr × Str)} (fp : ∀ pa, Facts P w base ⟨K, mg, pa, T⟩) : Cal P w base ⟨K, mg, none, T⟩ 38 "law" ["script"] M_law := by
  have cal_is_tuple : ∀ pa, Cal P w base ⟨K, mg, pa, T⟩ 3 "is_tuple" ["value", "least", "most"] M_is_tuple := fun pa => c_is_tuple (fp pa) 
  have cal_is_whole : ∀ pa, Cal P w base ⟨K, mg, pa, T⟩ 3 "is_whole" ["value"] M_is_whole := fun pa => c_is_whole (fp pa) 
  have cal_is_integer : ∀ pa, Cal P w base ⟨K, mg, pa, T⟩ 4 "is_integer" ["value", "low", "high"] M_is_integer := fun pa => c_is_integer (fp pa) (cal_is_whole pa)
  have cal_is_between : ∀ pa, Cal P w base ⟨K, mg, pa, T⟩ 5 "is_between" ["value", "most"] M_is_between := fun pa => c_is_between (fp pa) (cal_is_tuple pa) (cal_is_integer pa)
  have cal_is_vat : ∀ pa, Cal P w base ⟨K, mg, pa, T⟩ 6 "is_vat" ["value"] M_is_vat := fun pa => c_is_vat (fp pa) (cal_is_tuple pa) (cal_is_integer pa) (cal_is_between pa)
  have cal_check_vat : ∀ pa, Cal P w base ⟨K, mg, pa, T⟩ 7 "check_vat" ["value"] M_check_vat := fun pa => c_check_vat (fp pa) (cal_is_vat pa)
  have cal_check_level : ∀ pa, Cal P w base ⟨K, mg, pa, T⟩ 8 "check_level" ["vat", "value"] M_check_level := fun pa => c_check_level (fp pa) (cal_is_integer pa) (cal_check_vat pa)
  have cal_level_by : ∀ pa, Cal P w base ⟨K, mg, pa, T⟩ 3 "level_by" ["vat", "level", "lever", "weather"] M_level_by := fun pa => c_level_by (fp pa) 
  have cal_check_bounds : ∀ pa, Cal P w base ⟨K, mg, pa, T⟩ 8 "check_bounds" ["vat", "bounds"] M_check_bounds := fun pa => c_check_bounds (fp pa) (cal_is_between pa) (cal_check_vat pa)
  have cal_all_faults : ∀ pa, Cal P w base ⟨K, mg, pa, T⟩ 3 "all_faults" ["bounds"] M_all_faults := fun pa => c_all_faults (fp pa) 
  have cal_is_seen : ∀ pa, Cal P w base ⟨K, mg, pa, T⟩ 5 "is_seen" ["vat", "bounds", "value"] M_is_seen := fun pa => c_is_seen (fp pa) (cal_is_tuple pa) (cal_is_integer pa)
  have cal_fits : ∀ pa, Cal P w base ⟨K, mg, pa, T⟩ 4 "fits" ["vat", "fault", "at", "one", "other"] M_fits := fun pa => c_fits (fp pa) (cal_level_by pa)
  have cal_may_be : ∀ pa, Cal P w base ⟨K, mg, pa, T⟩ 9 "may_be" ["vat", "bounds", "seen"] M_may_be := fun pa => c_may_be (fp pa) (cal_check_bounds pa) (cal_all_faults pa) (cal_is_seen pa) (cal_fits pa)
  have cal_width_of : ∀ pa, Cal P w base ⟨K, mg, pa, T⟩ 3 "width_of" ["vat"] M_width_of := fun pa => c_width_of (fp pa) 
  have cal_parts : ∀ pa, Cal P w base ⟨K, mg, pa, T⟩ 4 "parts" ["vat", "at", "other"] M_parts := fun pa => c_parts (fp pa) (cal_width_of pa)
  have cal_telling : ∀ pa, Cal P w base ⟨K, mg, pa, T⟩ 9 "telling" ["vat", "bounds", "at"] M_telling := fun pa => c_telling (fp pa) (cal_is_integer pa) (cal_check_bounds pa) (cal_parts pa)
  have cal_least_row : ∀ pa, Cal P w base ⟨K, mg, pa, T⟩ 9 "least_row" ["vat", "bounds"] M_least_row := fun pa => c_least_row (fp pa) (cal_check_bounds pa) (cal_parts pa)
  have cal_shows_row : ∀ pa, Cal P w base ⟨K, mg, pa, T⟩ 9 "shows_row" ["vat", "bounds", "value"] M_shows_row := fun pa => c_shows_row (fp pa) (cal_is_tuple pa) (cal_is_integer pa) (cal_check_bounds pa) (cal_parts pa)
  have cal_is_told : ∀ pa, Cal P w base ⟨K, mg, pa, T⟩ 9 "is_told" ["vat", "bounds", "level", "settings"] M_is_told := fun pa => c_is_told (fp pa) (cal_is_tuple pa) (cal_is_integer pa) (cal_check_level pa) (cal_check_bounds pa) (cal_parts pa)
  have cal__law_pot : ∀ pa, CalN P w base ⟨K, mg, pa, T⟩ 3 "_law_pot" ["script", "place"] M__law_pot := fun pa => c__law_pot (fp pa) 
  have cal__law_take : ∀ pa, Cal P w base ⟨K, mg, pa, T⟩ 3 "_law_take" ["pot", "upto"] M__law_take := fun pa => c__law_take (fp pa) 
  have cal__law_of : ∀ pa, Cal P w base ⟨K, mg, pa, T⟩ 4 "_law_of" ["pot", "some"] M__law_of := fun pa => c__law_of (fp pa) (cal__law_take pa)
  have cal__law_places : ∀ pa, Cal P w base ⟨K, mg, pa, T⟩ 3 "_law_places" ["script", "most"] M__law_places := fun pa => c__law_places (fp pa) 
  have hL := fun pa => l_all (fp pa) (cal_may_be pa) (cal_telling pa) (cal_least_row pa) (cal_shows_row pa) (cal_is_told pa)
  have calv__law_heard : ∀ pa, CalV P w base ⟨K, mg, pa, T⟩ lams 11 "_law_heard" ["call"] M__law_heard := fun pa => v__law_heard (fp pa)  (hL pa)
  have cal__law_odd : ∀ pa, Cal P w base ⟨K, mg, pa, T⟩ 5 "_law_odd" ["pot"] M__law_odd := fun pa => c__law_odd (fp pa) (cal__law_of pa)
  have cal__law_is_int : ∀ pa, Cal P w base ⟨K, mg, pa, T⟩ 3 "_law_is_int" ["value", "low", "high"] M__law_is_int := fun pa => c__law_is_int (fp pa) 
  have cal__law_bent : ∀ pa, Cal P w base ⟨K, mg, pa, T⟩ 36 "_law_bent" ["pot", "value"] (M__law_bent 30) := fun pa => c__law_bent (fp pa) (cal__law_take pa) (cal__law_of pa) (cal__law_odd pa) 30
  have cal__law_vat : ∀ pa, Cal P w base ⟨K, mg, pa, T⟩ 5 "_law_vat" ["pot", "small"] M__law_vat := fun pa => c__law_vat (fp pa) (cal__law_take pa) (cal__law_of pa)
  have cal__law_level : ∀ pa, Cal P w base ⟨K, mg, pa, T⟩ 3 "_law_level" ["vat", "level", "at", "weather"] M__law_level := fun pa => c__law_level (fp pa) 
  have cal__law_all_behind : ∀ pa, Cal P w base ⟨K, mg, pa, T⟩ 4 "_law_all_behind" ["vat", "level", "at"] M__law_all_behind := fun pa => c__law_all_behind (fp pa) (cal__law_level pa)
  have cal__law_parts : ∀ pa, Cal P w base ⟨K, mg, pa, T⟩ 5 "_law_parts" ["vat", "one", "other"] M__law_parts := fun pa => c__law_parts (fp pa) (cal__law_all_behind pa)
  have cal__law_is_row : ∀ pa, Cal P w base ⟨K, mg, pa, T⟩ 6 "_law_is_row" ["vat", "bounds", "every", "value"] M__law_is_row := fun pa => c__law_is_row (fp pa) (cal__law_is_int pa) (cal__law_parts pa)
  have cal__law_is_stuck_right : ∀ pa, Cal P w base ⟨K, mg, pa, T⟩ 37 "_law_is_stuck_right" ["pot"] M__law_is_stuck_right := fun pa => c__law_is_stuck_right (fp pa) (cal_may_be pa) (cal_telling pa) (cal_least_row pa) (cal_shows_row pa) (cal_is_told pa) (cal__law_take pa) (cal__law_of pa) (cal__law_odd pa) (cal__law_bent pa) (cal__law_vat pa) (cal__law_level pa) (cal__law_all_behind pa) (cal__law_parts pa) (cal__law_is_row pa)
  have calv__law_is_refused : ∀ pa, CalV P w base ⟨K, mg, pa, T⟩ lams 12 "_law_is_refused" ["call", "name", "value"] M__law_is_refused := fun pa => v__law_is_refused (fp pa) (calv__law_heard pa)
  have cal__law_are_refused : ∀ pa, Cal P w base ⟨K, mg, pa, T⟩ 13 "_law_are_refused" [] M__law_are_refused := fun pa => (v__law_are_refused (fp pa) (cal_may_be pa) (cal_telling pa) (cal_least_row pa) (cal_shows_row pa) (cal_is_told pa) (calv__law_is_refused pa)).toP
  exact c_law (fp none) (cal__law_pot none) (cal__law_places none) (cal__law_is_stuck_right none) (cal__law_are_refused none) (fun a => fp (some a)) (fun a => cal__law_places (some a)) (fun a => cal__law_is_stuck_right (some a)) (fun a => cal__law_are_refused (some a)) rfl
end VL

namespace VL
open PySem PySem.Spec PyProof.Rows L2 LamX
/-! ### the end, over a head by facts -/
def dOf (x : Str) (st : Stmt) : He.DefD := ⟨(x, none), x, x, defArgs st, defBody st, defScope st, [], []⟩
def dMe (C m : Str) (st : Stmt) : He.DefD := ⟨(C, some m), m, C ++ "." ++ m, defArgs st, defBody st, defScope st, [], []⟩
section
variable {K : PySem.W.Frag} {mg : Str → Option Value} {h : Heap} {pa : Option Addr} {T : List (Addr × Str)} {fa : List He.Fa} {fn : List He.DefD}
theorem funD_fun {x qual : Str} {st : Stmt} {f : Addr} {fd : FuncData} (F : FunD K x qual (defArgs st) (defBody st) (defScope st) [] [] f fd) : L2.Fun K x qual st f fd := by
  obtain ⟨⟨oc, od, dV, kV, doc, pm, an, cdv, ct, osl, rfl, lk, hc, hd, hk⟩, kp⟩ := F
  rcases hd with ⟨_, rfl⟩ | ⟨hd, _⟩
  · exact ⟨⟨oc, od, kV, doc, pm, an, cdv, ct, osl, rfl, lk, hc⟩, kp⟩
  · exact absurd rfl hd
theorem defAt_h (X : K.In h) (G : h.Ns mainGlobals mg) (c : He.SaysD fa fn K) (i j : Nat) {x : Str} {st : Stmt} (h1 : fa[i]? = some (.glo x)) (h2 : fn[j]? = some (dOf x st)) : DefAt ⟨K, mg, pa, T⟩ x st := by
  obtain ⟨fd, F⟩ := c.def_ j h2
  exact ⟨_, fd, He.glo_ok X G (c.fact i h1), funD_fun F⟩
theorem makerAt_h {base : Heap} {ts : List He.Tab} {tf : List He.Defn} (X : K.In h) (G : h.Ns mainGlobals mg) (c : He.SaysD fa fn K) (i j : Nat) {x : Str} {st : Stmt} (h1 : fa[i]? = some (.glo x)) (h2 : fn[j]? = some (dOf x st))
    (tb : TabB base mg (He.cT K (x, none)).1 (He.cT K (x, none)).2) (h3 : ((He.cT K (x, none)).2, (x ++ ".<locals>.") ++ "<lambda>") ∈ T) (h4 : ∀ p ∈ T, p.1 = (He.cT K (x, none)).2 → p.2 = (x ++ ".<locals>.") ++ "<lambda>") : MakerAt base ⟨K, mg, pa, T⟩ x st := by
  obtain ⟨fd, F⟩ := c.def_ j h2
  have F' := funD_fun F
  obtain ⟨⟨oc, od, kV, doc, pm, an, cdv, ct, osl, rfl, lk, hc⟩, kp⟩ := id F'
  obtain ⟨cc, rfl⟩ := He.codeIn_ref hc
  have e : He.codeOf K (x, none) = cc := He.codeOf_eq lk rfl
  refine ⟨_, _, cc, (He.cT K (x, none)).2, He.glo_ok X G (c.fact i h1), F', rfl, ?_, h3, h4⟩
  have e2 : (He.cT K (x, none)).1 = cc := e
  rw [e2] at tb
  exact tb
theorem intG_h (X : K.In h) (G : h.Ns mainGlobals mg) (c : He.SaysD fa fn K) (i : Nat) {x : Str} {n : Int} (h1 : fa[i]? = some (.int x n)) : IntG ⟨K, mg, pa, T⟩ x n := by
  obtain ⟨t, e⟩ := He.int_ok X G (c.fact i h1)
  exact ⟨_, e, t, rfl⟩
theorem strG_h (X : K.In h) (G : h.Ns mainGlobals mg) (c : He.SaysD fa fn K) (i : Nat) {x n : Str} (h1 : fa[i]? = some (.str x n)) : StrG ⟨K, mg, pa, T⟩ x n := by
  obtain ⟨t, e⟩ := He.str_ok X G (c.fact i h1)
  exact ⟨_, e, t, rfl⟩
def freeL : List He.Fa := [.free "len", .free "abs", .free "min", .free "max", .free "int", .free "tuple", .free "list", .free "range", .free "zip", .free "all", .free "any", .free "sum", .free "repr", .free "isinstance", .free "str", .free "bool", .free "ValueError"]
theorem bt_h {rest : List He.Fa} (X : K.In h) (G : h.Ns mainGlobals mg) (c : He.SaysD (freeL ++ rest) fn K) : Bt mg :=
  ⟨He.free_ok X G (c.fact 0 rfl), He.free_ok X G (c.fact 1 rfl), He.free_ok X G (c.fact 2 rfl), He.free_ok X G (c.fact 3 rfl), He.free_ok X G (c.fact 4 rfl), He.free_ok X G (c.fact 5 rfl), He.free_ok X G (c.fact 6 rfl), He.free_ok X G (c.fact 7 rfl), He.free_ok X G (c.fact 8 rfl),
    He.free_ok X G (c.fact 9 rfl), He.free_ok X G (c.fact 10 rfl), He.free_ok X G (c.fact 11 rfl), He.free_ok X G (c.fact 12 rfl), He.free_ok X G (c.fact 13 rfl), He.free_ok X G (c.fact 14 rfl), He.free_ok X G (c.fact 15 rfl)⟩
theorem ve_free {rest : List He.Fa} (X : K.In h) (G : h.Ns mainGlobals mg) (c : He.SaysD (freeL ++ rest) fn K) : mg "ValueError" = none := He.free_ok X G (c.fact 16 rfl)
end
/-! own exceptions -/
def oexB (K : PySem.W.Frag) (C : Addr) : Bool := match K.lookup C with
  | some ⟨.type t, _, .cls cd, sl⟩ => decide (t = "type") && (match cd.mro, sl.toList with
    | .ref C' :: bm, [_, _, _, _, some (.builtin n), _] => C' == C && n == "ValueError.__new__" && !cd.hasDel && cd.hasDict && PySem.HandSPX.refsVE bm
    | _, _ => false)
  | _ => false
theorem oexB_ok {K : PySem.W.Frag} {C : Addr} (q : oexB K C = true) : ∃ nm q N bs bm sn sub ab col dd k0 k1 k2 k3 k5, K.lookup C = some (excClassObj nm q C N bs bm true sn sub ab col dd k0 k1 k2 k3 k5 "ValueError.__new__") ∧ PySem.HandSPX.refsVE bm = true := by
  unfold oexB at q
  split at q
  · rename_i t dd cd sl ho
    obtain ⟨q0, q⟩ := Bool.and_eq_true_iff.mp q
    have ht := of_decide_eq_true q0
    subst ht
    split at q
    · rename_i C' bm k0 k1 k2 k3 n k5 hm hs
      simp only [Bool.and_eq_true, beq_iff_eq, Bool.not_eq_true'] at q
      obtain ⟨_, ⟨⟨⟨hC, hn⟩, hdl⟩, hd⟩, ht⟩ := q
      subst hC
      subst hn
      obtain ⟨nm, bs, mro, ns, qn, hdc, sn, sub, ab, col, del⟩ := cd
      dsimp only at hm hdl hd
      subst hm
      subst hdl
      subst hd
      have hsl : sl = #[k0, k1, k2, k3, some (.builtin "ValueError.__new__"), k5] := by
        obtain ⟨l⟩ := sl
        simp only at hs
        rw [hs]
      subst hsl
      exact ⟨nm, qn, ns, bs, bm, sn, sub, ab, col, dd, k0, k1, k2, k3, k5, ho, ht⟩
    · cases q
  · cases q
/-- of the class x; B: the class whose __init__ it has -/
def errB (K : PySem.W.Frag) (B x : Str) : Bool := oexB K (He.ga K x) && (decide (PySem.W.findIn K (.ref (He.ga K x)) "__setattr__" = some (some (.builtin "object.__setattr__"))) && (decide (PySem.W.subIn K (.ref (He.ga K x)) (.type "BaseException") = some true) &&
  (decide (PySem.W.typeIn K (.ref (He.ga K x)) = some (.type "type")) && (PySem.W.keepIn K (.ref (He.ga K x)) && (decide (PySem.W.findIn K (.ref (He.ga K x)) "__init__" = some (some (.ref (He.fAd K (B, some "__init__"))))) &&
  (decide (PySem.W.typeIn K (.ref (He.fAd K (B, some "__init__"))) = some (.type "function")) && (decide (PySem.W.findIn K (.ref (He.ga K x)) "value" = some none)))))))) && xfB K (He.ga K x)
def exB (K : PySem.W.Frag) (x : Str) : Bool := decide (PySem.W.findIn K (.ref (He.ga K x)) "__class__" = some (some (.builtin "object.__class__"))) && (decide (PySem.W.specialIn K (.builtin "object.__class__") "__get__" = some (some (.builtin "getset_descriptor.__get__"))) && (decide (PySem.W.takesIn K (.builtin "object.__class__") = some true) && decide (PySem.W.mroIn K (He.ga K x) (.type "object") = some true)))
def iscB (K : PySem.W.Frag) (exs : List Str) (c : Str) (sub : Str → Bool) : Bool := decide (PySem.W.kitOne K (.type "NoneType") (.ref (He.ga K c)) = some false) && exs.all fun x => exB K x && decide (PySem.W.kitOne K (.ref (He.ga K x)) (.ref (He.ga K c)) = some (sub x))
def catB (K : PySem.W.Frag) (exs : List Str) (c : Str) : Bool := exs.all fun x => decide (PySem.W.exmOne K (.ref (He.ga K x)) (.ref (He.ga K c)) = some true)
def veB (K : PySem.W.Frag) : Bool := match PySem.W.findCls K (.type "ValueError") (.type "type") "__init__" with
  | some (.val (.builtin n)) => decide (n = "ValueError.__init__")
  | _ => false
theorem veB_ok {K : PySem.W.Frag} (h : veB K = true) : PySem.W.findCls K (.type "ValueError") (.type "type") "__init__" = some (.val (.builtin "ValueError.__init__")) := by
  unfold veB at h
  split at h
  · rename_i n e
    rw [e, of_decide_eq_true h]
  · cases h
section
variable {K : PySem.W.Frag} {mg : Str → Option Value} {h : Heap} {pa : Option Addr} {T : List (Addr × Str)} {fa : List He.Fa} {fn : List He.DefD} {exs : List Str}
theorem xf_of {B x : Str} (e : errB K B x = true) : XfC K (He.ga K x) := xfB_ok (Bool.and_eq_true_iff.mp e).2
theorem val_of {B x : Str} (e : errB K B x = true) : PySem.W.findIn K (.ref (He.ga K x)) "value" = some none := by
  obtain ⟨e, _⟩ := Bool.and_eq_true_iff.mp e
  obtain ⟨_, e⟩ := He.ba e
  obtain ⟨_, e⟩ := He.ba e
  obtain ⟨_, e⟩ := He.ba e
  obtain ⟨_, e⟩ := He.ba e
  obtain ⟨_, e⟩ := He.ba e
  obtain ⟨_, e⟩ := He.ba e
  obtain ⟨_, e⟩ := He.ba e
  exact of_decide_eq_true e
theorem errC_h {P : Program} {w : World} {base : Heap} {B x : Str} {st : Stmt} {fd : FuncData} {p1 p2 p3 p4 p5 p6 p7 p8 p9 p10 : Pos} (e : errB K B x = true) (hx : mg x = some (.ref (He.ga K x))) (F : L2.Fun K "__init__" (B ++ "." ++ "__init__") st (He.fAd K (B, some "__init__")) fd) (hsc : defScope st = scI)
    (hb : defBody st = [.Expr (.Call (.Attribute (.Name "ValueError" p1) "__init__" p2) [.Name "self" p3, .Name "value" p4] [] p5) p6, .Assign [.Attribute (.Name "self" p7) "value" p8] (.Name "value" p9) p10])
    (hc : ∀ env : Env, ∃ pl : Sem Bool, eval (.Call (.Attribute (.Name "ValueError" p1) "__init__" p2) [.Name "self" p3, .Name "value" p4] [] p5) env = (do
      let ov ← eval (.Name "ValueError" p1) env
      standAt p2.atName
      let (f, first) ← holding [ov] (getMethod ov "__init__" pl)
      callWith p5 f first (backTo p5 (starEach [.Name "self" p3, .Name "value" p4] env)) (backToKw p5 (keywordEach [] env))))
    (hm : mg "ValueError" = none) (vV : veB K = true) (hbi : ∀ (kV doc pm : Value) (an : Option Addr) (cdv ct : Value) (us : List Value), us.length = 2 → bindArgs (PySem.W.fnOf "__init__" (B ++ "." ++ "__init__") (L2.defArgs st) (L2.defBody st) (L2.defScope st) .none kV doc pm an cdv ct) ⟨us, []⟩ = pure ((["self", "value"] : List Str).zip us)) : ErrC P w base ⟨K, mg, pa, T⟩ x := by
  obtain ⟨e1, _⟩ := Bool.and_eq_true_iff.mp e
  obtain ⟨c1, e1⟩ := He.ba e1
  obtain ⟨c2, e1⟩ := He.ba e1
  obtain ⟨c3, e1⟩ := He.ba e1
  obtain ⟨c4, e1⟩ := He.ba e1
  obtain ⟨c5, e1⟩ := He.ba e1
  obtain ⟨c6, e1⟩ := He.ba e1
  obtain ⟨c7, c8⟩ := He.ba e1
  refine ⟨He.ga K x, He.fAd K (B, some "__init__"), fd, ⟨oexB_ok c1, of_decide_eq_true c2, of_decide_eq_true c3, of_decide_eq_true c4, c5⟩, of_decide_eq_true c6, of_decide_eq_true c7, of_decide_eq_true c8, hx, ?_, init_ok (k := 0) F hsc hb hc hm (veB_ok vV)⟩
  exact F.binds (ps := ["self", "value"]) hbi
theorem isC_h {B c : Str} {sub : Str → Bool} (e : iscB K exs c sub = true) (hx : ∀ x, exs.contains x = true → mg x = some (.ref (He.ga K x))) (he : exs.all (errB K B) = true) (hc : mg c = some (.ref (He.ga K c))) : IsC ⟨K, mg, pa, T⟩ exs c sub := by
  obtain ⟨e1, e2⟩ := He.ba e
  refine ⟨_, hc, of_decide_eq_true e1, fun x D h1 h2 => ?_⟩
  have h3 := hx x h1
  rw [show mg x = some (.ref D) from h2] at h3
  cases h3
  have hm : x ∈ exs := by simpa using h1
  obtain ⟨e3, e4⟩ := He.ba (List.all_eq_true.mp e2 x hm)
  obtain ⟨a1, e3⟩ := He.ba e3
  obtain ⟨a2, e3⟩ := He.ba e3
  obtain ⟨a3, a4⟩ := He.ba e3
  have xf := xf_of (List.all_eq_true.mp he x hm)
  exact ⟨⟨xf.ga, xf.gg, xf.exC, xf.hdC, of_decide_eq_true a1, of_decide_eq_true a2, of_decide_eq_true a3, of_decide_eq_true a4⟩, of_decide_eq_true e4⟩
theorem catC_h {c : Str} (e : catB K exs c = true) (hx : ∀ x, exs.contains x = true → mg x = some (.ref (He.ga K x))) (hc : mg c = some (.ref (He.ga K c))) : CatC ⟨K, mg, pa, T⟩ exs c := by
  refine ⟨_, hc, fun x D h1 h2 => ?_⟩
  have h3 := hx x h1
  rw [show mg x = some (.ref D) from h2] at h3
  cases h3
  exact of_decide_eq_true (List.all_eq_true.mp e x (by simpa using h1))
theorem valC_h {B : Str} (hx : ∀ x, exs.contains x = true → mg x = some (.ref (He.ga K x))) (he : exs.all (errB K B) = true) : ValC ⟨K, mg, pa, T⟩ exs := by
  refine ⟨fun x D h1 h2 => ?_⟩
  have h3 := hx x h1
  rw [show mg x = some (.ref D) from h2] at h3
  cases h3
  have e := List.all_eq_true.mp he x (by simpa using h1)
  exact ⟨xf_of e, val_of e⟩
end
/-! the law's call over such a head -/
theorem law_endX {l : PySem.W.OpenLaw} {n k : Nat} {q : Program} {loose : List Str} {XP : (Str → Option Value) → Heap → Prop} {d : DefRec} {x y : Str} {mf : List D → P3 → Res D} {N : Nat} {fa : List He.Fa} {fn : List He.DefD} {tf : List He.Defn} {ex : PySem.W.Frag → Bool} {sfx : List Str}
    (hn : l.most = some n) (hn2 : n ≤ sizeLine) (hdf : d.params.defaults = []) (hr : Room k callerA) (hd : d.name = y)
    (F : ∀ (w : World) (mg : Str → Option Value) (h : Heap) (K : PySem.W.Frag) (base : Heap), K.In h → h.Ns mainGlobals mg → He.SaysD fa fn K → ex K = true → K.In base → base.Ns mainGlobals mg → (∀ p ∈ tf.map (He.cT K), TabB base mg p.1 p.2) →
      Cal l.prog w base ⟨K, mg, none, (tf.map fun p => ((He.cT K p).2, (p.1 ++ ".<locals>.") ++ "<lambda>"))⟩ k y [x] mf)
    (hm : ∀ ns : List Int, ns.length ≤ n → (∀ z ∈ ns, Builtin.Int.intBits z ≤ 1048576) → ∃ p, mf [.scr ns] none = .ok (.bl true) p) :
    PySem.W.WalkO q loose XP (He.hookX N fa fn [] tf ex).says l.row.toRowW d [] (fun f vs => PySem.call f vs) := by
  subst hd
  refine Att.attach_callB hn hdf fun w s₀ s₁ mg mb fa' o pm cd doc a vs ns G Y ho hd hcd hmg hobj hints hlen hbits hg => ?_
  obtain ⟨K, KX, c⟩ := Y
  have c1 := c.t.d
  refine vl_call (cs := tf.map (He.cT K)) (T := tf.map fun p => ((He.cT K p).2, (p.1 ++ ".<locals>.") ++ "<lambda>")) (x := x) (k := k) KX G.T.g G.T.b G.T.builtins G.T.nolimit hg ?_ ?_ ?_ ?_ G.T.bmain hobj hints (Nat.le_trans hlen hn2) hr fun base h1 h2 h3 => ?_
  · intro p hp
    obtain ⟨p', hp', rfl⟩ := List.mem_map.mp hp
    exact c.empty p' hp'
  · intro p hp
    obtain ⟨p', hp', rfl⟩ := List.mem_map.mp hp
    exact c.out p' hp'
  · intro p hp
    obtain ⟨p', hp', rfl⟩ := List.mem_map.mp hp
    exact PySem.W.codeHd_of_K KX (c.hd p' hp')
  · intro p hp
    obtain ⟨p', hp', rfl⟩ := List.mem_map.mp hp
    exact List.mem_map.mpr ⟨_, List.mem_map.mpr ⟨p', hp', rfl⟩, rfl⟩
  · obtain ⟨f, fd, e1, e2, e3, e4⟩ := (F w mg _ K base KX G.T.g c1 c.more h1 h2 h3).ex
    have e1 : mg d.name = some (.ref f) := e1
    rw [hmg] at e1
    cases e1
    refine ⟨fd, mf, e4, fun s u hu => ?_, hm ns hlen hbits⟩
    have := e3 s [u] hu rfl
    simpa using this
end VL

namespace VL
open PySem PySem.Spec PyProof.Rows L2 LamX
def faL : List He.Fa := freeL ++ (([.glo "is_tuple", .glo "is_whole", .glo "is_integer", .glo "is_between", .glo "is_vat", .glo "check_vat", .glo "check_level", .glo "level_by", .glo "check_bounds", .glo "all_faults", .glo "is_seen", .glo "fits", .glo "may_be", .glo "width_of", .glo "parts", .glo "telling", .glo "least_row", .glo "shows_row", .glo "is_told", .glo "_law_pot", .glo "_law_take", .glo "_law_of", .glo "_law_places", .glo "_law_heard", .glo "_law_odd", .glo "_law_is_int", .glo "_law_bent", .glo "_law_vat", .glo "_law_level", .glo "_law_all_behind"] : List He.Fa) ++ (([.glo "_law_parts", .glo "_law_is_row", .glo "_law_is_stuck_right", .glo "_law_is_refused", .glo "_law_are_refused", .glo "law", .glo "LeverError", .glo "BadVat", .glo "BadLevel", .glo "BadLever", .glo "BadReadings", .int "PAIR_vats" 2, .int "FIVE" 5, .int "MOST_KEEPS" 20, .int "MOST_UNDER" 20, .int "MOST_STRENGTH" 20, .int "MOST_LEVEL" 200, .int "TRIPLE_vats" 3, .int "MOST_WEATHER" 50, .int "MOST_LEVER" 50, .str "STUCK" "stuck", .str "FINE" "fine", .int "PAIR_stuck" 2, .int "MOST_SEEN" 60, .int "TRIPLE_stuck" 3, .str "NEVER" "never", .str "ROW" "row"] : List He.Fa)))
def clsAt (i : Nat) : Stmt → Stmt
  | .ClassDef _ _ _ b _ _ _ _ _ _ _ => b.getD i (.Pass ⟨0, 0, 0, 0⟩)
  | s => s
abbrev s_init : Stmt := clsAt 0 (top 5)
def fnL : List He.DefD := ([dOf "is_tuple" s_is_tuple, dOf "is_whole" s_is_whole, dOf "is_integer" s_is_integer, dOf "is_between" s_is_between, dOf "is_vat" s_is_vat, dOf "check_vat" s_check_vat, dOf "check_level" s_check_level, dOf "level_by" s_level_by, dOf "check_bounds" s_check_bounds, dOf "all_faults" s_all_faults, dOf "is_seen" s_is_seen, dOf "fits" s_fits, dOf "may_be" s_may_be, dOf "width_of" s_width_of, dOf "parts" s_parts, dOf "telling" s_telling, dOf "least_row" s_least_row, dOf "shows_row" s_shows_row, dOf "is_told" s_is_told, dOf "_law_pot" s__law_pot, dOf "_law_take" s__law_take, dOf "_law_of" s__law_of, dOf "_law_places" s__law_places, dOf "_law_heard" s__law_heard, dOf "_law_odd" s__law_odd, dOf "_law_is_int" s__law_is_int, dOf "_law_bent" s__law_bent, dOf "_law_vat" s__law_vat, dOf "_law_level" s__law_level, dOf "_law_all_behind" s__law_all_behind] : List He.DefD) ++ (([dOf "_law_parts" s__law_parts, dOf "_law_is_row" s__law_is_row, dOf "_law_is_stuck_right" s__law_is_stuck_right, dOf "_law_is_refused" s__law_is_refused, dOf "_law_are_refused" s__law_are_refused, dOf "law" s_law, dMe "LeverError" "__init__" s_init] : List He.DefD))
def tfL : List He.Defn := [("_law_are_refused", none)]
def exK (K : PySem.W.Frag) : Bool := (veB K && (exs.all (errB K "LeverError") && (iscB K exs "BadLever" sub_BadLever && (iscB K exs "BadVat" sub_BadVat && (iscB K exs "BadLevel" sub_BadLevel && (iscB K exs "BadReadings" sub_BadReadings && catB K exs "LeverError"))))))
theorem facts_h {P : Program} {w : World} {base h : Heap} {K : PySem.W.Frag} {mg : Str → Option Value} {pa : Option Addr} (X : K.In h) (G : h.Ns mainGlobals mg) (c : He.SaysD faL fnL K) (e : exK K = true)
    (tb : ∀ p ∈ tfL.map (He.cT K), TabB base mg p.1 p.2) : Facts P w base ⟨K, mg, pa, tfL.map fun p => ((He.cT K p).2, (p.1 ++ ".<locals>.") ++ "<lambda>")⟩ := by
  obtain ⟨e0, e⟩ := He.ba e
  obtain ⟨e1, e⟩ := He.ba e
  obtain ⟨e2, e⟩ := He.ba e
  obtain ⟨e3, e⟩ := He.ba e
  obtain ⟨e4, e⟩ := He.ba e
  obtain ⟨e5, e⟩ := He.ba e
  have e6 := e
  have hx : ∀ x, exs.contains x = true → mg x = some (.ref (He.ga K x)) := fun x hx => by
    have hm : x ∈ exs := by simpa using hx
    simp only [exs, List.mem_cons, List.not_mem_nil, or_false] at hm
    rcases hm with rfl | rfl | rfl | rfl | rfl
    · exact He.glo_ok X G (c.fact 53 rfl)
    · exact He.glo_ok X G (c.fact 54 rfl)
    · exact He.glo_ok X G (c.fact 55 rfl)
    · exact He.glo_ok X G (c.fact 56 rfl)
    · exact He.glo_ok X G (c.fact 57 rfl)
  obtain ⟨fdI, FI⟩ := c.def_ 36 (d := dMe "LeverError" "__init__" s_init) rfl
  have er : ∀ x, x ∈ exs → ErrC P w base ⟨K, mg, pa, tfL.map fun p => ((He.cT K p).2, (p.1 ++ ".<locals>.") ++ "<lambda>")⟩ x := fun x hm => errC_h (st := s_init) (List.all_eq_true.mp e1 x hm) (hx x (by simpa using hm)) (funD_fun FI) rfl rfl (fun env => ⟨_, rfl⟩) (ve_free X G c) e0 (fun _ _ _ _ _ _ us hl => match us, hl with | [_, _], _ => rfl)
  exact {
    bt := bt_h X G c,
    c_PAIR_vats := intG_h X G c 58 rfl,
    c_FIVE := intG_h X G c 59 rfl,
    c_MOST_KEEPS := intG_h X G c 60 rfl,
    c_MOST_UNDER := intG_h X G c 61 rfl,
    c_MOST_STRENGTH := intG_h X G c 62 rfl,
    c_MOST_LEVEL := intG_h X G c 63 rfl,
    c_TRIPLE_vats := intG_h X G c 64 rfl,
    c_MOST_WEATHER := intG_h X G c 65 rfl,
    c_MOST_LEVER := intG_h X G c 66 rfl,
    c_STUCK := strG_h X G c 67 rfl,
    c_FINE := strG_h X G c 68 rfl,
    c_PAIR_stuck := intG_h X G c 69 rfl,
    c_MOST_SEEN := intG_h X G c 70 rfl,
    c_TRIPLE_stuck := intG_h X G c 71 rfl,
    c_NEVER := strG_h X G c 72 rfl,
    c_ROW := strG_h X G c 73 rfl,
    e_BadVat := er "BadVat" (by decide),
    e_BadLevel := er "BadLevel" (by decide),
    e_BadLever := er "BadLever" (by decide),
    e_BadReadings := er "BadReadings" (by decide),
    isc_BadLever := isC_h e2 hx e1 (hx _ (by decide)),
    isc_BadVat := isC_h e3 hx e1 (hx _ (by decide)),
    isc_BadLevel := isC_h e4 hx e1 (hx _ (by decide)),
    isc_BadReadings := isC_h e5 hx e1 (hx _ (by decide)),
    cat_LeverError := catC_h e6 hx (hx _ (by decide)),
    val := valC_h hx e1,
    d_is_tuple := defAt_h X G c 17 0 rfl rfl,
    d_is_whole := defAt_h X G c 18 1 rfl rfl,
    d_is_integer := defAt_h X G c 19 2 rfl rfl,
    d_is_between := defAt_h X G c 20 3 rfl rfl,
    d_is_vat := defAt_h X G c 21 4 rfl rfl,
    d_check_vat := defAt_h X G c 22 5 rfl rfl,
    d_check_level := defAt_h X G c 23 6 rfl rfl,
    d_level_by := defAt_h X G c 24 7 rfl rfl,
    d_check_bounds := defAt_h X G c 25 8 rfl rfl,
    d_all_faults := defAt_h X G c 26 9 rfl rfl,
    d_is_seen := defAt_h X G c 27 10 rfl rfl,
    d_fits := defAt_h X G c 28 11 rfl rfl,
    d_may_be := defAt_h X G c 29 12 rfl rfl,
    d_width_of := defAt_h X G c 30 13 rfl rfl,
    d_parts := defAt_h X G c 31 14 rfl rfl,
    d_telling := defAt_h X G c 32 15 rfl rfl,
    d_least_row := defAt_h X G c 33 16 rfl rfl,
    d_shows_row := defAt_h X G c 34 17 rfl rfl,
    d_is_told := defAt_h X G c 35 18 rfl rfl,
    d__law_pot := defAt_h X G c 36 19 rfl rfl,
    d__law_take := defAt_h X G c 37 20 rfl rfl,
    d__law_of := defAt_h X G c 38 21 rfl rfl,
    d__law_places := defAt_h X G c 39 22 rfl rfl,
    d__law_heard := defAt_h X G c 40 23 rfl rfl,
    d__law_odd := defAt_h X G c 41 24 rfl rfl,
    d__law_is_int := defAt_h X G c 42 25 rfl rfl,
    d__law_bent := defAt_h X G c 43 26 rfl rfl,
    d__law_vat := defAt_h X G c 44 27 rfl rfl,
    d__law_level := defAt_h X G c 45 28 rfl rfl,
    d__law_all_behind := defAt_h X G c 46 29 rfl rfl,
    d__law_parts := defAt_h X G c 47 30 rfl rfl,
    d__law_is_row := defAt_h X G c 48 31 rfl rfl,
    d__law_is_stuck_right := defAt_h X G c 49 32 rfl rfl,
    d__law_is_refused := defAt_h X G c 50 33 rfl rfl,
    k__law_are_refused := makerAt_h (ts := []) (tf := []) X G c 51 34 rfl rfl (tb _ (List.mem_map.mpr ⟨_, List.mem_cons_self, rfl⟩)) List.mem_cons_self (fun p hp _ => by rw [List.mem_singleton.mp hp]),
    d_law := defAt_h X G c 52 35 rfl rfl }
abbrev RW : PySem.W.OpenRow := PySem.W.OpenLaw.row PySem.Challenge.rw_steeredback_k58_whole_stuck_levers
abbrev hkL : PySem.W.Hook := He.hookX 5 faL fnL [] tfL exK
def obL (s : PySem.W.SharedT) : He.AlX := He.obsX 5 faL fnL [] tfL exK (HandSHeadRun.getT s)
theorem obL_eq (s : PySem.W.SharedT) : obL s = hkL.obs s.abs := He.obsX_eq (HandSHeadRun.getT_eq s)
def looseL : List Str := (["is_tuple", "is_whole", "is_integer", "LeverError", "BadVat", "BadLevel", "BadLever", "BadReadings", "MOST_KEEPS", "MOST_UNDER", "MOST_STRENGTH", "MOST_LEVEL", "MOST_WEATHER", "MOST_LEVER", "PAIR_vats", "TRIPLE_vats", "FIVE", "is_between", "is_vat", "check_vat", "check_level", "level_by", "MOST_SEEN", "PAIR_stuck", "TRIPLE_stuck", "FINE", "STUCK", "ROW", "NEVER", "check_bounds"] : List Str) ++ (["all_faults", "is_seen", "fits", "may_be", "width_of", "parts", "telling", "least_row", "shows_row", "is_told", "_law_pot", "_law_take", "_law_of", "_law_places", "_law_heard", "_law_odd", "_law_is_int", "_law_bent", "_law_vat", "_law_level", "_law_all_behind", "_law_parts", "_law_is_stuck_right", "_law_is_row", "_law_is_refused", "_law_are_refused"] : List Str)
theorem runL (w : World) : HandSHeadRun.RunEq RW (PySem.W.view RW.prog [61]) hkL obL 20000 looseL w := by
  intro os
  kernel_rfl
theorem walkL : ∀ ns : List Int, ns.length ≤ 63 → (∀ z ∈ ns, Builtin.Int.intBits z ≤ 1048576) → ∃ p, M_law [.scr ns] none = .ok (.bl true) p := law_math
end VL
open PySem PySem.W PySem.Calls PyProof.Rows
set_option maxRecDepth 100000 in
set_option maxHeartbeats 0 in
theorem PySem.Challenge.cw_steeredback_k58_whole_stuck_levers_holds : PySem.Challenge.rw_steeredback_k58_whole_stuck_levers.Holds := by
  w_on; o_law
  refine HandSHeadRun.head_any (r := VL.RW) (q := view VL.RW.prog [61]) (H := VL.hkL) (ob := VL.obL) (M := 20000) (loose := VL.looseL) (d := HandSHeadRun.topDef VL.RW.prog 61) (kwd := []) VL.obL_eq
    (by kernel_rfl) (fun s => by kernel_rfl) VL.runL (by kernel_rfl) (by kernel_rfl) (by kernel_rfl) (by rfl) (by first | assumption | decide +kernel) (by decide +kernel) ⟨rfl, rfl, rfl, rfl, rfl, by decide +kernel⟩ ?hw ?hc
  case hw => w_witness2
  case hc =>
    exact VL.law_endX (l := PySem.Challenge.rw_steeredback_k58_whole_stuck_levers) (n := 63) (k := 38) (x := "script") (y := "law") (mf := VL.M_law) (sfx := []) rfl (by decide) (by kernel_rfl) ⟨rfl, by decide, by decide⟩ (by kernel_rfl)
      (fun w mg h K base X G c e X2 G2 tb => VL.law_cal fun pa => VL.facts_h X G c e tb) VL.walkL
